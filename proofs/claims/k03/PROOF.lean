import PyProof.Rows.All
import HandS.ForMost
import HandS.Exc
import HandS.ExcInit
import HandS.ExcOwn
import HandS.IsInst
import HandS.Lambda
import HandS.TryOnly
import HandS.Wide
import HandS.SortInts
import HandS.Deep
import HandS.TupAny
import HandS.TupLe
import HandS.Conv
import HandS.More
import HandS.Style
import HandS.Defaults
import HandS.WordsExc
import KE.GoesEnum
import HandS.Zip
import KE.KExcIs
import HandS.ExcField
import HandS.Small
import HandS.EndOwn
import HandS.SetFor
import HandS.TupMul
import HandS.Text
import Wide.All
import OpenK.AllK
import Wide.FinOn
import PySem.Challenge.RW_barhouse_k03_whole_own_turns_and_axes
set_option Elab.async false
set_option linter.all false
set_option autoImplicit false
set_option maxRecDepth 100000
set_option maxHeartbeats 4000000
/-! DL: data layer. Values as trees over HandS. -/
namespace DL
open PySem PySem.Spec PyProof.Rows L2

/-! ### values as trees -/
inductive D where
  | non
  | bl (b : Bool)
  | int (i : Int)
  | str (x : Str)
  | tup (ds : List D)
  | lst (ds : List D)
  | dct (kvs : List (D × D))
  | exc (c : Nat) (ds : List D)
  | st
  | scr (ns : List Int)

/-- no table -/
def nTb : HO → Bool
  | .tbl _ => false
  | _ => true
structure Wd where
  F : Hp
  S : Option (Addr × Addr × Addr)
  T : List (Addr × Str)
  nt : ∀ a o, F a = some o → nTb o = true
structure Wd.le (W W' : Wd) : Prop where
  f : ∀ a o, W.F a = some o → W'.F a = some o
  s : W.S = none ∨ W'.S = W.S
  t : W'.T = W.T
theorem Wd.le.rfl' {W : Wd} : W.le W := ⟨fun _ _ h => h, .inr rfl, rfl⟩
theorem Wd.le.trans {W W1 W2 : Wd} (a : W.le W1) (b : W1.le W2) : W.le W2 := by
  refine ⟨fun c o h => b.f c o (a.f c o h), ?_, b.t.trans a.t⟩
  rcases a.s with h | h
  · exact .inl h
  · rcases b.s with h2 | h2
    · exact .inl (h ▸ h2)
    · exact .inr (h2.trans h)
def addF (F : Hp) (p : Addr) (o : HO) : Hp := if nTb o = true then upd F p o else F
theorem addF_yes {F : Hp} {p : Addr} {o : HO} (h : nTb o = true) : addF F p o = upd F p o := if_pos h
theorem addF_ne {F : Hp} {p a : Addr} {o : HO} (h : a ≠ p) : addF F p o a = F a := by
  unfold addF
  split
  · exact upd_ne h
  · rfl
theorem addF_some {F : Hp} {p a : Addr} {o u : HO} (h : addF F p o a = some u) : (a = p ∧ u = o ∧ nTb o = true) ∨ F a = some u := by
  unfold addF at h
  split at h
  · rename_i q
    by_cases e : a = p
    · subst e
      rw [upd_same] at h
      exact .inl ⟨rfl, (Option.some.inj h).symm, q⟩
    · rw [upd_ne e] at h
      exact .inr h
  · exact .inr h
def Wd.add (W : Wd) (p : Addr) (o : HO) : Wd := ⟨addF W.F p o, W.S, W.T, fun a u e => by
  rcases addF_some e with ⟨_, rfl, q⟩ | q
  · exact q
  · exact W.nt a u q⟩
theorem Wd.le_add {W : Wd} {p : Addr} {o : HO} (h : W.F p = none) : W.le (W.add p o) := by
  refine ⟨fun a u e => ?_, .inr rfl, rfl⟩
  show addF W.F p o a = some u
  rw [addF_ne (ne_of_none e h)]
  exact e
/-- no tables -/
def mask (H : Hp) : Hp := fun a => match H a with
  | some o => if nTb o = true then some o else none
  | none => none
theorem mask_some {H : Hp} {a : Addr} {o : HO} : mask H a = some o ↔ H a = some o ∧ nTb o = true := by
  unfold mask
  cases e : H a with
  | none => simp
  | some u =>
    by_cases h : nTb u = true
    · simp only [h, if_true]
      constructor
      · intro q; cases q; exact ⟨rfl, h⟩
      · intro q; exact q.1
    · simp only [h]
      constructor
      · intro q; cases q
      · rintro ⟨q, q2⟩; cases q; exact absurd q2 h
theorem mask_none {H : Hp} {a : Addr} (h : H a = none) : mask H a = none := by
  unfold mask
  rw [h]
/-- what stays of tables -/
theorem tabs_up {T : List (Addr × Str)} {H H' : Hp} (t : LamX.Tabs T H) (k : ∀ b o, H b = some o → (∀ xs, o ≠ .lst xs) → (∀ xs, o ≠ .dK xs) → H' b = some o) : LamX.Tabs T H' := fun p hp => by
  obtain ⟨ps, h1, h2, h3⟩ := t p hp
  refine ⟨ps, k _ _ h1 (fun _ z => nomatch z) (fun _ z => nomatch z), h2, fun pos cv hc => ?_⟩
  obtain ⟨c, e1, e2⟩ := h3 pos cv hc
  exact ⟨c, e1, k _ _ e2 (fun xs z => by unfold LamX.CodeO at z; cases z) (fun xs z => by unfold LamX.CodeO at z; cases z)⟩
theorem tabs_eq {T : List (Addr × Str)} {H H' : Hp} (t : LamX.Tabs T H) (k : ∀ b o, H b = some o → H' b = some o) : LamX.Tabs T H' := t.ext k

structure Gm where
  K : PySem.W.Frag
  cA : Nat → Addr
  fl : Nat → List Str

def sOk (x : Str) : Bool := decide (x.length ≤ sizeLine) && PyData.strOk x
/-- an exception object of a class, its dict at d, nothing else told -/
def ExcH (cls : Value) (d : Option Addr) (a : Addr) : HO := .ext fun h => ∃ (oe : Obj) (vs : Array Value), h.get? a = some oe ∧ Zc cls d oe ∧ oe.data = .fields vs

def keyD : Key → D
  | .inl i => .int i
  | .inr x => .str x

mutual
inductive Rep (G : Gm) (W : Wd) : V → D → Prop
  | non : Rep G W .non .non
  | bl (b : Bool) : Rep G W (.bl b) (.bl b)
  | int (i : Int) : Rep G W (.int i) (.int i)
  | str (x : Str) (h : sOk x = true) : Rep G W (.str x) (.str x)
  | tup {a : Addr} {vs : List V} {ds : List D} (h : SqT G.K W.F a vs) (r : RepL G W vs ds) (l : ds.length ≤ sizeLine) : Rep G W (.ref a) (.tup ds)
  | lst {a : Addr} {vs : List V} {ds : List D} (h : W.F a = some (.lst vs)) (r : RepL G W vs ds) (l : ds.length ≤ sizeLine) : Rep G W (.ref a) (.lst ds)
  | dct {a : Addr} {kvs : List (Key × V)} {ds : List (D × D)} (h : W.F a = some (.dK kvs)) (r : RepK G W kvs ds) (l : ds.length ≤ sizeLine) : Rep G W (.ref a) (.dct ds)
  | exc0 {a : Addr} {c : Nat} (h : W.F a = some (ExcH (.ref (G.cA c)) none a)) (f : G.fl c = []) : Rep G W (.ref a) (.exc c [])
  | exc1 {a d : Addr} {c : Nat} {f : Str} {v : V} {x : D} (h : W.F a = some (ExcH (.ref (G.cA c)) (some d) a)) (hf : G.fl c = [f]) (hd : W.F d = some (.xd [(f, v)])) (r : Rep G W v x) : Rep G W (.ref a) (.exc c [x])
  | st {a g c : Addr} (h : W.S = some (a, g, c)) : Rep G W (.ref a) .st
  | scr {a : Addr} {ns : List Int} (h : SqL G.K W.F a (ns.map .int)) (l : ns.length ≤ 63) : Rep G W (.ref a) (.scr ns)
inductive RepL (G : Gm) (W : Wd) : List V → List D → Prop
  | nil : RepL G W [] []
  | cons {v : V} {d : D} {vs : List V} {ds : List D} (h : Rep G W v d) (t : RepL G W vs ds) : RepL G W (v :: vs) (d :: ds)
inductive RepK (G : Gm) (W : Wd) : List (Key × V) → List (D × D) → Prop
  | nil : RepK G W [] []
  | cons {k : Key} {v : V} {d : D} {vs : List (Key × V)} {ds : List (D × D)} (h : Rep G W v d) (t : RepK G W vs ds) : RepK G W ((k, v) :: vs) ((keyD k, d) :: ds)
end

section
variable {G : Gm} {W W' : Wd}
theorem sqT_le {K : PySem.W.Frag} {H H' : Hp} {a : Addr} {xs : List V} (e : ∀ a o, H a = some o → H' a = some o) (h : SqT K H a xs) : SqT K H' a xs := by
  rcases h with (h | ⟨o, h⟩) | h
  · exact .inl (.inl (e _ _ h))
  · exact .inl (.inr ⟨o, e _ _ h⟩)
  · exact .inr h
theorem sqL_le {K : PySem.W.Frag} {H H' : Hp} {a : Addr} {xs : List V} (e : ∀ a o, H a = some o → H' a = some o) (h : SqL K H a xs) : SqL K H' a xs := by
  rcases h with (h | ⟨o, h⟩) | h
  · exact .inl (.inl (e _ _ h))
  · exact .inl (.inr ⟨o, e _ _ h⟩)
  · exact .inr h
mutual
theorem Rep.mono (e : W.le W') : ∀ {v : V} {d : D}, Rep G W v d → Rep G W' v d
  | _, _, .non => .non
  | _, _, .bl b => .bl b
  | _, _, .int i => .int i
  | _, _, .str x h => .str x h
  | _, _, .tup h r l => .tup (sqT_le e.f h) (RepL.mono e r) l
  | _, _, .lst h r l => .lst (e.f _ _ h) (RepL.mono e r) l
  | _, _, .scr h l => .scr (sqL_le e.f h) l
  | _, _, .dct h r l => .dct (e.f _ _ h) (RepK.mono e r) l
  | _, _, .exc0 h f => .exc0 (e.f _ _ h) f
  | _, _, .exc1 h hf hd r => .exc1 (e.f _ _ h) hf (e.f _ _ hd) (Rep.mono e r)
  | _, _, .st h => .st (by
      rcases e.s with z | z
      · rw [z] at h; cases h
      · rw [z]; exact h)
theorem RepL.mono (e : W.le W') : ∀ {v : List V} {d : List D}, RepL G W v d → RepL G W' v d
  | _, _, .nil => .nil
  | _, _, .cons h t => .cons (Rep.mono e h) (RepL.mono e t)
theorem RepK.mono (e : W.le W') : ∀ {v : List (Key × V)} {d : List (D × D)}, RepK G W v d → RepK G W' v d
  | _, _, .nil => .nil
  | _, _, .cons h t => .cons (Rep.mono e h) (RepK.mono e t)
end
theorem RepL.len : ∀ {v : List V} {d : List D}, RepL G W v d → v.length = d.length
  | _, _, .nil => rfl
  | _, _, .cons _ t => congrArg (· + 1) (RepL.len t)
theorem RepL.app : ∀ {v v' : List V} {d d' : List D}, RepL G W v d → RepL G W v' d' → RepL G W (v ++ v') (d ++ d')
  | _, _, _, _, .nil, s => s
  | _, _, _, _, .cons h t, s => .cons h (RepL.app t s)
theorem RepL.get : ∀ {v : List V} {d : List D} {i : Nat} {x : D}, RepL G W v d → d[i]? = some x → ∃ y, v[i]? = some y ∧ Rep G W y x
  | _, _, _, _, .nil, e => by simp at e
  | _, _, 0, _, .cons h _, e => by simp at e; subst e; exact ⟨_, rfl, h⟩
  | _, _, i + 1, x, .cons _ t, e => by
    obtain ⟨y, h1, h2⟩ := RepL.get (i := i) (x := x) t (by simpa using e)
    exact ⟨y, by simpa using h1, h2⟩
theorem RepL.take : ∀ {v : List V} {d : List D} (n : Nat), RepL G W v d → RepL G W (v.take n) (d.take n)
  | _, _, 0, _ => .nil
  | _, _, _ + 1, .nil => .nil
  | _, _, n + 1, .cons r t => .cons r (RepL.take n t)
theorem RepL.drop : ∀ {v : List V} {d : List D} (n : Nat), RepL G W v d → RepL G W (v.drop n) (d.drop n)
  | _, _, 0, r => r
  | _, _, _ + 1, .nil => .nil
  | _, _, n + 1, .cons _ t => RepL.drop n t
theorem RepL.set {x : V} {u : D} (r : Rep G W x u) : ∀ {v : List V} {d : List D} (i : Nat), RepL G W v d → RepL G W (v.set i x) (d.set i u)
  | _, _, _, .nil => .nil
  | _, _, 0, .cons _ t => .cons r t
  | _, _, i + 1, .cons q t => .cons q (RepL.set r i t)
theorem RepL.rev : ∀ {v : List V} {d : List D}, RepL G W v d → RepL G W v.reverse d.reverse
  | _, _, .nil => .nil
  | _, _, .cons h t => by
    rw [List.reverse_cons, List.reverse_cons]
    exact (RepL.rev t).app (.cons h .nil)
theorem RepL.ints : ∀ {v : List V} {ns : List Int}, RepL G W v (ns.map D.int) → v = ns.map V.int := by
  intro v ns
  induction ns generalizing v with
  | nil => intro r; cases r; rfl
  | cons n ns ih =>
    intro r
    cases r with
    | cons h t => cases h; rw [ih t]; rfl
theorem RepL.of_ints : ∀ (ns : List Int), RepL G W (ns.map V.int) (ns.map D.int)
  | [] => .nil
  | n :: ns => .cons (.int n) (RepL.of_ints ns)
end

/-! ### what is readable now -/
inductive RepH (G : Gm) (W : Wd) (H : Hp) : V → D → Prop
  | rep {v : V} {d : D} (h : Rep G W v d) : RepH G W H v d
  | lst {a : Addr} {vs : List V} {ds : List D} (h : H a = some (.lst vs)) (r : RepL G W vs ds) (l : ds.length ≤ sizeLine) : RepH G W H (.ref a) (.lst ds)
  | dct {a : Addr} {vs : List (Key × V)} {ds : List (D × D)} (h : H a = some (.dK vs)) (r : RepK G W vs ds) (l : ds.length ≤ sizeLine) : RepH G W H (.ref a) (.dct ds)
abbrev Sub (W : Wd) (H : Hp) : Prop := ∀ a o, W.F a = some o → H a = some o
section
variable {G : Gm} {W : Wd} {H : Hp} {v : V}
theorem RepH.int_ {i : Int} (r : RepH G W H v (.int i)) : v = .int i := by cases r with | rep h => cases h; rfl
theorem RepH.bl_ {i : Bool} (r : RepH G W H v (.bl i)) : v = .bl i := by cases r with | rep h => cases h; rfl
theorem RepH.non_ (r : RepH G W H v .non) : v = .non := by cases r with | rep h => cases h; rfl
theorem RepH.str_ {x : Str} (r : RepH G W H v (.str x)) : v = .str x ∧ sOk x = true := by cases r with | rep h => cases h; exact ⟨rfl, by assumption⟩
theorem RepH.lst_ {ds : List D} (s : Sub W H) (r : RepH G W H v (.lst ds)) : ∃ a vs, v = .ref a ∧ H a = some (.lst vs) ∧ RepL G W vs ds ∧ ds.length ≤ sizeLine := by
  cases r with
  | rep h => cases h with | lst h r l => exact ⟨_, _, rfl, s _ _ h, r, l⟩
  | lst h r l => exact ⟨_, _, rfl, h, r, l⟩
theorem RepH.scr_ {ns : List Int} (s : Sub W H) (r : RepH G W H v (.scr ns)) : ∃ a, v = .ref a ∧ SqL G.K H a (ns.map .int) ∧ ns.length ≤ 63 := by
  cases r with
  | rep h => cases h with | scr h l => exact ⟨_, rfl, sqL_le s h, l⟩
theorem RepH.tup_ {ds : List D} (s : Sub W H) (r : RepH G W H v (.tup ds)) : ∃ a vs, v = .ref a ∧ SqT G.K H a vs ∧ RepL G W vs ds ∧ ds.length ≤ sizeLine := by
  cases r with
  | rep h => cases h with | tup h r l => exact ⟨_, _, rfl, sqT_le s h, r, l⟩
theorem RepH.dct_ {ds : List (D × D)} (s : Sub W H) (r : RepH G W H v (.dct ds)) : ∃ a vs, v = .ref a ∧ H a = some (.dK vs) ∧ RepK G W vs ds ∧ ds.length ≤ sizeLine := by
  cases r with
  | rep h => cases h with | dct h r l => exact ⟨_, _, rfl, s _ _ h, r, l⟩
  | dct h r l => exact ⟨_, _, rfl, h, r, l⟩
end

/-! ### slots -/
inductive SV where
  | un
  | val (d : D)
  | ml (ds : List D)
  | md (kvs : List (D × D))
  | lam (k : Nat)
  | fuel (n : Nat)
abbrev Env := List SV
inductive B where
  | v (d : D)
  | own (i : Nat)
def rd (i : Nat) (ρ : Env) : Option D := match ρ[i]? with
  | some (.val d) => some d
  | some (.ml ds) => some (.lst ds)
  | some (.md kvs) => some (.dct kvs)
  | _ => none
def deref (ρ : Env) : B → Option D
  | .v d => some d
  | .own i => rd i ρ

/-- the judgements' fixed part -/
structure Jc where
  G : Gm
  W0 : Wd
  H0 : Hp
  lo : Nat → Addr → HO
  E : XK
  big : Nat
def cellsOf : Option (Addr × Addr × Addr) → List Addr
  | some (a, g, _) => [a, g]
  | none => []
def Own1 (J : Jc) (W : Wd) (a : Addr) : Prop := W.F a = none ∧ J.H0 a = none ∧ a ∉ cellsOf W.S
def SlotOk (J : Jc) (W : Wd) (H : Hp) (s : Option (Option V)) : SV → Prop
  | .un => True
  | .val d => ∃ v, s = some (some v) ∧ Rep J.G W v d
  | .ml ds => ∃ a vs, s = some (some (.ref a)) ∧ H a = some (.lst vs) ∧ RepL J.G W vs ds ∧ ds.length ≤ sizeLine ∧ Own1 J W a
  | .md ds => ∃ a vs, s = some (some (.ref a)) ∧ H a = some (.dK vs) ∧ RepK J.G W vs ds ∧ ds.length ≤ sizeLine ∧ Own1 J W a
  | .lam k => ∃ f φ, s = some (some (.ref f)) ∧ H f = some (J.lo k f) ∧ J.lo k f = .ext φ
  | .fuel _ => True
def isOwn : SV → Bool
  | .ml _ => true
  | .md _ => true
  | _ => false
def OwnAt (ρ : Env) (σ : L2.St) (i : Nat) (a : Addr) : Prop := (∃ s, ρ[i]? = some s ∧ isOwn s = true) ∧ σ[i]? = some (some (.ref a))
/-- the draws that are left: the last slot's word -/
def fuelOf (ρ : Env) : Nat := match ρ.getLast? with
  | some (.fuel n) => n
  | _ => 0
def BIG : Nat := 2 ^ 45
/-- the law's state -/
def stO (g c : Addr) (r t : Int) : HO := .dK [(.inr (Str.ofString "great"), .ref g), (.inr (Str.ofString "cells"), .ref c), (.inr (Str.ofString "rest"), .int r), (.inr (Str.ofString "turn"), .int t)]
structure StAt (W : Wd) (H : Hp) (a g c : Addr) : Prop where
  ok : ∃ (gs : List Int) (r t : Int), H a = some (stO g c r t) ∧ H g = some (.lst (gs.map .int)) ∧ 0 ≤ r ∧ (∀ x ∈ gs, 0 ≤ x) ∧ gs.length ≤ 63 ∧ 0 ≤ t
  cs : ∃ cs : List Int, W.F c = some (.lst (cs.map .int)) ∧ cs.length ≤ 63
  fa : W.F a = none
  fg : W.F g = none
theorem StAt.to {W W' : Wd} {H H' : Hp} {a g c : Addr} (h : StAt W H a g c) (l : W.le W') (ka : ∀ o, H a = some o → H' a = some o) (kg : ∀ o, H g = some o → H' g = some o) (fa : W'.F a = none) (fg : W'.F g = none) : StAt W' H' a g c := by
  obtain ⟨gs, r, t, h1, h2, h3⟩ := h.ok
  obtain ⟨cs, h4, h5⟩ := h.cs
  exact ⟨⟨gs, r, t, ka _ h1, kg _ h2, h3⟩, ⟨cs, l.f _ _ h4, h5⟩, fa, fg⟩
/-- not many draws were mixed -/
def TurnLe (W : Wd) (H : Hp) (B : Nat) : Prop := ∀ a g c, W.S = some (a, g, c) → ∃ r t : Int, H a = some (stO g c r t) ∧ t ≤ B
theorem TurnLe.to {W W' : Wd} {H H' : Hp} {B B' : Nat} (h : TurnLe W H B) (e : W'.S = W.S) (k : ∀ a ∈ cellsOf W.S, ∀ o, H a = some o → H' a = some o) (l : B ≤ B') : TurnLe W' H' B' := fun a g c q => by
  rw [e] at q
  obtain ⟨r, t, h1, h2⟩ := h a g c q
  exact ⟨r, t, k a (by rw [q]; exact List.mem_cons_self) _ h1, by omega⟩
/-- .. as the slots tell -/
def Bud (J : Jc) (W : Wd) (H : Hp) (f : Nat) : Prop := ∃ B, TurnLe W H B ∧ B + f ≤ J.big ∧ J.big ≤ BIG
theorem Bud.to {J : Jc} {W W' : Wd} {H H' : Hp} {f f' : Nat} (h : Bud J W H f) (e : W'.S = W.S) (k : ∀ a ∈ cellsOf W.S, ∀ o, H a = some o → H' a = some o) (l : f' ≤ f) : Bud J W' H' f' := by
  obtain ⟨B, h1, h2, h3⟩ := h
  exact ⟨B, h1.to e k (Nat.le_refl _), by omega, h3⟩
theorem fuel_set {ρ : Env} {i : Nat} {s : SV} (h : ∀ n, s ≠ .fuel n) : fuelOf (ρ.set i s) ≤ fuelOf ρ := by
  unfold fuelOf
  rw [List.getLast?_eq_getElem?, List.getLast?_eq_getElem?, List.length_set]
  by_cases q : i = ρ.length - 1
  · subst q
    rw [List.getElem?_set]
    simp only [if_true]
    by_cases l : ρ.length - 1 < ρ.length
    · rw [if_pos l]
      cases s with
      | fuel n => exact absurd rfl (h n)
      | _ => exact Nat.zero_le _
    · rw [if_neg l]
      exact Nat.zero_le _
  · rw [List.getElem?_set_ne q]
    exact Nat.le_refl _
structure StOk (W : Wd) (H : Hp) : Prop where
  cl : ∀ a g c, W.S = some (a, g, c) → StAt W H a g c
  tab : LamX.Tabs W.T H
def KeepX (W : Wd) (H0 H : Hp) : Prop := ∀ a o, H0 a = some o → a ∉ cellsOf W.S → H a = some o

structure Sim (J : Jc) (W : Wd) (ρ : Env) (σ : L2.St) (H : Hp) : Prop where
  sub : Sub W H
  len : ρ.length = σ.length
  slot : ∀ (i : Nat) (s : SV), ρ[i]? = some s → SlotOk J W H σ[i]? s
  dist : ∀ i j a, i ≠ j → OwnAt ρ σ i a → OwnAt ρ σ j a → False
  st : StOk W H
  out : KeepX W J.H0 H
  new : J.W0.S = none → ∀ a ∈ cellsOf W.S, J.H0 a = none
  fr : ∀ a o, W.F a = some o → J.W0.F a = some o ∨ J.H0 a = none
  w0 : J.W0.le W
  h0 : ∀ a o, J.H0 a = some o → nTb o = true
  bud : Bud J W H (fuelOf ρ)

section
variable {J : Jc} {W W' : Wd} {ρ : Env} {σ : L2.St} {H : Hp} {p : Addr} {o : HO}
theorem own1_add (h : Own1 J W p) {q : Addr} {o : HO} (n : p ≠ q) : Own1 J (W.add q o) p := ⟨by show addF W.F q o p = none; rw [addF_ne n]; exact h.1, h.2⟩
theorem SlotOk.upd {s : Option (Option V)} {x : SV} (h : SlotOk J W H s x) (n : H p = none) (l : W.le W') (hS : W'.S = W.S) (hF : ∀ a, W.F a = none → a ≠ p → W'.F a = none) : SlotOk J W' (upd H p o) s x := by
  cases x with
  | un => trivial
  | val d => obtain ⟨v, e, r⟩ := h; exact ⟨v, e, r.mono l⟩
  | ml ds =>
    obtain ⟨a, vs, e, ha, r, z, w1, w2, w3⟩ := h
    have na := ne_of_none ha n
    exact ⟨a, vs, e, by rw [upd_ne na]; exact ha, r.mono l, z, hF a w1 na, w2, by rw [hS]; exact w3⟩
  | md ds =>
    obtain ⟨a, vs, e, ha, r, z, w1, w2, w3⟩ := h
    have na := ne_of_none ha n
    exact ⟨a, vs, e, by rw [upd_ne na]; exact ha, r.mono l, z, hF a w1 na, w2, by rw [hS]; exact w3⟩
  | lam k =>
    obtain ⟨f, φ, e, hf, hφ⟩ := h
    exact ⟨f, φ, e, by rw [upd_ne (ne_of_none hf n)]; exact hf, hφ⟩
  | fuel n => trivial
theorem StAt.upd {a g c : Addr} (h : StAt W H a g c) (n : H p = none) (l : W.le W') (hF : ∀ a, W.F a = none → a ≠ p → W'.F a = none) : StAt W' (L2.upd H p o) a g c := by
  obtain ⟨gs, r, t, h1, h2, h3⟩ := h.ok
  have n1 := ne_of_none h1 n
  have n2 := ne_of_none h2 n
  exact h.to l (fun o e => by rw [upd_ne n1]; exact e) (fun o e => by rw [upd_ne n2]; exact e) (hF a h.fa n1) (hF g h.fg n2)
theorem Sim.free (h : Sim J W ρ σ H) (n : H p = none) : W.F p = none ∧ p ∉ cellsOf W.S ∧ J.H0 p = none := by
  have q1 : W.F p = none := by
    cases e : W.F p with
    | none => rfl
    | some u => rw [h.sub _ _ e] at n; cases n
  have q2 : p ∉ cellsOf W.S := by
    intro hm
    cases e : W.S with
    | none => rw [e] at hm; cases hm
    | some t =>
      obtain ⟨a, g, c⟩ := t
      rw [e] at hm
      obtain ⟨gs, r, t, h1, h2, _⟩ := (h.st.cl a g c e).ok
      simp only [cellsOf, List.mem_cons, List.not_mem_nil, or_false] at hm
      rcases hm with rfl | rfl
      · rw [h1] at n; cases n
      · rw [h2] at n; cases n
  refine ⟨q1, q2, ?_⟩
  cases e : J.H0 p with
  | none => rfl
  | some u => rw [h.out _ _ e q2] at n; cases n

/-- a new object, frozen -/
theorem Sim.newF (h : Sim J W ρ σ H) (n : H p = none) : Sim J (W.add p o) ρ σ (upd H p o) := by
  have nF : W.F p = none := (h.free n).1
  have hF : ∀ a, W.F a = none → a ≠ p → (W.add p o).F a = none := fun a e q => by show addF W.F p o a = none; rw [addF_ne q]; exact e
  refine ⟨fun a u e => ?_, h.len, fun i s e => (h.slot i s e).upd n (Wd.le_add nF) rfl hF, h.dist, ⟨fun a g c e => (h.st.cl a g c e).upd n (Wd.le_add nF) hF, tabs_eq h.st.tab fun b u e => by rw [upd_ne (ne_of_none e n)]; exact e⟩, fun a u e q => ?_, h.new, fun a u e => ?_, ?_, h.h0, h.bud.to rfl (fun a _ o e => by rw [upd_ne (ne_of_none e n)]; exact e) (Nat.le_refl _)⟩
  · rcases addF_some e with ⟨rfl, rfl, _⟩ | e
    · exact upd_same
    · have z := h.sub _ _ e
      rw [upd_ne (ne_of_none z n)]
      exact z
  · have z := h.out a u e q
    rw [upd_ne (ne_of_none z n)]
    exact z
  · rcases addF_some e with ⟨rfl, rfl, _⟩ | e
    · exact .inr (h.free n).2.2
    · exact h.fr _ _ e
  · exact h.w0.trans (Wd.le_add nF)
/-- a new object, not frozen -/
theorem Sim.newH (h : Sim J W ρ σ H) (n : H p = none) : Sim J W ρ σ (upd H p o) := by
  refine ⟨fun a u e => ?_, h.len, fun i s e => (h.slot i s e).upd n .rfl' rfl (fun _ z _ => z), h.dist, ⟨fun a g c e => (h.st.cl a g c e).upd n .rfl' (fun _ z _ => z), tabs_eq h.st.tab fun b u e => by rw [upd_ne (ne_of_none e n)]; exact e⟩, fun a u e q => ?_, h.new, h.fr, h.w0, h.h0, h.bud.to rfl (fun a _ o e => by rw [upd_ne (ne_of_none e n)]; exact e) (Nat.le_refl _)⟩
  · have z := h.sub a u e
    rw [upd_ne (ne_of_none z n)]
    exact z
  · have z := h.out a u e q
    rw [upd_ne (ne_of_none z n)]
    exact z
/-- H grows by one frozen object, or not at all -/
def Grow (W : Wd) (H : Hp) (W' : Wd) (H' : Hp) : Prop := (W' = W ∧ H' = H) ∨ ∃ p o, H p = none ∧ W' = W.add p o ∧ H' = upd H p o
theorem Grow.rfl' : Grow W H W H := .inl ⟨rfl, rfl⟩
theorem Sim.grow (h : Sim J W ρ σ H) {H' : Hp} (g : Grow W H W' H') : Sim J W' ρ σ H' ∧ W.le W' := by
  rcases g with ⟨rfl, rfl⟩ | ⟨p, o, n, rfl, rfl⟩
  · exact ⟨h, .rfl'⟩
  · exact ⟨h.newF n, Wd.le_add (h.free n).1⟩

/-- what a value is worth now -/
def RepB (J : Jc) (W : Wd) (σ : L2.St) (v : V) : B → Prop
  | .v d => Rep J.G W v d
  | .own i => σ[i]? = some (some v)
theorem RepB.mono {v : V} {b : B} (l : W.le W') (r : RepB J W σ v b) : RepB J W' σ v b := by
  cases b with
  | v d => exact Rep.mono l r
  | own i => exact r
theorem Sim.rdH (h : Sim J W ρ σ H) {v : V} {b : B} {d : D} (r : RepB J W σ v b) (e : deref ρ b = some d) : RepH J.G W H v d := by
  cases b with
  | v x => cases e; exact .rep r
  | own i =>
    have r : σ[i]? = some (some v) := r
    have e : rd i ρ = some d := e
    unfold rd at e
    split at e
    · rename_i x hx
      cases e
      obtain ⟨w, e1, e2⟩ := h.slot i _ hx
      rw [r] at e1; cases e1
      exact .rep e2
    · rename_i x hx
      cases e
      obtain ⟨a, vs, e1, e2, e3, e4, _⟩ := h.slot i _ hx
      rw [r] at e1; cases e1
      exact .lst e2 e3 e4
    · rename_i x hx
      cases e
      obtain ⟨a, vs, e1, e2, e3, e4, _⟩ := h.slot i _ hx
      rw [r] at e1; cases e1
      exact .dct e2 e3 e4
    · cases e
end
end DL

/-! DL: changes of the simulation; the lifts. -/
namespace DL
open PySem PySem.Spec PyProof.Rows L2
section
variable {J : Jc} {W W' : Wd} {ρ : Env} {σ : L2.St} {H H' : Hp} {p : Addr} {o : HO}

theorem get_set_ne {α : Type} {l : List α} {i j : Nat} {x : α} (h : i ≠ j) : (l.set i x)[j]? = l[j]? := List.getElem?_set_ne h
theorem get_set_eq {α : Type} {l : List α} {i : Nat} {x y : α} (h : (l.set i x)[i]? = some y) : y = x := by
  rw [List.getElem?_set] at h
  simp only [if_true] at h
  split at h
  · exact (Option.some.inj h).symm
  · cases h
theorem ownAt_set {i j : Nat} {s : SV} {v : Option V} {a : Addr} (hij : i ≠ j) (h : OwnAt (ρ.set i s) (σ.set i v) j a) : OwnAt ρ σ j a := by
  obtain ⟨⟨x, e1, e2⟩, e3⟩ := h
  rw [get_set_ne hij] at e1
  rw [get_set_ne hij] at e3
  exact ⟨⟨x, e1, e2⟩, e3⟩
/-- a slot is stored: a value that owns nothing -/
theorem Sim.put (h : Sim J W ρ σ H) {i : Nat} {s : SV} {v : Option V} (hs : SlotOk J W H (some v) s) (no : isOwn s = false) (nf : ∀ n, s ≠ .fuel n := by intro _ z; cases z) : Sim J W (ρ.set i s) (σ.set i v) H := by
  refine ⟨h.sub, by rw [List.length_set, List.length_set]; exact h.len, fun j x e => ?_, fun j k a hjk oj ok => ?_, h.st, h.out, h.new, h.fr, h.w0, h.h0, h.bud.to rfl (fun _ _ _ e => e) (fuel_set nf)⟩
  · by_cases hij : i = j
    · subst hij
      have e2 := get_set_eq e
      subst e2
      have hl : i < σ.length := by
        have z := (List.getElem?_eq_some_iff.mp e).1
        rw [List.length_set, h.len] at z
        exact z
      rw [List.getElem?_set_self hl]
      exact hs
    · rw [get_set_ne hij] at e
      rw [get_set_ne hij]
      exact h.slot j x e
  · have key : ∀ {j : Nat} {a : Addr}, OwnAt (ρ.set i s) (σ.set i v) j a → i ≠ j := by
      intro j a ⟨⟨x, e1, e2⟩, _⟩ q
      subst q
      rw [get_set_eq e1, no] at e2
      cases e2
    exact h.dist j k a hjk (ownAt_set (key oj) oj) (ownAt_set (key ok) ok)
theorem Sim.setv (h : Sim J W ρ σ H) {i : Nat} {d : D} {v : V} (r : Rep J.G W v d) : Sim J W (ρ.set i (.val d)) (σ.set i (some v)) H := h.put ⟨v, rfl, r⟩ rfl
/-- an owned cell is no other thing -/
theorem Sim.own_at (h : Sim J W ρ σ H) {i : Nat} {a : Addr} (o : OwnAt ρ σ i a) : Own1 J W a ∧ ∃ u, H a = some u ∧ ((∃ vs, u = .lst vs) ∨ ∃ vs, u = .dK vs) := by
  obtain ⟨⟨s, e1, e2⟩, e3⟩ := o
  have z := h.slot i s e1
  cases s with
  | ml ds =>
    obtain ⟨b, vs, q1, q2, _, _, q3⟩ := z
    rw [e3] at q1; cases q1
    exact ⟨q3, _, q2, .inl ⟨_, rfl⟩⟩
  | md ds =>
    obtain ⟨b, vs, q1, q2, _, _, q3⟩ := z
    rw [e3] at q1; cases q1
    exact ⟨q3, _, q2, .inr ⟨_, rfl⟩⟩
  | un => cases e2
  | val d => cases e2
  | lam k => cases e2
  | fuel k => cases e2
/-- a new list goes to a slot that owns it -/
theorem Sim.setm (h : Sim J W ρ σ H) {i : Nat} {ds : List D} {vs : List V} (n : H p = none) (r : RepL J.G W vs ds) (l : ds.length ≤ sizeLine) : Sim J W (ρ.set i (.ml ds)) (σ.set i (some (.ref p))) (upd H p (.lst vs)) := by
  have h1 : Sim J W (ρ.set i .un) (σ.set i (some (.ref p))) (upd H p (.lst vs)) := (h.newH (o := .lst vs) n).put (s := .un) trivial rfl
  obtain ⟨f1, f2, f3⟩ := h.free n
  refine ⟨h1.sub, by rw [List.length_set, List.length_set]; exact h.len, fun j x e => ?_, fun j k a hjk oj ok => ?_, h1.st, h1.out, h1.new, h1.fr, h1.w0, h1.h0, ?_⟩
  · by_cases hij : i = j
    · subst hij
      have e2 := get_set_eq e
      subst e2
      have hl : i < σ.length := by
        have z := (List.getElem?_eq_some_iff.mp e).1
        rw [List.length_set, h.len] at z
        exact z
      rw [List.getElem?_set_self hl]
      exact ⟨p, vs, rfl, upd_same, r, l, f1, f3, f2⟩
    · rw [get_set_ne hij] at e
      have z := h1.slot j x (by rw [get_set_ne hij]; exact e)
      exact z
  · have np : ∀ {j : Nat}, i ≠ j → OwnAt (ρ.set i (.ml ds)) (σ.set i (some (.ref p))) j p → False := by
      intro j hij o
      obtain ⟨_, u, e, _⟩ := h.own_at (ownAt_set hij o)
      rw [n] at e; cases e
    have hp : ∀ {a : Addr}, OwnAt (ρ.set i (.ml ds)) (σ.set i (some (.ref p))) i a → a = p := by
      intro a ⟨_, e⟩
      have := get_set_eq e
      cases this; rfl
    by_cases hij : i = j
    · subst hij
      have := hp oj; subst this
      exact np hjk ok
    · by_cases hik : i = k
      · subst hik
        have := hp ok; subst this
        exact np hij oj
      · exact h.dist j k a hjk (ownAt_set hij oj) (ownAt_set hik ok)
  · exact h.bud.to rfl (fun a _ o e => by rw [upd_ne (ne_of_none e n)]; exact e) (fuel_set fun _ z => nomatch z)
/-- an owned list changes -/
theorem Sim.write (h : Sim J W ρ σ H) {i : Nat} {a : Addr} {ds ds' : List D} {vs : List V} (e : ρ[i]? = some (.ml ds)) (es : σ[i]? = some (some (.ref a))) (r : RepL J.G W vs ds') (l : ds'.length ≤ sizeLine) : Sim J W (ρ.set i (.ml ds')) σ (upd H a (.lst vs)) := by
  have oi : OwnAt ρ σ i a := ⟨⟨_, e, rfl⟩, es⟩
  obtain ⟨⟨w1, w2, w3⟩, u, hu, hk⟩ := h.own_at oi
  have nF : ∀ b u, W.F b = some u → b ≠ a := fun b u q z => by rw [z, w1] at q; cases q
  refine ⟨fun b u q => by rw [upd_ne (nF b u q)]; exact h.sub b u q, by rw [List.length_set]; exact h.len, fun j x q => ?_, fun j k b hjk oj ok => ?_, ⟨fun b g c q => ?_, tabs_up h.st.tab fun b u e n1 n2 => by
    rw [upd_ne]
    · exact e
    · rintro rfl
      rw [e] at hu
      cases hu
      rcases hk with ⟨v, z⟩ | ⟨v, z⟩
      · exact n1 v z
      · exact n2 v z⟩, fun b u q m => ?_, h.new, h.fr, h.w0, h.h0, h.bud.to rfl (fun b hm o q => by rw [upd_ne (fun t => w3 (by rw [← t]; exact hm))]; exact q) (fuel_set fun _ z => nomatch z)⟩
  · by_cases hij : i = j
    · subst hij
      have e2 := get_set_eq q
      subst e2
      exact ⟨a, vs, es, upd_same, r, l, w1, w2, w3⟩
    · rw [get_set_ne hij] at q
      have z := h.slot j x q
      have ne : ∀ b, OwnAt ρ σ j b → b ≠ a := fun b o t => by subst t; exact h.dist i j b hij oi o
      cases x with
      | un => trivial
      | val d => exact z
      | ml es' =>
        obtain ⟨b, ws, q1, q2, q3⟩ := z
        exact ⟨b, ws, q1, by rw [upd_ne (ne b ⟨⟨_, q, rfl⟩, q1⟩)]; exact q2, q3⟩
      | md es' =>
        obtain ⟨b, ws, q1, q2, q3⟩ := z
        exact ⟨b, ws, q1, by rw [upd_ne (ne b ⟨⟨_, q, rfl⟩, q1⟩)]; exact q2, q3⟩
      | fuel n => trivial
      | lam n =>
        obtain ⟨f, φ, q1, q2, q3⟩ := z
        refine ⟨f, φ, q1, ?_, q3⟩
        rw [upd_ne]
        · exact q2
        · rintro rfl
          rw [q2, q3] at hu
          rcases hk with ⟨_, rfl⟩ | ⟨_, rfl⟩ <;> cases hu
  · have key : ∀ {j : Nat}, OwnAt (ρ.set i (.ml ds')) σ j b → OwnAt ρ σ j b := by
      intro j ⟨⟨x, q1, q2⟩, q3⟩
      by_cases hij : i = j
      · subst hij
        exact ⟨⟨_, e, rfl⟩, q3⟩
      · rw [get_set_ne hij] at q1
        exact ⟨⟨x, q1, q2⟩, q3⟩
    exact h.dist j k b hjk (key oj) (key ok)
  · have z := h.st.cl b g c q
    rw [q] at w3
    simp only [cellsOf, List.mem_cons, List.not_mem_nil, or_false, not_or] at w3
    exact z.to .rfl' (fun o e => by rw [upd_ne (fun t => w3.1 t.symm)]; exact e) (fun o e => by rw [upd_ne (fun t => w3.2 t.symm)]; exact e) z.fa z.fg
  · have hb : b ≠ a := fun t => by rw [t, w2] at q; cases q
    rw [upd_ne hb]
    exact h.out b u q m
/-- an owned list is let go: it never changes again -/
theorem Sim.freeze (h : Sim J W ρ σ H) {i : Nat} {ds : List D} (e : ρ[i]? = some (.ml ds)) : ∃ a W', σ[i]? = some (some (.ref a)) ∧ W.le W' ∧ Rep J.G W' (.ref a) (.lst ds) ∧ Sim J W' (ρ.set i (.val (.lst ds))) σ H := by
  obtain ⟨a, vs, es, ha, r, l, w1, w2, w3⟩ := h.slot i _ e
  have oi : OwnAt ρ σ i a := ⟨⟨_, e, rfl⟩, es⟩
  have le := Wd.le_add (o := .lst vs) w1
  have atF : ∀ b, b ≠ a → (W.add a (.lst vs)).F b = W.F b := fun b q => addF_ne (F := W.F) (o := .lst vs) q
  have rep : Rep J.G (W.add a (.lst vs)) (.ref a) (.lst ds) := .lst (show upd W.F a (.lst vs) a = _ from upd_same) (r.mono le) l
  refine ⟨a, W.add a (.lst vs), es, le, rep, ⟨fun b u q => ?_, by rw [List.length_set]; exact h.len, fun j x q => ?_, fun j k b hjk oj ok => ?_, ⟨fun b g c q => ?_, h.st.tab⟩, h.out, h.new, fun b u q => ?_, h.w0.trans le, h.h0, h.bud.to rfl (fun _ _ _ e => e) (fuel_set fun _ z => nomatch z)⟩⟩
  · by_cases hb : b = a
    · subst hb
      have q : upd W.F b (.lst vs) b = some u := q
      rw [upd_same] at q
      rw [ha]; exact q
    · rw [atF b hb] at q
      exact h.sub b u q
  · by_cases hij : i = j
    · subst hij
      have e2 := get_set_eq q
      subst e2
      exact ⟨_, es, rep⟩
    · rw [get_set_ne hij] at q
      have z := h.slot j x q
      have ne : ∀ b, OwnAt ρ σ j b → b ≠ a := fun b o t => by subst t; exact h.dist i j b hij oi o
      cases x with
      | un => trivial
      | val d =>
        obtain ⟨v, q1, q2⟩ := z
        exact ⟨v, q1, q2.mono le⟩
      | ml es' =>
        obtain ⟨b, ws, q1, q2, q3, q4, p1, p2⟩ := z
        exact ⟨b, ws, q1, q2, q3.mono le, q4, by rw [atF b (ne b ⟨⟨_, q, rfl⟩, q1⟩)]; exact p1, p2⟩
      | md es' =>
        obtain ⟨b, ws, q1, q2, q3, q4, p1, p2⟩ := z
        exact ⟨b, ws, q1, q2, q3.mono le, q4, by rw [atF b (ne b ⟨⟨_, q, rfl⟩, q1⟩)]; exact p1, p2⟩
      | lam n => exact z
      | fuel n => trivial
  · have key : ∀ {j : Nat}, OwnAt (ρ.set i (.val (.lst ds))) σ j b → OwnAt ρ σ j b := by
      intro j ⟨⟨x, q1, q2⟩, q3⟩
      by_cases hij : i = j
      · subst hij
        rw [get_set_eq q1] at q2; cases q2
      · rw [get_set_ne hij] at q1
        exact ⟨⟨x, q1, q2⟩, q3⟩
    exact h.dist j k b hjk (key oj) (key ok)
  · have z := h.st.cl b g c q
    have q' : W.S = some (b, g, c) := q
    rw [q'] at w3
    simp only [cellsOf, List.mem_cons, List.not_mem_nil, or_false, not_or] at w3
    exact z.to le (fun _ e => e) (fun _ e => e) (by rw [atF b (fun t => w3.1 t.symm)]; exact z.fa) (by rw [atF g (fun t => w3.2 t.symm)]; exact z.fg)
  · by_cases hb : b = a
    · subst hb
      exact .inr w2
    · rw [atF b hb] at q
      exact h.fr b u q
/-- what a call keeps -/
structure KeepC (m : Nat) (W : Wd) (H : Hp) (W' : Wd) (H' : Hp) : Prop where
  le : W.le W'
  sub : Sub W' H'
  st : StOk W' H'
  keep : KeepX W' (mask H) H'
  new : W.S = none → ∀ a ∈ cellsOf W'.S, mask H a = none
  fr : ∀ a o, W'.F a = some o → W.F a = some o ∨ mask H a = none
  bud : ∀ B, TurnLe W H B → TurnLe W' H' (B + m)
/-- so many draws less -/
def lowF : Nat → Env → Env
  | 0, ρ => ρ
  | m + 1, ρ => ρ.set (ρ.length - 1) (.fuel (fuelOf ρ - (m + 1)))
theorem lowF_len (m : Nat) (ρ : Env) : (lowF m ρ).length = ρ.length := by
  cases m with
  | zero => rfl
  | succ m => exact List.length_set
theorem fuel_low {m : Nat} {ρ : Env} (h : m ≤ fuelOf ρ) : fuelOf (lowF m ρ) + m = fuelOf ρ := by
  cases m with
  | zero => rfl
  | succ m =>
    have hl : ρ.length - 1 < ρ.length := by
      cases ρ with
      | nil => simp [fuelOf] at h
      | cons a l => simp
    have : fuelOf (lowF (m + 1) ρ) = fuelOf ρ - (m + 1) := by
      show fuelOf (ρ.set (ρ.length - 1) (.fuel (fuelOf ρ - (m + 1)))) = _
      generalize fuelOf ρ - (m + 1) = k
      unfold fuelOf
      rw [List.getLast?_eq_getElem?, List.length_set, List.getElem?_set_self hl]
    omega
theorem Sim.call {m : Nat} (h : Sim J W ρ σ H) (k : KeepC m W H W' H') (hm : m ≤ fuelOf ρ) : Sim J W' (lowF m ρ) σ H' := by
  have slot' : ∀ (j : Nat) (x : SV), (lowF m ρ)[j]? = some x → ρ[j]? = some x ∨ ∃ n, x = .fuel n := fun j x e => by
    cases m with
    | zero => exact .inl e
    | succ m =>
      have e : (ρ.set (ρ.length - 1) (.fuel (fuelOf ρ - (m + 1))))[j]? = some x := e
      by_cases q : ρ.length - 1 = j
      · subst q
        exact .inr ⟨_, get_set_eq e⟩
      · rw [get_set_ne q] at e
        exact .inl e
  have own' : ∀ {j : Nat} {a : Addr}, OwnAt (lowF m ρ) σ j a → OwnAt ρ σ j a := by
    intro j a ⟨⟨x, e1, e2⟩, e3⟩
    rcases slot' j x e1 with z | ⟨n, rfl⟩
    · exact ⟨⟨x, z, e2⟩, e3⟩
    · cases e2
  have nc : ∀ a, a ∉ cellsOf W.S → (∃ u, mask H a = some u) → a ∉ cellsOf W'.S := fun a q ⟨u, e⟩ m => by
    rcases k.le.s with z | z
    · rw [k.new z a m] at e; cases e
    · rw [z] at m; exact q m
  have own : ∀ a u, H a = some u → nTb u = true → Own1 J W a → Own1 J W' a ∧ H' a = some u := fun a u e nb ⟨w1, w2, w3⟩ => by
    have e := mask_some.mpr ⟨e, nb⟩
    have n := nc a w3 ⟨u, e⟩
    refine ⟨⟨?_, w2, n⟩, k.keep a u e n⟩
    cases q : W'.F a with
    | none => rfl
    | some o =>
      rcases k.fr a o q with z | z
      · rw [z] at w1; cases w1
      · rw [z] at e; cases e
  refine ⟨k.sub, by rw [lowF_len]; exact h.len, fun j x q => ?_, fun i j a hij oi oj => h.dist i j a hij (own' oi) (own' oj), k.st, fun a u e m => ?_, fun e a m => ?_, fun a o e => ?_, h.w0.trans k.le, h.h0, ?_⟩
  · have q := slot' j x q
    rcases q with q | ⟨n, rfl⟩
    case inr => trivial
    have z := h.slot j x q
    cases x with
    | un => trivial
    | val d =>
      obtain ⟨v, q1, q2⟩ := z
      exact ⟨v, q1, q2.mono k.le⟩
    | ml es' =>
      obtain ⟨b, ws, q1, q2, q3, q4, p⟩ := z
      obtain ⟨p1, p2⟩ := own b _ q2 rfl p
      exact ⟨b, ws, q1, p2, q3.mono k.le, q4, p1⟩
    | md es' =>
      obtain ⟨b, ws, q1, q2, q3, q4, p⟩ := z
      obtain ⟨p1, p2⟩ := own b _ q2 rfl p
      exact ⟨b, ws, q1, p2, q3.mono k.le, q4, p1⟩
    | lam n =>
      obtain ⟨f, φ, q1, q2, q3⟩ := z
      have q2' : mask H f = some (J.lo n f) := mask_some.mpr ⟨q2, by rw [q3]; rfl⟩
      refine ⟨f, φ, q1, k.keep f _ q2' (nc f (fun m => ?_) ⟨_, q2'⟩), q3⟩
      cases e : W.S with
      | none => rw [e] at m; cases m
      | some t =>
        obtain ⟨b, g, c⟩ := t
        rw [e] at m
        obtain ⟨gs, r, t, h1, h2, _⟩ := (h.st.cl b g c e).ok
        rw [q3] at q2
        simp only [cellsOf, List.mem_cons, List.not_mem_nil, or_false] at m
        rcases m with rfl | rfl
        · rw [h1] at q2; cases q2
        · rw [h2] at q2; cases q2
    | fuel n => trivial
  · by_cases hm : a ∈ cellsOf W.S
    · rcases k.le.s with z | z
      · rw [z] at hm; cases hm
      · rw [z] at m; exact absurd hm m
    · exact k.keep a u (mask_some.mpr ⟨h.out a u e hm, h.h0 a u e⟩) m
  · rcases k.le.s with z | z
    · have n := k.new z a m
      cases q : J.H0 a with
      | none => rfl
      | some u =>
        rw [mask_some.mpr ⟨h.out a u q (by rw [z]; exact fun z => nomatch z), h.h0 a u q⟩] at n; cases n
    · rw [z] at m; exact h.new e a m
  · rcases k.fr a o e with z | z
    · exact h.fr a o z
    · cases q : J.H0 a with
      | none => exact .inr rfl
      | some u =>
        by_cases hm : a ∈ cellsOf W.S
        · cases e2 : W.S with
          | none => rw [e2] at hm; cases hm
          | some t =>
            obtain ⟨b, g, c⟩ := t
            rw [e2] at hm
            obtain ⟨gs, r, t, h1, h2, _⟩ := (h.st.cl b g c e2).ok
            simp only [cellsOf, List.mem_cons, List.not_mem_nil, or_false] at hm
            rcases hm with rfl | rfl
            · rw [mask_some.mpr ⟨h1, rfl⟩] at z; cases z
            · rw [mask_some.mpr ⟨h2, rfl⟩] at z; cases z
        · rw [mask_some.mpr ⟨h.out a u q hm, h.h0 a u q⟩] at z; cases z
  · obtain ⟨B, h1, h2, h3⟩ := h.bud
    have := fuel_low hm
    exact ⟨B + m, k.bud B h1, by omega, h3⟩
end

/-! ### the lifts -/
abbrev DX := Nat → List D → Env → Prop
abbrev DE := Env → (D → Env → Prop) → DX → Prop
abbrev DB := Env → (B → Env → Prop) → DX → Prop
abbrev DA := Env → (List B → Env → Prop) → DX → Prop
abbrev DT := Env → (Bool → Env → Prop) → DX → Prop
abbrev DF := Env → (List D → Env → Prop) → DX → Prop
inductive ExRep (G : Gm) (W : Wd) (c : Nat) : List D → Option Addr → Prop
  | e0 (h : G.fl c = []) : ExRep G W c [] none
  | e1 {d : Addr} {f : Str} {v : V} {x : D} (h : G.fl c = [f]) (hd : W.F d = some (.xd [(f, v)])) (r : Rep G W v x) : ExRep G W c [x] (some d)
def XOk (J : Jc) (W : Wd) (σ : L2.St) (X : DX) : Prop := ∀ c ds ρ', X c ds ρ' → ∀ W' H' d, W.le W' → Sim J W' ρ' σ H' → ExRep J.G W' c ds d → J.E (.ref (J.G.cA c)) d H'
theorem XOk.mono {J : Jc} {W W' : Wd} {σ : L2.St} {X : DX} (l : W.le W') (h : XOk J W σ X) : XOk J W' σ X := fun c ds ρ' q W2 H' d l2 s e => h c ds ρ' q W2 H' d (l.trans l2) s e
theorem XOk.no {J : Jc} {W : Wd} {σ : L2.St} : XOk J W σ (fun _ _ _ => False) := fun _ _ _ q => q.elim
def tE (J : Jc) (d : DE) : TE := fun σ H Q => ∃ W ρ, Sim J W ρ σ H ∧ ∃ P X, d ρ P X ∧ XOk J W σ X ∧ ∀ r ρ', P r ρ' → ∀ W' v H', W.le W' → Sim J W' ρ' σ H' → Rep J.G W' v r → Q v H'
def tB (J : Jc) (d : DB) : TE := fun σ H Q => ∃ W ρ, Sim J W ρ σ H ∧ ∃ P X, d ρ P X ∧ XOk J W σ X ∧ ∀ r ρ', P r ρ' → ∀ W' v H', W.le W' → Sim J W' ρ' σ H' → RepB J W' σ v r → Q v H'
inductive RepBs (J : Jc) (W : Wd) (σ : L2.St) : List V → List B → Prop
  | nil : RepBs J W σ [] []
  | cons {v : V} {b : B} {vs : List V} {bs : List B} (h : RepB J W σ v b) (t : RepBs J W σ vs bs) : RepBs J W σ (v :: vs) (b :: bs)
theorem RepBs.mono {J : Jc} {W W' : Wd} {σ : L2.St} (l : W.le W') : ∀ {vs : List V} {bs : List B}, RepBs J W σ vs bs → RepBs J W' σ vs bs
  | _, _, .nil => .nil
  | _, _, .cons h t => .cons (RepB.mono l h) (RepBs.mono l t)
def tAr (J : Jc) (n : Nat) (d : DA) : TA := fun σ H Q => ∃ W ρ, Sim J W ρ σ H ∧ ∃ P X, d ρ P X ∧ XOk J W σ X ∧ ∀ r ρ', P r ρ' → r.length = n → ∀ W' v H', W.le W' → Sim J W' ρ' σ H' → RepBs J W' σ v r → Q v H'
def tTs (J : Jc) (d : DT) : TT := fun σ H Q => ∃ W ρ, Sim J W ρ σ H ∧ ∃ P X, d ρ P X ∧ XOk J W σ X ∧ ∀ r ρ', P r ρ' → ∀ W' H', W.le W' → Sim J W' ρ' σ H' → Q r H'
def tF (J : Jc) (d : DF) : TE := fun σ H Q => ∃ W ρ, Sim J W ρ σ H ∧ ∃ P X, d ρ P X ∧ XOk J W σ X ∧ ∀ r ρ', P r ρ' → ∀ W' p vs H', W.le W' → Sim J W' ρ' σ H' → H' p = none → RepL J.G W' vs r → r.length ≤ sizeLine → Q (.ref p) (upd H' p (.lst vs))

structure Ctx (X : Cx) (J : Jc) : Prop where
  K : X.K = J.G.K
  calm : X.calm = true
  un : X.A.units + 100 < cLine
  tk : Takes X (fun c d _ H => J.E c d H)
  po : PassesOwn (model X.prog X.w) X.A X.env X.xe
  nd : X.N.Nodup
  gd : X.A.guards = some []
abbrev JE (J : Jc) (X : Cx) (e : Expr) (d : DE) : Prop := PE X e (tE J d)
abbrev JB (J : Jc) (X : Cx) (e : Expr) (d : DB) : Prop := PE X e (tB J d)
abbrev JF (J : Jc) (X : Cx) (e : Expr) (d : DF) : Prop := PE X e (tF J d)
abbrev JA (J : Jc) (X : Cx) (es : List Expr) (n : Nat) (d : DA) : Prop := PA X es (tAr J n d)
abbrev JT (J : Jc) (X : Cx) (e : Expr) (d : DT) : Prop := PT X e (tTs J d)
abbrev JW (J : Jc) (X : Cx) (e : Expr) (d : DT) : Prop := PW X e (tTs J d)

theorem PE.imp {X : Cx} {e : Expr} {t u : TE} (h : PE X e t) (i : ∀ σ H Q, u σ H Q → t σ H Q) : PE X e u := ⟨fun pins s σ H Q I q => h.run pins s σ H Q I (i _ _ _ q)⟩
theorem PT.imp {X : Cx} {e : Expr} {t u : TT} (h : PT X e t) (i : ∀ σ H Q, u σ H Q → t σ H Q) : PT X e u := ⟨fun pins s σ H Q I q => h.run pins s σ H Q I (i _ _ _ q)⟩
theorem PW.imp {X : Cx} {e : Expr} {t u : TT} (h : PW X e t) (i : ∀ σ H Q, u σ H Q → t σ H Q) : PW X e u := ⟨fun wh pins s σ H Q I q => h.run wh pins s σ H Q I (i _ _ _ q)⟩
theorem PA.imp {X : Cx} {e : List Expr} {t u : TA} (h : PA X e t) (i : ∀ σ H Q, u σ H Q → t σ H Q) : PA X e u := ⟨fun p pins s σ H Q I q => h.run p pins s σ H Q I (i _ _ _ q)⟩
theorem PS.imp {X : Cx} {e : Stmt} {t u : TS} (h : PS X e t) (i : ∀ D σ H, u D σ H → t D σ H) : PS X e u := ⟨fun pins s σ H D I q => h.run pins s σ H D I (i _ _ _ q)⟩
theorem PSs.imp {X : Cx} {e : List Stmt} {t u : TS} (h : PSs X e t) (i : ∀ D σ H, u D σ H → t D σ H) : PSs X e u := ⟨fun pins s σ H D I q => h.run pins s σ H D I (i _ _ _ q)⟩

/-! ### the pure ones -/
abbrev PuF := Env → Option D
def pu (f : PuF) : DE := fun ρ P _ => ∃ d, f ρ = some d ∧ P d ρ
def pb (f : PuF) : DB := fun ρ P _ => (∃ d, f ρ = some d) ∧ ∀ b, deref ρ b = f ρ → P b ρ
def evs : List PuF → Env → Option (List D)
  | [], _ => some []
  | f :: fs, ρ => (f ρ).bind fun x => (evs fs ρ).map fun xs => x :: xs
def pt (f : PuF) : DT := fun ρ P _ => ∃ b, f ρ = some (.bl b) ∧ P b ρ
def pf (f : Env → Option (List D)) : DF := fun ρ P _ => ∃ d, f ρ = some d ∧ P d ρ
def dV (d : DE) : DB := fun ρ P X => d ρ (fun r ρ' => P (.v r) ρ') X
def dFz (d : DF) : DE := fun ρ P X => d ρ (fun r ρ' => P (.lst r) ρ') X
section
variable {J : Jc} {X : Cx} {e : Expr} {es : List Expr}
theorem JE.imp {d d' : DE} (h : JE J X e d) (i : ∀ ρ P X, d' ρ P X → d ρ P X) : JE J X e d' := PE.imp h fun σ H Q ⟨W, ρ, S, P, X, q, r⟩ => ⟨W, ρ, S, P, X, i _ _ _ q, r⟩
theorem JB.imp {d d' : DB} (h : JB J X e d) (i : ∀ ρ P X, d' ρ P X → d ρ P X) : JB J X e d' := PE.imp h fun σ H Q ⟨W, ρ, S, P, X, q, r⟩ => ⟨W, ρ, S, P, X, i _ _ _ q, r⟩
theorem JF.imp {d d' : DF} (h : JF J X e d) (i : ∀ ρ P X, d' ρ P X → d ρ P X) : JF J X e d' := PE.imp h fun σ H Q ⟨W, ρ, S, P, X, q, r⟩ => ⟨W, ρ, S, P, X, i _ _ _ q, r⟩
theorem JA.imp {n : Nat} {d d' : DA} (h : JA J X es n d) (i : ∀ ρ P X, d' ρ P X → d ρ P X) : JA J X es n d' := PA.imp h fun σ H Q ⟨W, ρ, S, P, X, q, r⟩ => ⟨W, ρ, S, P, X, i _ _ _ q, r⟩
theorem JT.imp {d d' : DT} (h : JT J X e d) (i : ∀ ρ P X, d' ρ P X → d ρ P X) : JT J X e d' := PT.imp h fun σ H Q ⟨W, ρ, S, P, X, q, r⟩ => ⟨W, ρ, S, P, X, i _ _ _ q, r⟩
theorem JW.imp {d d' : DT} (h : JW J X e d) (i : ∀ ρ P X, d' ρ P X → d ρ P X) : JW J X e d' := PW.imp h fun σ H Q ⟨W, ρ, S, P, X, q, r⟩ => ⟨W, ρ, S, P, X, i _ _ _ q, r⟩
theorem jv {d : DE} (h : JE J X e d) : JB J X e (dV d) := PE.imp h fun σ H Q ⟨W, ρ, S, P, X, q, x, r⟩ => ⟨W, ρ, S, fun r ρ' => P (.v r) ρ', X, q, x, fun d ρ' p W' v H' l s rp => r (.v d) ρ' p W' v H' l s rp⟩
theorem jfz {d : DF} (h : JF J X e d) : JE J X e (dFz d) := PE.imp h fun σ H Q ⟨W, ρ, S, P, X, q, x, r⟩ => ⟨W, ρ, S, fun r ρ' => P (.lst r) ρ', X, q, x, fun ds ρ' p W' a vs H' l s n rp z =>
  r (.lst ds) ρ' p (W'.add a (.lst vs)) (.ref a) _ (l.trans (Wd.le_add (s.free n).1)) (s.newF n) (.lst (show upd W'.F a (.lst vs) a = _ from upd_same) (rp.mono (Wd.le_add (s.free n).1)) z)⟩
theorem jpb {f : PuF} (h : JE J X e (pu f)) : JB J X e (pb f) := JB.imp (jv h) fun ρ P _ ⟨⟨d, e⟩, q⟩ => ⟨d, e, q (.v d) e.symm⟩
theorem jpf {f : Env → Option (List D)} (h : JF J X e (pf f)) : JE J X e (pu fun ρ => (f ρ).map .lst) := JE.imp (jfz h) fun ρ P _ ⟨d, e, q⟩ => by
  have e : (f ρ).map D.lst = some d := e
  cases h2 : f ρ with
  | none => rw [h2] at e; cases e
  | some ds =>
    rw [h2] at e
    cases e
    exact ⟨ds, h2, q⟩
end
end DL

/-! DL: expressions. -/
namespace DL
open PySem PySem.Spec PyProof.Rows L2

theorem sOk_len {x : Str} (h : sOk x = true) : x.length ≤ sizeLine := by
  unfold sOk at h
  simp only [Bool.and_eq_true, decide_eq_true_eq] at h
  exact h.1
theorem sOk_cps {x : Str} (h : sOk x = true) : PyData.strOk x = true := by
  unfold sOk at h
  simp only [Bool.and_eq_true] at h
  exact h.2

/-! ### names and constants -/
def rdv (i : Nat) : PuF := fun ρ => match ρ[i]? with
  | some (.val d) => some d
  | _ => none
section
variable {J : Jc} {X : Cx} {pos : Pos} {W : Wd} {ρ : Env} {σ : L2.St} {H : Hp}
theorem fin_pu {d : D} {v : V} {Q : VK} (S : Sim J W ρ σ H) (r : Rep J.G W v d) {f : PuF} (e : f ρ = some d) : ∀ {Q : VK}, (∃ P X, pu f ρ P X ∧ XOk J W σ X ∧ ∀ r ρ', P r ρ' → ∀ W' v H', W.le W' → Sim J W' ρ' σ H' → Rep J.G W' v r → Q v H') → Q v H := by
  rintro Q ⟨P, X, ⟨d', e', p⟩, _, k⟩
  rw [e] at e'
  cases e'
  exact k d ρ p W v H .rfl' S r
theorem je_c {v : V} {d : D} {e : Expr} (h : PE X e (tC v)) (r : ∀ W, Rep J.G W v d) : JE J X e (pu fun _ => some d) :=
  PE.imp h fun σ H Q ⟨W, ρ, S, P, X, ⟨d', e', p⟩, _, k⟩ => by
    cases e'
    exact k d ρ p W v H .rfl' S (r W)
theorem je_int {i : Int} {j : Nat} : JE J X (.Constant (.int i) j pos) (pu fun _ => some (.int i)) := je_c pe_int fun _ => .int i
theorem je_bl {b : Bool} {j : Nat} : JE J X (.Constant (.bool b) j pos) (pu fun _ => some (.bl b)) := je_c pe_bl fun _ => .bl b
theorem je_non {j : Nat} : JE J X (.Constant .none j pos) (pu fun _ => some .non) := je_c pe_non fun _ => .non
theorem je_str {x : Str} {j : Nat} (h : sOk x = true := by decide +kernel) : JE J X (.Constant (.str x) j pos) (pu fun _ => some (.str x)) := je_c pe_str fun _ => .str x h
theorem je_gl {x : Str} {v : V} {u : Value} {d : D} (hg : Gl X x) (hm : X.mg x = some u) (r : RelV v u) (h : ∀ W, Rep J.G W v d) (hd : (x == ("__debug__" : Str)) = false := by decide) : JE J X (.Name x pos) (pu fun _ => some d) := je_c (pe_glob hg hm r hd) h
/-- a slot that holds a value -/
theorem je_var {i : Nat} {e : Expr} (h : PE X e (tVar i)) : JE J X e (pu (rdv i)) := PE.imp h fun σ H Q ⟨W, ρ, S, P, X, ⟨d, e, p⟩, _, k⟩ => by
  unfold rdv at e
  split at e
  · rename_i x hx
    cases e
    obtain ⟨v, e1, e2⟩ := S.slot i _ hx
    exact ⟨v, e1, k d ρ p W v H .rfl' S e2⟩
  · cases e
/-- a slot that owns its list, looked at -/
theorem jb_own {i : Nat} {e : Expr} (h : PE X e (tVar i)) : JB J X e (pb (rd i)) := PE.imp h fun σ H Q ⟨W, ρ, S, P, X, ⟨⟨d, e⟩, p⟩, _, k⟩ => by
  have hv : ∃ v, σ[i]? = some (some v) := by
    unfold rd at e
    split at e
    · rename_i x hx
      obtain ⟨v, e1, _⟩ := S.slot i _ hx
      exact ⟨v, e1⟩
    · rename_i x hx
      obtain ⟨a, vs, e1, _⟩ := S.slot i _ hx
      exact ⟨_, e1⟩
    · rename_i x hx
      obtain ⟨a, vs, e1, _⟩ := S.slot i _ hx
      exact ⟨_, e1⟩
    · cases e
  obtain ⟨v, hv⟩ := hv
  exact ⟨v, hv, k (.own i) ρ (p (.own i) rfl) W v H .rfl' S hv⟩
/-- .. handed on: it never changes again -/
def dFrz (i : Nat) : DE := fun ρ P _ => ∃ ds, ρ[i]? = some (.ml ds) ∧ P (.lst ds) (ρ.set i (.val (.lst ds)))
theorem je_frz {i : Nat} {e : Expr} (h : PE X e (tVar i)) : JE J X e (dFrz i) := PE.imp h fun σ H Q ⟨W, ρ, S, P, X, ⟨ds, e, p⟩, _, k⟩ => by
  obtain ⟨a, W', e1, le, r, S'⟩ := S.freeze e
  exact ⟨.ref a, e1, k _ _ p W' _ H le S' r⟩

/-! ### operators -/
def OpOk (G : Gm) (r : R2) (op : D → D → Option D) : Prop := ∀ (W : Wd) (H : Hp) (x y : V) (a b c : D) (Q : VK), Sub W H → RepH G W H x a → RepH G W H y b → op a b = some c → (∀ W' v H', Grow W H W' H' → Rep G W' v c → Q v H') → r x y H Q
def UnOk (G : Gm) (r : V → Hp → VK → Prop) (op : D → Option D) : Prop := ∀ (W : Wd) (H : Hp) (x : V) (a c : D) (Q : VK), Sub W H → RepH G W H x a → op a = some c → (∀ W' v H', Grow W H W' H' → Rep G W' v c → Q v H') → r x H Q
def OpF (G : Gm) (r : R2) (op : D → D → Option (List D)) : Prop := ∀ (W : Wd) (H : Hp) (x y : V) (a b : D) (c : List D) (Q : VK), Sub W H → RepH G W H x a → RepH G W H y b → op a b = some c → (∀ p vs, H p = none → RepL G W vs c → c.length ≤ sizeLine → Q (.ref p) (upd H p (.lst vs))) → r x y H Q
def dOp2 (op : D → D → Option D) (d1 d2 : DB) : DE := fun ρ P X => d1 ρ (fun b1 ρ1 => d2 ρ1 (fun b2 ρ2 => ∃ x y c, deref ρ2 b1 = some x ∧ deref ρ2 b2 = some y ∧ op x y = some c ∧ P c ρ2) X) X
def dOpF (op : D → D → Option (List D)) (d1 d2 : DB) : DF := fun ρ P X => d1 ρ (fun b1 ρ1 => d2 ρ1 (fun b2 ρ2 => ∃ x y c, deref ρ2 b1 = some x ∧ deref ρ2 b2 = some y ∧ op x y = some c ∧ P c ρ2) X) X
def dUn (op : D → Option D) (d1 : DB) : DE := fun ρ P X => d1 ρ (fun b1 ρ1 => ∃ x c, deref ρ1 b1 = some x ∧ op x = some c ∧ P c ρ1) X
def p2 (op : D → D → Option D) (f g : PuF) : PuF := fun ρ => (f ρ).bind fun x => (g ρ).bind fun y => op x y
def p2F (op : D → D → Option (List D)) (f g : PuF) : Env → Option (List D) := fun ρ => (f ρ).bind fun x => (g ρ).bind fun y => op x y
def p1 (op : D → Option D) (f : PuF) : PuF := fun ρ => (f ρ).bind op
theorem p2_some {op : D → D → Option D} {f g : PuF} {ρ : Env} {c : D} (h : p2 op f g ρ = some c) : ∃ x y, f ρ = some x ∧ g ρ = some y ∧ op x y = some c := by
  unfold p2 at h
  cases e : f ρ with
  | none => rw [e] at h; cases h
  | some x =>
    cases e2 : g ρ with
    | none => rw [e, e2] at h; cases h
    | some y => rw [e, e2] at h; exact ⟨x, y, rfl, rfl, h⟩
theorem p2F_some {op : D → D → Option (List D)} {f g : PuF} {ρ : Env} {c : List D} (h : p2F op f g ρ = some c) : ∃ x y, f ρ = some x ∧ g ρ = some y ∧ op x y = some c := by
  unfold p2F at h
  cases e : f ρ with
  | none => rw [e] at h; cases h
  | some x =>
    cases e2 : g ρ with
    | none => rw [e, e2] at h; cases h
    | some y => rw [e, e2] at h; exact ⟨x, y, rfl, rfl, h⟩
theorem p1_some {op : D → Option D} {f : PuF} {ρ : Env} {c : D} (h : p1 op f ρ = some c) : ∃ x, f ρ = some x ∧ op x = some c := by
  unfold p1 at h
  cases e : f ρ with
  | none => rw [e] at h; cases h
  | some x => rw [e] at h; exact ⟨x, rfl, h⟩
theorem dOp2_p {op : D → D → Option D} {f g : PuF} {ρ : Env} {P : D → Env → Prop} {X : DX} (h : pu (p2 op f g) ρ P X) : dOp2 op (pb f) (pb g) ρ P X := by
  obtain ⟨c, e, p⟩ := h
  obtain ⟨x, y, e1, e2, e3⟩ := p2_some e
  exact ⟨⟨x, e1⟩, fun b1 h1 => ⟨⟨y, e2⟩, fun b2 h2 => ⟨x, y, c, h1.trans e1, h2.trans e2, e3, p⟩⟩⟩
theorem dOpF_p {op : D → D → Option (List D)} {f g : PuF} {ρ : Env} {P : List D → Env → Prop} {X : DX} (h : pf (p2F op f g) ρ P X) : dOpF op (pb f) (pb g) ρ P X := by
  obtain ⟨c, e, p⟩ := h
  obtain ⟨x, y, e1, e2, e3⟩ := p2F_some e
  exact ⟨⟨x, e1⟩, fun b1 h1 => ⟨⟨y, e2⟩, fun b2 h2 => ⟨x, y, c, h1.trans e1, h2.trans e2, e3, p⟩⟩⟩
theorem dUn_p {op : D → Option D} {f : PuF} {ρ : Env} {P : D → Env → Prop} {X : DX} (h : pu (p1 op f) ρ P X) : dUn op (pb f) ρ P X := by
  obtain ⟨c, e, p⟩ := h
  obtain ⟨x, e1, e3⟩ := p1_some e
  exact ⟨⟨x, e1⟩, fun b1 h1 => ⟨x, c, h1.trans e1, e3, p⟩⟩
theorem op2_core {r : R2} {op : D → D → Option D} {d1 d2 : DB} (ok : OpOk J.G r op) {Q : VK} (h : tE J (dOp2 op d1 d2) σ H Q) : tOp r (tB J d1) (tB J d2) σ H Q := by
  obtain ⟨W, ρ, S, P, X, hd, hx, k⟩ := h
  refine ⟨W, ρ, S, _, X, hd, hx, fun b1 ρ1 q1 W1 v1 H1 l1 S1 r1 => ?_⟩
  refine ⟨W1, ρ1, S1, _, X, q1, hx.mono l1, fun b2 ρ2 q2 W2 v2 H2 l2 S2 r2 => ?_⟩
  obtain ⟨x, y, c, e1, e2, e3, p⟩ := q2
  refine ok W2 H2 v1 v2 x y c Q S2.sub (S2.rdH (r1.mono l2) e1) (S2.rdH r2 e2) e3 fun W3 v H3 g rr => ?_
  obtain ⟨S3, l3⟩ := S2.grow g
  exact k c ρ2 p W3 v H3 ((l1.trans l2).trans l3) S3 rr
theorem opF_core {r : R2} {op : D → D → Option (List D)} {d1 d2 : DB} (ok : OpF J.G r op) {Q : VK} (h : tF J (dOpF op d1 d2) σ H Q) : tOp r (tB J d1) (tB J d2) σ H Q := by
  obtain ⟨W, ρ, S, P, X, hd, hx, k⟩ := h
  refine ⟨W, ρ, S, _, X, hd, hx, fun b1 ρ1 q1 W1 v1 H1 l1 S1 r1 => ?_⟩
  refine ⟨W1, ρ1, S1, _, X, q1, hx.mono l1, fun b2 ρ2 q2 W2 v2 H2 l2 S2 r2 => ?_⟩
  obtain ⟨x, y, c, e1, e2, e3, p⟩ := q2
  exact ok W2 H2 v1 v2 x y c Q S2.sub (S2.rdH (r1.mono l2) e1) (S2.rdH r2 e2) e3 fun a vs n rr z => k c ρ2 p W2 a vs H2 (l1.trans l2) S2 n rr z
theorem un_core {r : V → Hp → VK → Prop} {op : D → Option D} {d1 : DB} (ok : UnOk J.G r op) {Q : VK} (h : tE J (dUn op d1) σ H Q) : tUn r (tB J d1) σ H Q := by
  obtain ⟨W, ρ, S, P, X, hd, hx, k⟩ := h
  refine ⟨W, ρ, S, _, X, hd, hx, fun b1 ρ1 q1 W1 v1 H1 l1 S1 r1 => ?_⟩
  obtain ⟨x, c, e1, e3, p⟩ := q1
  refine ok W1 H1 v1 x c Q S1.sub (S1.rdH r1 e1) e3 fun W3 v H3 g rr => ?_
  obtain ⟨S3, l3⟩ := S1.grow g
  exact k c ρ1 p W3 v H3 (l1.trans l3) S3 rr
variable {a b : Expr} {f g : PuF} {d1 d2 : DB}
theorem je_op {o : Operator} {r : R2} {op : D → D → Option D} (ho : OpR X (binaryOp o) r) (ok : OpOk J.G r op) (ha : JB J X a d1) (hb : JB J X b d2) : JE J X (.BinOp a o b pos) (dOp2 op d1 d2) := PE.imp (pe_op ho ha hb) fun σ H Q h => op2_core ok h
theorem je_opP {o : Operator} {r : R2} {op : D → D → Option D} (ho : OpR X (binaryOp o) r) (ok : OpOk J.G r op) (ha : JB J X a (pb f)) (hb : JB J X b (pb g)) : JE J X (.BinOp a o b pos) (pu (p2 op f g)) := JE.imp (je_op ho ok ha hb) fun ρ P X h => dOp2_p h
theorem jf_op {o : Operator} {r : R2} {op : D → D → Option (List D)} (ho : OpR X (binaryOp o) r) (ok : OpF J.G r op) (ha : JB J X a d1) (hb : JB J X b d2) : JF J X (.BinOp a o b pos) (dOpF op d1 d2) := PE.imp (pe_op ho ha hb) fun σ H Q h => opF_core ok h
theorem jf_opP {o : Operator} {r : R2} {op : D → D → Option (List D)} (ho : OpR X (binaryOp o) r) (ok : OpF J.G r op) (ha : JB J X a (pb f)) (hb : JB J X b (pb g)) : JF J X (.BinOp a o b pos) (pf (p2F op f g)) := JF.imp (jf_op ho ok ha hb) fun ρ P X h => dOpF_p h
theorem je_un {o : UnaryOp} {r : V → Hp → VK → Prop} {op : D → Option D} (ho : UnR X (unaryOp o) r) (ok : UnOk J.G r op) (ha : JB J X a d1) : JE J X (.UnaryOp o a pos) (dUn op d1) := PE.imp (pe_un ho ha) fun σ H Q h => un_core ok h
theorem je_unP {o : UnaryOp} {r : V → Hp → VK → Prop} {op : D → Option D} (ho : UnR X (unaryOp o) r) (ok : UnOk J.G r op) (ha : JB J X a (pb f)) : JE J X (.UnaryOp o a pos) (pu (p1 op f)) := JE.imp (je_un ho ok ha) fun ρ P X h => dUn_p h
theorem je_cmp {o : CmpOp} {r : R2} {op : D → D → Option D} (ho : OpR X (compareOp o) r) (ok : OpOk J.G r op) (ha : JB J X a d1) (hb : JB J X b d2) (hm : behindInMarks o b = false) : JE J X (.Compare a [o] [b] pos) (dOp2 op d1 d2) := PE.imp (pe_cmpR ho ha hb hm) fun σ H Q h => op2_core ok h
theorem je_cmpP {o : CmpOp} {r : R2} {op : D → D → Option D} (ho : OpR X (compareOp o) r) (ok : OpOk J.G r op) (ha : JB J X a (pb f)) (hb : JB J X b (pb g)) (hm : behindInMarks o b = false) : JE J X (.Compare a [o] [b] pos) (pu (p2 op f g)) := JE.imp (je_cmp ho ok ha hb hm) fun ρ P X h => dOp2_p h

/-! ### tests -/
def dTst (d : DE) : DT := fun ρ P X => d ρ (fun r ρ' => ∃ b, r = .bl b ∧ P b ρ') X
theorem tst_core {d : DE} {Q : Bool → Hp → Prop} (h : tTs J (dTst d) σ H Q) : tTest (tE J d) σ H Q := by
  obtain ⟨W, ρ, S, P, X, hd, hx, k⟩ := h
  refine ⟨W, ρ, S, _, X, hd, hx, fun r ρ1 q1 W1 v1 H1 l1 S1 r1 => ?_⟩
  obtain ⟨b, rfl, p⟩ := q1
  cases r1
  exact ⟨b, rfl, k b ρ1 p W1 H1 l1 S1⟩
theorem dTst_p {f : PuF} {ρ : Env} {P : Bool → Env → Prop} {X : DX} (h : pt f ρ P X) : dTst (pu f) ρ P X := by
  obtain ⟨b, e, p⟩ := h
  exact ⟨_, e, b, rfl, p⟩
theorem jt_cmp {o : CmpOp} {r : R2} {op : D → D → Option D} (ho : OpR X (compareOp o) r) (ok : OpOk J.G r op) (ha : JB J X a d1) (hb : JB J X b d2) (hm : behindInMarks o b = false) : JT J X (.Compare a [o] [b] pos) (dTst (dOp2 op d1 d2)) := by
  refine PT.imp (pt_cmpR ho ha hb hm) fun σ H Q h => ?_
  obtain ⟨W, ρ, S, P, X, hd, hx, k⟩ := h
  exact op2_core ok ⟨W, ρ, S, _, X, hd, hx, fun c ρ1 q1 W1 v1 H1 l1 S1 r1 => by
    obtain ⟨b, rfl, p⟩ := q1
    cases r1
    exact ⟨b, rfl, k b ρ1 p W1 H1 l1 S1⟩⟩
theorem dTst_mono {d d' : DE} (i : ∀ ρ P X, d' ρ P X → d ρ P X) : ∀ ρ P X, dTst d' ρ P X → dTst d ρ P X := fun ρ P X h => i _ _ _ h
theorem jt_cmpP {o : CmpOp} {r : R2} {op : D → D → Option D} (ho : OpR X (compareOp o) r) (ok : OpOk J.G r op) (ha : JB J X a (pb f)) (hb : JB J X b (pb g)) (hm : behindInMarks o b = false) : JT J X (.Compare a [o] [b] pos) (pt (p2 op f g)) := JT.imp (jt_cmp ho ok ha hb hm) fun ρ P X h => by
  obtain ⟨b, e, p⟩ := h
  exact dOp2_p ⟨_, e, b, rfl, p⟩
/-- an expression that gives a truth -/
theorem jt_val {e : Expr} {d : DE} (h : JE J X e d) (he : ∀ whole, isTrue e X.env whole = (do let v ← whole; standAt e.pos; holding [v] (truthy v)) := by intro _; rfl) : JT J X e (dTst d) := PT.imp (pt_val h he) fun σ H Q h => tst_core h
theorem jt_valP {e : Expr} (h : JE J X e (pu f)) (he : ∀ whole, isTrue e X.env whole = (do let v ← whole; standAt e.pos; holding [v] (truthy v)) := by intro _; rfl) : JT J X e (pt f) := JT.imp (jt_val h he) fun ρ P X h => dTst_p h
def dNot (d : DT) : DT := fun ρ P X => d ρ (fun b ρ' => P (!b) ρ') X
def dAnd (d1 d2 : DT) : DT := fun ρ P X => d1 ρ (fun b ρ1 => if b = true then d2 ρ1 P X else P false ρ1) X
def dOr (d1 d2 : DT) : DT := fun ρ P X => d1 ρ (fun b ρ1 => if b = true then P true ρ1 else d2 ρ1 P X) X
def pNot (f : PuF) : PuF := fun ρ => match f ρ with
  | some (.bl b) => some (.bl (!b))
  | _ => none
def pAnd (f g : PuF) : PuF := fun ρ => match f ρ with
  | some (.bl true) => g ρ
  | some (.bl false) => some (.bl false)
  | _ => none
def pOr (f g : PuF) : PuF := fun ρ => match f ρ with
  | some (.bl true) => some (.bl true)
  | some (.bl false) => g ρ
  | _ => none
theorem jt_not {t : DT} (h : JT J X a t) : JT J X (.UnaryOp .Not a pos) (dNot t) := PT.imp (pt_not h) fun σ H Q ⟨W, ρ, S, P, X, hd, hx, k⟩ => ⟨W, ρ, S, _, X, hd, hx, fun b ρ1 q => k _ ρ1 q⟩
theorem jt_notP (h : JT J X a (pt f)) : JT J X (.UnaryOp .Not a pos) (pt (pNot f)) := JT.imp (jt_not h) fun ρ P X ⟨b, e, p⟩ => by
  unfold pNot at e
  split at e
  · rename_i c hc
    cases e
    exact ⟨c, hc, p⟩
  · cases e
variable {rest : List Expr} {t u : DT}
theorem jw_and1 (h : JT J X a t) : JW J X (.BoolOp .And [a] pos) t := pw_and1 h
theorem jw_or1 (h : JT J X a t) : JW J X (.BoolOp .Or [a] pos) t := pw_or1 h
theorem jw_and (h : JT J X a t) (h2 : JW J X (.BoolOp .And (b :: rest) pos) u) : JW J X (.BoolOp .And (a :: b :: rest) pos) (dAnd t u) := PW.imp (pw_and h h2) fun σ H Q ⟨W, ρ, S, P, X, hd, hx, k⟩ => ⟨W, ρ, S, _, X, hd, hx, fun b ρ1 q W1 H1 l1 S1 => by
  cases b with
  | true => exact ⟨W1, ρ1, S1, P, X, q, hx.mono l1, fun c ρ2 p W2 H2 l2 S2 => k c ρ2 p W2 H2 (l1.trans l2) S2⟩
  | false => exact k false ρ1 q W1 H1 l1 S1⟩
theorem jw_or (h : JT J X a t) (h2 : JW J X (.BoolOp .Or (b :: rest) pos) u) : JW J X (.BoolOp .Or (a :: b :: rest) pos) (dOr t u) := PW.imp (pw_or h h2) fun σ H Q ⟨W, ρ, S, P, X, hd, hx, k⟩ => ⟨W, ρ, S, _, X, hd, hx, fun b ρ1 q W1 H1 l1 S1 => by
  cases b with
  | false => exact ⟨W1, ρ1, S1, P, X, q, hx.mono l1, fun c ρ2 p W2 H2 l2 S2 => k c ρ2 p W2 H2 (l1.trans l2) S2⟩
  | true => exact k true ρ1 q W1 H1 l1 S1⟩
theorem jw_andP (h : JT J X a (pt f)) (h2 : JW J X (.BoolOp .And (b :: rest) pos) (pt g)) : JW J X (.BoolOp .And (a :: b :: rest) pos) (pt (pAnd f g)) := JW.imp (jw_and h h2) fun ρ P X ⟨c, e, p⟩ => by
  unfold pAnd at e
  split at e
  · rename_i hc
    exact ⟨true, hc, c, e, p⟩
  · rename_i hc
    cases e
    exact ⟨false, hc, p⟩
  · cases e
theorem jw_orP (h : JT J X a (pt f)) (h2 : JW J X (.BoolOp .Or (b :: rest) pos) (pt g)) : JW J X (.BoolOp .Or (a :: b :: rest) pos) (pt (pOr f g)) := JW.imp (jw_or h h2) fun ρ P X ⟨c, e, p⟩ => by
  unfold pOr at e
  split at e
  · rename_i hc
    cases e
    exact ⟨true, hc, p⟩
  · rename_i hc
    exact ⟨false, hc, c, e, p⟩
  · cases e
theorem jt_w {e : Expr} (h : JW J X e t) : JT J X e t := h.pt
/-- .. as values -/
def dNotV (d : DE) : DE := fun ρ P X => d ρ (fun r ρ' => ∃ b, r = .bl b ∧ P (.bl (!b)) ρ') X
def dAndV (d1 d2 : DE) : DE := fun ρ P X => d1 ρ (fun r ρ1 => ∃ b, r = .bl b ∧ if b = true then d2 ρ1 P X else P (.bl false) ρ1) X
def dOrV (d1 d2 : DE) : DE := fun ρ P X => d1 ρ (fun r ρ1 => ∃ b, r = .bl b ∧ if b = true then P (.bl true) ρ1 else d2 ρ1 P X) X
theorem je_not {d : DE} (h : JE J X a d) : JE J X (.UnaryOp .Not a pos) (dNotV d) := PE.imp (pe_not h) fun σ H Q ⟨W, ρ, S, P, X, hd, hx, k⟩ => ⟨W, ρ, S, _, X, hd, hx, fun r ρ1 ⟨b, e, p⟩ W1 v H1 l1 S1 rr => by
  subst e
  cases rr
  exact ⟨b, rfl, k _ ρ1 p W1 _ H1 l1 S1 (.bl _)⟩⟩
theorem je_notP (h : JE J X a (pu f)) : JE J X (.UnaryOp .Not a pos) (pu (pNot f)) := JE.imp (je_not h) fun ρ P X ⟨b, e, p⟩ => by
  unfold pNot at e
  split at e
  · rename_i c hc
    cases e
    exact ⟨_, hc, c, rfl, p⟩
  · cases e
theorem je_one {op : BoolOp} {d : DE} (h : JE J X a d) : JE J X (.BoolOp op [a] pos) d := pe_one h
theorem je_and {d d' : DE} (h : JE J X a d) (h2 : JE J X (.BoolOp .And (b :: rest) pos) d') : JE J X (.BoolOp .And (a :: b :: rest) pos) (dAndV d d') := PE.imp (pe_and h h2) fun σ H Q ⟨W, ρ, S, P, X, hd, hx, k⟩ => ⟨W, ρ, S, _, X, hd, hx, fun r ρ1 ⟨b, e, p⟩ W1 v H1 l1 S1 rr => by
  subst e
  cases rr
  refine ⟨b, rfl, ?_⟩
  cases b with
  | true => exact ⟨W1, ρ1, S1, P, X, p, hx.mono l1, fun c ρ2 p W2 v H2 l2 S2 => k c ρ2 p W2 v H2 (l1.trans l2) S2⟩
  | false => exact k _ ρ1 p W1 _ H1 l1 S1 (.bl _)⟩
theorem je_or {d d' : DE} (h : JE J X a d) (h2 : JE J X (.BoolOp .Or (b :: rest) pos) d') : JE J X (.BoolOp .Or (a :: b :: rest) pos) (dOrV d d') := PE.imp (pe_or h h2) fun σ H Q ⟨W, ρ, S, P, X, hd, hx, k⟩ => ⟨W, ρ, S, _, X, hd, hx, fun r ρ1 ⟨b, e, p⟩ W1 v H1 l1 S1 rr => by
  subst e
  cases rr
  refine ⟨b, rfl, ?_⟩
  cases b with
  | false => exact ⟨W1, ρ1, S1, P, X, p, hx.mono l1, fun c ρ2 p W2 v H2 l2 S2 => k c ρ2 p W2 v H2 (l1.trans l2) S2⟩
  | true => exact k _ ρ1 p W1 _ H1 l1 S1 (.bl _)⟩
theorem je_andP (h : JE J X a (pu f)) (h2 : JE J X (.BoolOp .And (b :: rest) pos) (pu g)) : JE J X (.BoolOp .And (a :: b :: rest) pos) (pu (pAnd f g)) := JE.imp (je_and h h2) fun ρ P X ⟨c, e, p⟩ => by
  unfold pAnd at e
  split at e
  · rename_i hc
    exact ⟨_, hc, true, rfl, c, e, p⟩
  · rename_i hc
    cases e
    exact ⟨_, hc, false, rfl, p⟩
  · cases e
theorem je_orP (h : JE J X a (pu f)) (h2 : JE J X (.BoolOp .Or (b :: rest) pos) (pu g)) : JE J X (.BoolOp .Or (a :: b :: rest) pos) (pu (pOr f g)) := JE.imp (je_or h h2) fun ρ P X ⟨c, e, p⟩ => by
  unfold pOr at e
  split at e
  · rename_i hc
    cases e
    exact ⟨_, hc, true, rfl, p⟩
  · rename_i hc
    exact ⟨_, hc, false, rfl, c, e, p⟩
  · cases e
/-- a if t else b -/
def dIfE (t : DT) (d1 d2 : DE) : DE := fun ρ P X => t ρ (fun b ρ1 => if b = true then d1 ρ1 P X else d2 ρ1 P X) X
def pIf (t f g : PuF) : PuF := fun ρ => match t ρ with
  | some (.bl true) => f ρ
  | some (.bl false) => g ρ
  | _ => none
theorem je_if {c : Expr} {d d' : DE} (hc : JT J X c t) (h : JE J X a d) (h2 : JE J X b d') : JE J X (.IfExp c a b pos) (dIfE t d d') := PE.imp (pe_ifExp hc h h2) fun σ H Q ⟨W, ρ, S, P, X, hd, hx, k⟩ => ⟨W, ρ, S, _, X, hd, hx, fun b ρ1 q W1 H1 l1 S1 => by
  cases b with
  | true => exact ⟨W1, ρ1, S1, P, X, q, hx.mono l1, fun c ρ2 p W2 v H2 l2 S2 => k c ρ2 p W2 v H2 (l1.trans l2) S2⟩
  | false => exact ⟨W1, ρ1, S1, P, X, q, hx.mono l1, fun c ρ2 p W2 v H2 l2 S2 => k c ρ2 p W2 v H2 (l1.trans l2) S2⟩⟩
theorem je_ifP {c : Expr} {t : PuF} (hc : JT J X c (pt t)) (h : JE J X a (pu f)) (h2 : JE J X b (pu g)) : JE J X (.IfExp c a b pos) (pu (pIf t f g)) := JE.imp (je_if hc h h2) fun ρ P X ⟨c, e, p⟩ => by
  unfold pIf at e
  split at e
  · rename_i hc
    exact ⟨true, hc, c, e, p⟩
  · rename_i hc
    exact ⟨false, hc, c, e, p⟩
  · cases e
/-- a < b < c -/
def dCh (o o' : D → D → Option D) (d1 d2 d3 : DB) : DE := fun ρ P X => d1 ρ (fun b1 ρ1 => d2 ρ1 (fun b2 ρ2 => ∃ x y c, deref ρ2 b1 = some x ∧ deref ρ2 b2 = some y ∧ o x y = some (.bl c) ∧
  if c = true then d3 ρ2 (fun b3 ρ3 => ∃ y' z r, deref ρ3 b2 = some y' ∧ deref ρ3 b3 = some z ∧ o' y' z = some r ∧ P r ρ3) X else P (.bl false) ρ2) X) X
def p3 (o o' : D → D → Option D) (f g h : PuF) : PuF := fun ρ => (f ρ).bind fun x => (g ρ).bind fun y => match o x y with
  | some (.bl true) => (h ρ).bind fun z => o' y z
  | some (.bl false) => some (.bl false)
  | _ => none
end
end DL

/-! DL: arguments, calls, displays, subscripts. -/
namespace DL
open PySem PySem.Spec PyProof.Rows L2

/-! ### arguments -/
def dArgs : List DB → DA
  | [] => fun ρ P _ => P [] ρ
  | d :: ds => fun ρ P X => d ρ (fun b ρ1 => dArgs ds ρ1 (fun bs ρ2 => P (b :: bs) ρ2) X) X
def derefs (ρ : Env) : List B → Option (List D)
  | [] => some []
  | b :: bs => (deref ρ b).bind fun d => (derefs ρ bs).map fun ds => d :: ds
def vals : List B → Option (List D)
  | [] => some []
  | .v d :: bs => (vals bs).map fun ds => d :: ds
  | .own _ :: _ => none
inductive RepHs (G : Gm) (W : Wd) (H : Hp) : List V → List D → Prop
  | nil : RepHs G W H [] []
  | cons {v : V} {d : D} {vs : List V} {ds : List D} (h : RepH G W H v d) (t : RepHs G W H vs ds) : RepHs G W H (v :: vs) (d :: ds)
theorem evs_len : ∀ {fs : List PuF} {ρ : Env} {ds : List D}, evs fs ρ = some ds → ds.length = fs.length
  | [], ρ, ds, h => by cases h; rfl
  | f :: fs, ρ, ds, h => by
    unfold evs at h
    cases e : f ρ with
    | none => rw [e] at h; cases h
    | some x =>
      cases e2 : evs fs ρ with
      | none => rw [e, e2] at h; cases h
      | some xs =>
        rw [e, e2] at h
        cases h
        rw [List.length_cons, List.length_cons, evs_len e2]
theorem evs_cons {f : PuF} {fs : List PuF} {ρ : Env} {ds : List D} (h : evs (f :: fs) ρ = some ds) : ∃ x xs, f ρ = some x ∧ evs fs ρ = some xs ∧ ds = x :: xs := by
  unfold evs at h
  cases e : f ρ with
  | none => rw [e] at h; cases h
  | some x =>
    cases e2 : evs fs ρ with
    | none => rw [e, e2] at h; cases h
    | some xs =>
      rw [e, e2] at h
      cases h
      exact ⟨x, xs, rfl, rfl, rfl⟩
/-- arguments looked at -/
theorem dArgs_pb : ∀ {fs : List PuF} {ρ : Env} {P : List B → Env → Prop} {X : DX} {ds : List D}, evs fs ρ = some ds → (∀ bs, derefs ρ bs = some ds → bs.length = fs.length → P bs ρ) → dArgs (fs.map pb) ρ P X
  | [], ρ, P, X, ds, h, k => by cases h; exact k [] rfl rfl
  | f :: fs, ρ, P, X, ds, h, k => by
    obtain ⟨x, xs, e1, e2, rfl⟩ := evs_cons h
    refine ⟨⟨x, e1⟩, fun b hb => dArgs_pb e2 fun bs hbs hl => k _ ?_ (by rw [List.length_cons, List.length_cons, hl])⟩
    show ((deref ρ b).bind fun d => (derefs ρ bs).map fun ds => d :: ds) = _
    rw [hb, e1, hbs]
    rfl
/-- settled arguments -/
theorem dArgs_pv : ∀ {fs : List PuF} {ρ : Env} {P : List B → Env → Prop} {X : DX} {ds : List D}, evs fs ρ = some ds → P (ds.map .v) ρ → dArgs (fs.map fun f => dV (pu f)) ρ P X
  | [], ρ, P, X, ds, h, k => by cases h; exact k
  | f :: fs, ρ, P, X, ds, h, k => by
    obtain ⟨x, xs, e1, e2, rfl⟩ := evs_cons h
    exact ⟨x, e1, dArgs_pv e2 k⟩
theorem vals_v : ∀ (ds : List D), vals (ds.map .v) = some ds
  | [] => rfl
  | d :: ds => by
    show (vals (ds.map .v)).map _ = _
    rw [vals_v ds]
    rfl
theorem vals_rep {J : Jc} {W : Wd} {σ : L2.St} : ∀ {bs : List B} {vs : List V} {ds : List D}, RepBs J W σ vs bs → vals bs = some ds → RepL J.G W vs ds
  | _, _, _, .nil, h => by cases h; exact .nil
  | _, _, ds, .cons (b := .v d) (bs := bs) h t, e => by
    have e : (vals bs).map (fun ds => d :: ds) = some ds := e
    cases e2 : vals bs with
    | none => rw [e2] at e; cases e
    | some xs =>
      rw [e2] at e
      cases e
      exact .cons h (vals_rep t e2)
  | _, _, _, .cons (b := .own i) h t, e => by cases e
theorem vals_len : ∀ {bs : List B} {ds : List D}, vals bs = some ds → ds.length = bs.length
  | [], ds, h => by cases h; rfl
  | .v d :: bs, ds, h => by
    have e : (vals bs).map (fun ds => d :: ds) = some ds := h
    cases e2 : vals bs with
    | none => rw [e2] at e; cases e
    | some xs =>
      rw [e2] at e
      cases e
      rw [List.length_cons, List.length_cons, vals_len e2]
  | .own i :: bs, ds, h => by cases h
theorem derefs_rep {J : Jc} {W : Wd} {ρ : Env} {σ : L2.St} {H : Hp} (S : Sim J W ρ σ H) : ∀ {bs : List B} {vs : List V} {ds : List D}, RepBs J W σ vs bs → derefs ρ bs = some ds → RepHs J.G W H vs ds
  | _, _, _, .nil, h => by cases h; exact .nil
  | _, _, ds, .cons (b := b) (bs := bs) h t, e => by
    have e : ((deref ρ b).bind fun d => (derefs ρ bs).map fun ds => d :: ds) = some ds := e
    cases e1 : deref ρ b with
    | none => rw [e1] at e; cases e
    | some x =>
      cases e2 : derefs ρ bs with
      | none => rw [e1, e2] at e; cases e
      | some xs =>
        rw [e1, e2] at e
        cases e
        exact .cons (S.rdH h e1) (derefs_rep S t e2)
section
variable {J : Jc} {X : Cx} {pos : Pos} {σ : L2.St} {H : Hp} {e : Expr} {es : List Expr} {n : Nat}
theorem ja_nil : JA J X [] 0 (dArgs []) := PA.imp pa_nil fun σ H Q ⟨W, ρ, S, P, X, q, x, r⟩ => r [] ρ q rfl W [] H .rfl' S .nil
theorem ja_cons {d : DB} {ds : List DB} (h : JB J X e d) (t : JA J X es n (dArgs ds)) (hs : starEach (e :: es) X.env = (false, eval e X.env) :: starEach es X.env := by rfl) : JA J X (e :: es) (n + 1) (dArgs (d :: ds)) := by
  refine PA.imp (pa_cons h t hs) fun σ H Q ⟨W, ρ, S, P, X, q, x, r⟩ => ?_
  refine ⟨W, ρ, S, _, X, q, x, fun b ρ1 q1 W1 v1 H1 l1 S1 r1 => ?_⟩
  refine ⟨W1, ρ1, S1, _, X, q1, x.mono l1, fun bs ρ2 q2 hl W2 vs H2 l2 S2 r2 => ?_⟩
  exact r (b :: bs) ρ2 q2 (by rw [List.length_cons, hl]) W2 (v1 :: vs) H2 (l1.trans l2) S2 (.cons (r1.mono l2) r2)
/-- .. all pure -/
theorem jb_cons {f : PuF} {fs : List PuF} (h : JB J X e (pb f)) (t : JA J X es n (dArgs (fs.map pb))) (hs : starEach (e :: es) X.env = (false, eval e X.env) :: starEach es X.env := by rfl) : JA J X (e :: es) (n + 1) (dArgs ((f :: fs).map pb)) := ja_cons h t hs
theorem jc_cons {f : PuF} {fs : List PuF} (h : JE J X e (pu f)) (t : JA J X es n (dArgs (fs.map fun f => dV (pu f)))) (hs : starEach (e :: es) X.env = (false, eval e X.env) :: starEach es X.env := by rfl) : JA J X (e :: es) (n + 1) (dArgs ((f :: fs).map fun f => dV (pu f))) := ja_cons (jv h) t hs

/-! ### built-in calls -/
def CallOk (G : Gm) (r : List V → Hp → VK → Prop) (op : List D → Option D) : Prop := ∀ (W : Wd) (H : Hp) (vs : List V) (ds : List D) (c : D) (Q : VK), Sub W H → RepHs G W H vs ds → op ds = some c → (∀ W' v H', Grow W H W' H' → Rep G W' v c → Q v H') → r vs H Q
def CallF (G : Gm) (r : List V → Hp → VK → Prop) (op : List D → Option (List D)) : Prop := ∀ (W : Wd) (H : Hp) (vs : List V) (ds : List D) (c : List D) (Q : VK), Sub W H → RepHs G W H vs ds → op ds = some c → (∀ p vs', H p = none → RepL G W vs' c → c.length ≤ sizeLine → Q (.ref p) (upd H p (.lst vs'))) → r vs H Q
def dCb (op : List D → Option D) (das : List DB) : DE := fun ρ P X => dArgs das ρ (fun bs ρ1 => ∃ ds c, derefs ρ1 bs = some ds ∧ op ds = some c ∧ P c ρ1) X
def dCbF (op : List D → Option (List D)) (das : List DB) : DF := fun ρ P X => dArgs das ρ (fun bs ρ1 => ∃ ds c, derefs ρ1 bs = some ds ∧ op ds = some c ∧ P c ρ1) X
def pC (op : List D → Option D) (fs : List PuF) : PuF := fun ρ => (evs fs ρ).bind op
def pCF (op : List D → Option (List D)) (fs : List PuF) : Env → Option (List D) := fun ρ => (evs fs ρ).bind op
theorem cb_core {r : List V → Hp → VK → Prop} {op : List D → Option D} {das : List DB} (ok : CallOk J.G r op) {Q : VK} (h : tE J (dCb op das) σ H Q) : tCB r (tAr J n (dArgs das)) σ H Q := by
  obtain ⟨W, ρ, S, P, X, hd, hx, k⟩ := h
  refine ⟨W, ρ, S, _, X, hd, hx, fun bs ρ1 q1 hl W1 vs H1 l1 S1 r1 => ?_⟩
  obtain ⟨ds, c, e1, e2, p⟩ := q1
  refine ok W1 H1 vs ds c Q S1.sub (derefs_rep S1 r1 e1) e2 fun W3 v H3 g rr => ?_
  obtain ⟨S3, l3⟩ := S1.grow g
  exact k c ρ1 p W3 v H3 (l1.trans l3) S3 rr
theorem cbF_core {r : List V → Hp → VK → Prop} {op : List D → Option (List D)} {das : List DB} (ok : CallF J.G r op) {Q : VK} (h : tF J (dCbF op das) σ H Q) : tCB r (tAr J n (dArgs das)) σ H Q := by
  obtain ⟨W, ρ, S, P, X, hd, hx, k⟩ := h
  refine ⟨W, ρ, S, _, X, hd, hx, fun bs ρ1 q1 hl W1 vs H1 l1 S1 r1 => ?_⟩
  obtain ⟨ds, c, e1, e2, p⟩ := q1
  exact ok W1 H1 vs ds c Q S1.sub (derefs_rep S1 r1 e1) e2 fun p' vs' n rr z => k c ρ1 p W1 p' vs' H1 l1 S1 n rr z
theorem dCb_p {op : List D → Option D} {fs : List PuF} {ρ : Env} {P : D → Env → Prop} {X : DX} (h : pu (pC op fs) ρ P X) : dCb op (fs.map pb) ρ P X := by
  obtain ⟨c, e, p⟩ := h
  unfold pC at e
  cases e1 : evs fs ρ with
  | none => rw [e1] at e; cases e
  | some ds =>
    rw [e1] at e
    exact dArgs_pb e1 fun bs h1 _ => ⟨ds, c, h1, e, p⟩
theorem dCbF_p {op : List D → Option (List D)} {fs : List PuF} {ρ : Env} {P : List D → Env → Prop} {X : DX} (h : pf (pCF op fs) ρ P X) : dCbF op (fs.map pb) ρ P X := by
  obtain ⟨c, e, p⟩ := h
  unfold pCF at e
  cases e1 : evs fs ρ with
  | none => rw [e1] at e; cases e
  | some ds =>
    rw [e1] at e
    exact dArgs_pb e1 fun bs h1 _ => ⟨ds, c, h1, e, p⟩
/-- a built-in function, a built-in class -/
inductive Blt (X : Cx) (x : Str) (r : List V → Hp → VK → Prop) : Prop
  | fn (id : String) (hc : CallR X (.builtin id) r) (hm : X.mg x = none) (hv : bootBuiltins x = some (.builtin id))
  | ty (id : String) (hc : CallR X (.type id) r) (hm : X.mg x = none) (hv : bootBuiltins x = some (.type id))
theorem pe_blt {x : Str} {r : List V → Hp → VK → Prop} {p : Pos} {t : TA} (b : Blt X x r) (hg : Gl X x) (ha : PA X (e :: es) t) (hn : x ≠ "__name__" := by decide) (hdb : (x == ("__debug__" : Str)) = false := by decide)
    (he : starEach (e :: es) X.env = (false, eval e X.env) :: starEach es X.env := by rfl) (hpl : (backTo pos (starEach es X.env)).any (·.1) = false := by rfl) : PE X (.Call (.Name x p) (e :: es) [] pos) (tCB r t) := by
  cases b with
  | fn id hc hm hv => exact pe_callB hc hg hm hv ha hn hdb he hpl
  | ty id hc hm hv => exact pe_callTy hc hg hm hv ha hn hdb he hpl
section
variable {x : Str} {r : List V → Hp → VK → Prop} {p : Pos}
theorem je_b {op : List D → Option D} {das : List DB} (b : Blt X x r) (ok : CallOk J.G r op) (hg : Gl X x) (ha : JA J X (e :: es) n (dArgs das)) (hn : x ≠ "__name__" := by decide) (hdb : (x == ("__debug__" : Str)) = false := by decide)
    (he : starEach (e :: es) X.env = (false, eval e X.env) :: starEach es X.env := by rfl) (hpl : (backTo pos (starEach es X.env)).any (·.1) = false := by rfl) : JE J X (.Call (.Name x p) (e :: es) [] pos) (dCb op das) := PE.imp (pe_blt b hg ha hn hdb he hpl) fun σ H Q h => cb_core ok h
theorem je_bP {op : List D → Option D} {fs : List PuF} (b : Blt X x r) (ok : CallOk J.G r op) (hg : Gl X x) (ha : JA J X (e :: es) n (dArgs (fs.map pb))) (hn : x ≠ "__name__" := by decide) (hdb : (x == ("__debug__" : Str)) = false := by decide)
    (he : starEach (e :: es) X.env = (false, eval e X.env) :: starEach es X.env := by rfl) (hpl : (backTo pos (starEach es X.env)).any (·.1) = false := by rfl) : JE J X (.Call (.Name x p) (e :: es) [] pos) (pu (pC op fs)) := JE.imp (je_b b ok hg ha hn hdb he hpl) fun ρ P X h => dCb_p h
theorem jf_b {op : List D → Option (List D)} {das : List DB} (b : Blt X x r) (ok : CallF J.G r op) (hg : Gl X x) (ha : JA J X (e :: es) n (dArgs das)) (hn : x ≠ "__name__" := by decide) (hdb : (x == ("__debug__" : Str)) = false := by decide)
    (he : starEach (e :: es) X.env = (false, eval e X.env) :: starEach es X.env := by rfl) (hpl : (backTo pos (starEach es X.env)).any (·.1) = false := by rfl) : JF J X (.Call (.Name x p) (e :: es) [] pos) (dCbF op das) := PE.imp (pe_blt b hg ha hn hdb he hpl) fun σ H Q h => cbF_core ok h
theorem jf_bP {op : List D → Option (List D)} {fs : List PuF} (b : Blt X x r) (ok : CallF J.G r op) (hg : Gl X x) (ha : JA J X (e :: es) n (dArgs (fs.map pb))) (hn : x ≠ "__name__" := by decide) (hdb : (x == ("__debug__" : Str)) = false := by decide)
    (he : starEach (e :: es) X.env = (false, eval e X.env) :: starEach es X.env := by rfl) (hpl : (backTo pos (starEach es X.env)).any (·.1) = false := by rfl) : JF J X (.Call (.Name x p) (e :: es) [] pos) (pf (pCF op fs)) := JF.imp (jf_b b ok hg ha hn hdb he hpl) fun ρ P X h => dCbF_p h
end

/-! ### displays -/
def dTup (das : List DB) : DE := fun ρ P X => dArgs das ρ (fun bs ρ1 => ∃ ds, vals bs = some ds ∧ P (.tup ds) ρ1) X
def dLst (das : List DB) : DF := fun ρ P X => dArgs das ρ (fun bs ρ1 => ∃ ds, vals bs = some ds ∧ P ds ρ1) X
theorem repL_len {G : Gm} {W : Wd} {vs : List V} {ds : List D} (r : RepL G W vs ds) : vs.length = ds.length := r.len
theorem je_tup {das : List DB} {x1 : Nat} (ha : JA J X es n (dArgs das)) (hn : n ≤ sizeLine := by decide) : JE J X (.Tuple es x1 pos) (dTup das) := by
  refine PE.imp (pe_tup ha) fun σ H Q ⟨W, ρ, S, P, X, q, x, k⟩ => ?_
  refine ⟨W, ρ, S, _, X, q, x, fun bs ρ1 q1 hl W1 vs H1 l1 S1 r1 => ?_⟩
  obtain ⟨ds, e1, p⟩ := q1
  have rr := vals_rep r1 e1
  have hz : ds.length ≤ sizeLine := by rw [vals_len e1, hl]; exact hn
  refine ⟨by rw [rr.len]; exact hz, fun a na => ?_⟩
  have lw : W1.le (W1.add a (.tup vs)) := Wd.le_add (S1.free na).1
  exact k _ ρ1 p (W1.add a (.tup vs)) (.ref a) _ (l1.trans lw) (S1.newF na) (.tup (.inl (.inl (show upd W1.F a (.tup vs) a = _ from upd_same))) (rr.mono lw) hz)
def pTup (fs : List PuF) : PuF := fun ρ => (evs fs ρ).map .tup
theorem je_tupP {fs : List PuF} {x1 : Nat} (ha : JA J X es n (dArgs (fs.map fun f => dV (pu f)))) (hn : n ≤ sizeLine := by decide) : JE J X (.Tuple es x1 pos) (pu (pTup fs)) := JE.imp (je_tup ha hn) fun ρ P X ⟨d, e, p⟩ => by
  unfold pTup at e
  cases e1 : evs fs ρ with
  | none => rw [e1] at e; cases e
  | some ds =>
    rw [e1] at e
    cases e
    exact dArgs_pv e1 ⟨ds, vals_v ds, p⟩
theorem jf_lst {das : List DB} (ha : JA J X es n (dArgs das)) (hn : n ≤ sizeLine := by decide) : JF J X (.List es pos) (dLst das) := by
  refine PE.imp (pe_lst ha) fun σ H Q ⟨W, ρ, S, P, X, q, x, k⟩ => ?_
  refine ⟨W, ρ, S, _, X, q, x, fun bs ρ1 q1 hl W1 vs H1 l1 S1 r1 => ?_⟩
  obtain ⟨ds, e1, p⟩ := q1
  have rr := vals_rep r1 e1
  have hz : ds.length ≤ sizeLine := by rw [vals_len e1, hl]; exact hn
  exact ⟨by rw [rr.len]; exact hz, fun a na => k ds ρ1 p W1 a vs H1 l1 S1 na rr hz⟩
theorem jf_lstP {fs : List PuF} (ha : JA J X es n (dArgs (fs.map fun f => dV (pu f)))) (hn : n ≤ sizeLine := by decide) : JF J X (.List es pos) (pf (evs fs)) := JF.imp (jf_lst ha hn) fun ρ P X ⟨ds, e, p⟩ => dArgs_pv e ⟨ds, vals_v ds, p⟩

/-! ### subscripts, slices -/
variable {a b : Expr} {d1 d2 : DB} {f g : PuF}
theorem je_ix {r : R2} {op : D → D → Option D} (ho : IxR X r) (ok : OpOk J.G r op) (ha : JB J X a d1) (hb : JB J X b d2) (hs : PlainIx b := by exact fun _ _ => rfl) : JE J X (.Subscript a b pos) (dOp2 op d1 d2) := PE.imp (pe_ix ho ha hb hs) fun σ H Q h => op2_core ok h
theorem je_ixP {r : R2} {op : D → D → Option D} (ho : IxR X r) (ok : OpOk J.G r op) (ha : JB J X a (pb f)) (hb : JB J X b (pb g)) (hs : PlainIx b := by exact fun _ _ => rfl) : JE J X (.Subscript a b pos) (pu (p2 op f g)) := JE.imp (je_ix ho ok ha hb hs) fun ρ P X h => dOp2_p h
abbrev DO := Env → (Option Int → Env → Prop) → DX → Prop
def tO (J : Jc) (d : DO) : TO := fun σ H Q => ∃ W ρ, Sim J W ρ σ H ∧ ∃ P X, d ρ P X ∧ XOk J W σ X ∧ ∀ r ρ', P r ρ' → ∀ W' H', W.le W' → Sim J W' ρ' σ H' → Q r H'
theorem PO.imp {X : Cx} {e : Option Expr} {t u : TO} (h : PO X e t) (i : ∀ σ H Q, u σ H Q → t σ H Q) : PO X e u := ⟨fun pins s σ H Q I q => h.run pins s σ H Q I (i _ _ _ q)⟩
def po0 : DO := fun ρ P _ => P none ρ
def po (f : PuF) : DO := fun ρ P _ => ∃ i, f ρ = some (.int i) ∧ P (some i) ρ
theorem jo_none : PO X none (tO J po0) := PO.imp po_none fun σ H Q ⟨W, ρ, S, P, X, q, x, k⟩ => k none ρ q W H .rfl' S
theorem jo_some {c : Expr} (h : JE J X c (pu f)) : PO X (some c) (tO J (po f)) := PO.imp (po_some h) fun σ H Q ⟨W, ρ, S, P, X, ⟨i, e, p⟩, x, k⟩ => ⟨W, ρ, S, fun r ρ' => ∃ i, r = .int i ∧ P (some i) ρ', X, ⟨_, e, i, rfl, p⟩, x, fun r ρ1 q W1 v H1 l1 S1 rr => by
  obtain ⟨i, rfl, p⟩ := q
  cases rr
  exact ⟨i, rfl, k _ ρ1 p W1 H1 l1 S1⟩⟩
def SlOk (G : Gm) (r : V → Option Int → Option Int → Hp → VK → Prop) (op : D → Option Int → Option Int → Option D) : Prop := ∀ (W : Wd) (H : Hp) (x : V) (a c : D) (lo hi : Option Int) (Q : VK), Sub W H → RepH G W H x a → op a lo hi = some c → (∀ W' v H', Grow W H W' H' → Rep G W' v c → Q v H') → r x lo hi H Q
def SlF (G : Gm) (r : V → Option Int → Option Int → Hp → VK → Prop) (op : D → Option Int → Option Int → Option (List D)) : Prop := ∀ (W : Wd) (H : Hp) (x : V) (a : D) (c : List D) (lo hi : Option Int) (Q : VK), Sub W H → RepH G W H x a → op a lo hi = some c → (∀ p vs, H p = none → RepL G W vs c → c.length ≤ sizeLine → Q (.ref p) (upd H p (.lst vs))) → r x lo hi H Q
def dSl (op : D → Option Int → Option Int → Option D) (d1 : DB) (l h : DO) : DE := fun ρ P X => d1 ρ (fun b ρ1 => l ρ1 (fun lo ρ2 => h ρ2 (fun hi ρ3 => ∃ x c, deref ρ3 b = some x ∧ op x lo hi = some c ∧ P c ρ3) X) X) X
def dSlF (op : D → Option Int → Option Int → Option (List D)) (d1 : DB) (l h : DO) : DF := fun ρ P X => d1 ρ (fun b ρ1 => l ρ1 (fun lo ρ2 => h ρ2 (fun hi ρ3 => ∃ x c, deref ρ3 b = some x ∧ op x lo hi = some c ∧ P c ρ3) X) X) X
variable {lo hi : Option Expr} {l h : DO} {p2' : Pos}
theorem je_sl {r : V → Option Int → Option Int → Hp → VK → Prop} {op : D → Option Int → Option Int → Option D} (ho : SlR X r) (ok : SlOk J.G r op) (ha : JB J X a d1) (hl : PO X lo (tO J l)) (hh : PO X hi (tO J h)) : JE J X (.Subscript a (.Slice lo hi none p2') pos) (dSl op d1 l h) := by
  refine PE.imp (pe_slice ho ha hl hh) fun σ H Q ⟨W, ρ, S, P, X, q, x, k⟩ => ?_
  refine ⟨W, ρ, S, _, X, q, x, fun b ρ1 q1 W1 v H1 l1 S1 r1 => ?_⟩
  refine ⟨W1, ρ1, S1, _, X, q1, x.mono l1, fun lo ρ2 q2 W2 H2 l2 S2 => ?_⟩
  refine ⟨W2, ρ2, S2, _, X, q2, x.mono (l1.trans l2), fun hi ρ3 q3 W3 H3 l3 S3 => ?_⟩
  obtain ⟨y, c, e1, e2, p⟩ := q3
  refine ok W3 H3 v y c lo hi Q S3.sub (S3.rdH (r1.mono (l2.trans l3)) e1) e2 fun W4 v4 H4 g rr => ?_
  obtain ⟨S4, l4⟩ := S3.grow g
  exact k c ρ3 p W4 v4 H4 (((l1.trans l2).trans l3).trans l4) S4 rr
theorem jf_sl {r : V → Option Int → Option Int → Hp → VK → Prop} {op : D → Option Int → Option Int → Option (List D)} (ho : SlR X r) (ok : SlF J.G r op) (ha : JB J X a d1) (hl : PO X lo (tO J l)) (hh : PO X hi (tO J h)) : JF J X (.Subscript a (.Slice lo hi none p2') pos) (dSlF op d1 l h) := by
  refine PE.imp (pe_slice ho ha hl hh) fun σ H Q ⟨W, ρ, S, P, X, q, x, k⟩ => ?_
  refine ⟨W, ρ, S, _, X, q, x, fun b ρ1 q1 W1 v H1 l1 S1 r1 => ?_⟩
  refine ⟨W1, ρ1, S1, _, X, q1, x.mono l1, fun lo ρ2 q2 W2 H2 l2 S2 => ?_⟩
  refine ⟨W2, ρ2, S2, _, X, q2, x.mono (l1.trans l2), fun hi ρ3 q3 W3 H3 l3 S3 => ?_⟩
  obtain ⟨y, c, e1, e2, p⟩ := q3
  exact ok W3 H3 v y c lo hi Q S3.sub (S3.rdH (r1.mono (l2.trans l3)) e1) e2 fun a vs n rr z => k c ρ3 p W3 a vs H3 ((l1.trans l2).trans l3) S3 n rr z
/-- a slice's parts, pure -/
inductive PO1 | no | at (f : PuF)
def PO1.d : PO1 → DO
  | .no => po0
  | .at f => po f
def PO1.ev : PO1 → Env → Option (Option Int)
  | .no, _ => some none
  | .at f, ρ => match f ρ with
    | some (.int i) => some (some i)
    | _ => none
theorem PO1.run {o : PO1} {ρ : Env} {i : Option Int} (h : o.ev ρ = some i) {P : Option Int → Env → Prop} {X : DX} (k : P i ρ) : o.d ρ P X := by
  cases o with
  | no => cases h; exact k
  | «at» f =>
    have h : (match f ρ with
      | some (.int i) => some (some i)
      | _ => none) = some i := h
    split at h
    · rename_i j hj
      cases h
      exact ⟨j, hj, k⟩
    · cases h
def pSl {α : Type} (op : D → Option Int → Option Int → Option α) (f : PuF) (l h : PO1) : Env → Option α := fun ρ => (f ρ).bind fun x => (l.ev ρ).bind fun i => (h.ev ρ).bind fun j => op x i j
theorem pSl_some {α : Type} {op : D → Option Int → Option Int → Option α} {f : PuF} {l h : PO1} {ρ : Env} {c : α} (e : pSl op f l h ρ = some c) : ∃ x i j, f ρ = some x ∧ l.ev ρ = some i ∧ h.ev ρ = some j ∧ op x i j = some c := by
  unfold pSl at e
  cases e1 : f ρ with
  | none => rw [e1] at e; cases e
  | some x =>
    cases e2 : l.ev ρ with
    | none => rw [e1, e2] at e; cases e
    | some i =>
      cases e3 : h.ev ρ with
      | none => rw [e1, e2, e3] at e; cases e
      | some j =>
        rw [e1, e2, e3] at e
        exact ⟨x, i, j, rfl, rfl, rfl, e⟩
theorem je_slP {l h : PO1} {r : V → Option Int → Option Int → Hp → VK → Prop} {op : D → Option Int → Option Int → Option D} (ho : SlR X r) (ok : SlOk J.G r op) (ha : JB J X a (pb f)) (hl : PO X lo (tO J l.d)) (hh : PO X hi (tO J h.d)) : JE J X (.Subscript a (.Slice lo hi none p2') pos) (pu (pSl op f l h)) := JE.imp (je_sl ho ok ha hl hh) fun ρ P X ⟨c, e, p⟩ => by
  obtain ⟨x, i, j, e1, e2, e3, e4⟩ := pSl_some e
  exact ⟨⟨x, e1⟩, fun b hb => PO1.run e2 (PO1.run e3 ⟨x, c, hb.trans e1, e4, p⟩)⟩
theorem jf_slP {l h : PO1} {r : V → Option Int → Option Int → Hp → VK → Prop} {op : D → Option Int → Option Int → Option (List D)} (ho : SlR X r) (ok : SlF J.G r op) (ha : JB J X a (pb f)) (hl : PO X lo (tO J l.d)) (hh : PO X hi (tO J h.d)) : JF J X (.Subscript a (.Slice lo hi none p2') pos) (pf (pSl op f l h)) := JF.imp (jf_sl ho ok ha hl hh) fun ρ P X ⟨c, e, p⟩ => by
  obtain ⟨x, i, j, e1, e2, e3, e4⟩ := pSl_some e
  exact ⟨⟨x, e1⟩, fun b hb => PO1.run e2 (PO1.run e3 ⟨x, c, hb.trans e1, e4, p⟩)⟩
end

/-! ### own defs called -/
/-- a promise that is kept where no repr is under way -/
structure FnG (P : Program) (w : World) (K : PySem.W.Frag) (mg : Str → Option Value) (base : Heap) (k : Nat) (f : Addr) (fd : FuncData) (ps : List Str) (sp : Sp) : Prop where
  len : ∀ vs H Q E, sp vs H Q E → vs.length = ps.length
  run : ∀ (A : Around) (outer : List PySem.Env) (s : Shared) (H : Hp) (args : Args) (us : List Value) (vs : List V) (Q : VK) (E : XK), A.guards = some [] → Room k A → Env0 P w K mg base A outer s H → BindsTo s fd args (ps.zip us) → Vals vs us → sp vs H Q E →
    codeAny (model P w) A (.call (.ref f) args) (CR (L2.CX P w) outer P w H s Q E) s
theorem FnG.mono {P : Program} {w : World} {K : PySem.W.Frag} {mg : Str → Option Value} {base : Heap} {j k : Nat} {f : Addr} {fd : FuncData} {ps : List Str} {sp : Sp} (F : FnG P w K mg base j f fd ps sp) (h : j ≤ k) : FnG P w K mg base k f fd ps sp :=
  ⟨F.len, fun A outer s H args us vs Q E hg hr => F.run A outer s H args us vs Q E hg (hr.mono h)⟩
theorem FnG.imp {P : Program} {w : World} {K : PySem.W.Frag} {mg : Str → Option Value} {base : Heap} {k : Nat} {f : Addr} {fd : FuncData} {ps : List Str} {sp sp' : Sp} (F : FnG P w K mg base k f fd ps sp) (h : ∀ vs H Q E, sp' vs H Q E → sp vs H Q E) : FnG P w K mg base k f fd ps sp' :=
  ⟨fun vs H Q E q => F.len vs H Q E (h _ _ _ _ q), fun A outer s H args us vs Q E hg hr he hb hv hs => F.run A outer s H args us vs Q E hg hr he hb hv (h _ _ _ _ hs)⟩
theorem FnG.of {P : Program} {w : World} {K : PySem.W.Frag} {mg : Str → Option Value} {base : Heap} {k : Nat} {f : Addr} {fd : FuncData} {ps : List Str} {sp : Sp} (F : FnOk P w K mg base (L2.CX P w) k f fd ps sp) : FnG P w K mg base k f fd ps sp :=
  ⟨F.len, fun A outer s H args us vs Q E _ hr => F.run A outer s H args us vs Q E hr⟩
section
variable {X : Cx} {k n : Nat} {f : Addr} {fd : FuncData} {ps ks : List Str} {sp : Sp} {E : XK} {x : Str} {p pos : Pos} {e : Expr} {es : List Expr} {kws : List Keyword} {t tk : TA} {g : List Value → List Value → List Value} {gV : List V → List V → List V}
theorem run_g {pins : List (Addr × Obj)} {σ : L2.St} {H : Hp} {s : Shared} {Q : VK} {args : Args} {us : List Value} {vs : List V} (F : FnG X.prog X.w X.K X.mg X.base k f fd ps sp) (hr : Room k X.A) (hgd : X.A.guards = some []) (hx : Passes (L2.CX X.prog X.w) X E)
    (I : Inv X pins σ H s) (hb : us.length = ps.length → BindsTo s fd args (ps.zip us)) (r : Vals vs us) (h : sp vs H Q E) : wpAny (model X.prog X.w) X.A (call (.ref f) args.pos args.kw) (EP X pins σ Q) X.xe s := by
  have hl : us.length = ps.length := by rw [← r.length]; exact F.len _ _ _ _ h
  refine wpAny_call (codeAny_mono (F.run X.A X.stack s H args us vs Q E hgd hr I.env0 (hb hl) r h) fun r s' hq => ?_)
  cases r with
  | error e => exact hx pins σ H s e s' I hq
  | ok fl =>
    cases fl with
    | ret u => exact I.after hq
    | next => exact False.elim hq
    | brk => exact False.elim hq
    | cont => exact False.elim hq
theorem pe_callG (F : FnG X.prog X.w X.K X.mg X.base k f fd ps sp) (hr : Room k X.A) (hgd : X.A.guards = some []) (hg : Gl X x) (hm : X.mg x = some (.ref f)) (hk : PySem.W.keepIn X.K (.ref f) = true) (hb : Binds X.K fd ps []) (hx : Passes (L2.CX X.prog X.w) X E)
    (ha : PA X (e :: es) t) (hdb : (x == ("__debug__" : Str)) = false := by decide) (he : starEach (e :: es) X.env = (false, eval e X.env) :: starEach es X.env := by rfl) (hpl : (backTo pos (starEach es X.env)).any (·.1) = false := by rfl) :
    PE X (.Call (.Name x p) (e :: es) [] pos) (tCall sp [] E t) := by
  refine ⟨fun pins s σ H Q I h => ?_⟩
  refine wpAny_Call_Name_kw (ld_glob I hg hm ?_ hdb)
  refine PySem.W.callWith_K (h₀ := X.base) I.ok.mod.kin hk (thn (ha.run pos pins s σ H _ I h) fun us s1 ⟨vs, H1, I1, r, q⟩ => ⟨I1.kIn, ?_⟩) he hpl
  have q : sp (vs ++ []) H1 Q E := q
  rw [List.append_nil] at q
  exact run_g (args := ⟨us, []⟩) F hr hgd hx I1 (fun hl => by have z := hb s1 us I1.kIn (by rw [List.append_nil]; exact hl); rw [List.append_nil] at z; exact z) r q
theorem pe_callG0 (F : FnG X.prog X.w X.K X.mg X.base k f fd ps sp) (hr : Room k X.A) (hgd : X.A.guards = some []) (hg : Gl X x) (hm : X.mg x = some (.ref f)) (hk : PySem.W.keepIn X.K (.ref f) = true) (hb : Binds X.K fd ps []) (hx : Passes (L2.CX X.prog X.w) X E)
    (hdb : (x == ("__debug__" : Str)) = false := by decide) : PE X (.Call (.Name x p) [] [] pos) (fun σ H Q => sp [] H Q E) := by
  refine ⟨fun pins s σ H Q I h => ?_⟩
  refine wpAny_Call_Name_kw (ld_glob I hg hm ?_ hdb)
  exact PySem.W.callWith_K0 I.kIn hk (run_g (args := ⟨[], []⟩) F hr hgd hx I (fun hl => by have z := hb s [] I.kIn hl; exact z) .nil h)
/-- f(e, .., k = v, ..) -/
theorem pe_callGK (F : FnG X.prog X.w X.K X.mg X.base k f fd ps sp) (hr : Room k X.A) (hgd : X.A.guards = some []) (hg : Gl X x) (hm : X.mg x = some (.ref f)) (hk : PySem.W.keepIn X.K (.ref f) = true) (hb : KBn X.K fd ps n ks g gV) (hx : Passes (L2.CX X.prog X.w) X E)
    (ha : PA X (e :: es) t) (hkw : PK X kws tk) (hall : (backToKw pos (keywordEach kws X.env)).all (·.1.isSome) = true := by rfl) (hks : (backToKw pos (keywordEach kws X.env)).filterMap (·.1) = ks := by rfl)
    (hdb : (x == ("__debug__" : Str)) = false := by decide) (he : starEach (e :: es) X.env = (false, eval e X.env) :: starEach es X.env := by rfl)
    (hpl : ((backTo pos (starEach (e :: es) X.env)).any (·.1) || (backToKw pos (keywordEach kws X.env)).any (·.1.isNone)) = false := by rfl) :
    PE X (.Call (.Name x p) (e :: es) kws pos) (tCallN n ks.length sp gV E t tk) := by
  refine ⟨fun pins s σ H Q I h => ?_⟩
  refine wpAny_Call_Name_kw (ld_glob I hg hm ?_ hdb)
  refine PySem.W.callWith_KW (h₀ := X.base) I.ok.mod.kin hk hall (thn (ha.run pos pins s σ H _ I h) fun us s1 ⟨vs, H1, I1, r, q⟩ => ?_) hpl he
  refine thn (hkw.run pos pins s1 σ H1 _ I1 q) fun ws s2 ⟨zs, H2, I2, rz, l1, l2, q2⟩ => ⟨I2.kIn, ?_⟩
  rw [hks]
  exact run_g (args := ⟨us, ks.zip ws⟩) F hr hgd hx I2 (fun _ => hb.to s2 us ws I2.kIn (r.length.symm.trans l1) (rz.length.symm.trans l2)) (hb.rel r rz) q2
theorem pe_callGK0 (F : FnG X.prog X.w X.K X.mg X.base k f fd ps sp) (hr : Room k X.A) (hgd : X.A.guards = some []) (hg : Gl X x) (hm : X.mg x = some (.ref f)) (hk : PySem.W.keepIn X.K (.ref f) = true) (hb : KBn X.K fd ps 0 ks g gV) (hx : Passes (L2.CX X.prog X.w) X E)
    (hkw : PK X kws tk) (hall : (backToKw pos (keywordEach kws X.env)).all (·.1.isSome) = true := by rfl) (hks : (backToKw pos (keywordEach kws X.env)).filterMap (·.1) = ks := by rfl)
    (hdb : (x == ("__debug__" : Str)) = false := by decide)
    (hpl : ((backTo pos (starEach [] X.env)).any (·.1) || (backToKw pos (keywordEach kws X.env)).any (·.1.isNone)) = false := by rfl) :
    PE X (.Call (.Name x p) [] kws pos) (tCallN 0 ks.length sp gV E tNil tk) := by
  refine ⟨fun pins s σ H Q I h => ?_⟩
  refine wpAny_Call_Name_kw (ld_glob I hg hm ?_ hdb)
  refine PySem.W.callWith_KW0 (h₀ := X.base) I.ok.mod.kin hk hall (thn (hkw.run pos pins s σ H _ I h) fun ws s2 ⟨zs, H2, I2, rz, l1, l2, q2⟩ => ⟨I2.kIn, ?_⟩) hpl
  rw [hks]
  exact run_g (args := ⟨[], ks.zip ws⟩) F hr hgd hx I2 (fun _ => hb.to s2 [] ws I2.kIn rfl (rz.length.symm.trans l2)) (hb.rel .nil rz) q2
end
abbrev DSp := List D → (D → Prop) → (Nat → List D → Prop) → Prop
/-- m: so many draws at most -/
def liftSp (G : Gm) (n m : Nat) (sp : DSp) : Sp := fun vs H Q E => vs.length = n ∧ ∃ W ds PQ PX, Sub W H ∧ StOk W H ∧ RepL G W vs ds ∧ (∃ B, TurnLe W H B ∧ B + m ≤ BIG) ∧ sp ds PQ PX ∧
  (∀ r W' v H', PQ r → KeepC m W H W' H' → Rep G W' v r → Q v H') ∧ (∀ c es W' H' d, PX c es → KeepC m W H W' H' → ExRep G W' c es d → E (.ref (G.cA c)) d H')
def dCall (m : Nat) (sp : DSp) (das : List DB) : DE := fun ρ P X => dArgs das ρ (fun bs ρ1 => m ≤ fuelOf ρ1 ∧ ∃ ds, vals bs = some ds ∧ sp ds (fun r => P r (lowF m ρ1)) (fun c es => X c es (lowF m ρ1))) X
/-- a def that answers by a function, and raises nothing -/
def spF (F : List D → Option D) : DSp := fun ds Q _ => ∃ d, F ds = some d ∧ Q d
section
variable {J : Jc} {X : Cx} {pos p : Pos} {e : Expr} {es : List Expr} {n m k : Nat} {x : Str} {f : Addr} {fd : FuncData} {qs : List Str} {sp : DSp} {das : List DB}
theorem Sim.room {J : Jc} {W : Wd} {ρ : Env} {σ : L2.St} {H : Hp} {m : Nat} (S : Sim J W ρ σ H) (h : m ≤ fuelOf ρ) : ∃ B, TurnLe W H B ∧ B + m ≤ BIG := by
  obtain ⟨B, h1, h2, h3⟩ := S.bud
  exact ⟨B, h1, by omega⟩
theorem call_core {σ : L2.St} {H : Hp} {Q : VK} (h : tE J (dCall m sp das) σ H Q) : tCall (liftSp J.G n m sp) [] J.E (tAr J n (dArgs das)) σ H Q := by
  obtain ⟨W, ρ, S, P, X, hd, hx, k⟩ := h
  refine ⟨W, ρ, S, _, X, hd, hx, fun bs ρ1 q1 hl W1 vs H1 l1 S1 r1 => ?_⟩
  obtain ⟨hm, ds, e1, p⟩ := q1
  have rr := vals_rep r1 e1
  rw [List.append_nil]
  refine ⟨by rw [rr.len, vals_len e1]; exact hl, W1, ds, _, _, S1.sub, S1.st, rr, S1.room hm, p, fun r W2 v H2 q kc rv => ?_, fun c cs W2 H2 d q kc er => ?_⟩
  · exact k r _ q W2 v H2 (l1.trans kc.le) (S1.call kc hm) rv
  · exact hx c cs _ q W2 H2 d (l1.trans kc.le) (S1.call kc hm) er
theorem je_call (C : Ctx X J) (F : FnG X.prog X.w X.K X.mg X.base k f fd qs (liftSp J.G n m sp)) (hr : Room k X.A) (hm : X.mg x = some (.ref f)) (hk : PySem.W.keepIn X.K (.ref f) = true) (hb : Binds X.K fd qs []) (hg : Gl X x)
    (ha : JA J X (e :: es) n (dArgs das)) (hdb : (x == ("__debug__" : Str)) = false := by decide) (he : starEach (e :: es) X.env = (false, eval e X.env) :: starEach es X.env := by rfl) (hpl : (backTo pos (starEach es X.env)).any (·.1) = false := by rfl) :
    JE J X (.Call (.Name x p) (e :: es) [] pos) (dCall m sp das) :=
  PE.imp (pe_callG F hr C.gd hg hm hk hb (passes_call C.tk (fun _ _ _ _ h => h)) ha hdb he hpl) fun σ H Q h => call_core h
theorem je_call0 (C : Ctx X J) (F : FnG X.prog X.w X.K X.mg X.base k f fd qs (liftSp J.G 0 m sp)) (hr : Room k X.A) (hm : X.mg x = some (.ref f)) (hk : PySem.W.keepIn X.K (.ref f) = true) (hb : Binds X.K fd qs []) (hg : Gl X x)
    (hdb : (x == ("__debug__" : Str)) = false := by decide) : JE J X (.Call (.Name x p) [] [] pos) (dCall m sp []) :=
  PE.imp (pe_callG0 F hr C.gd hg hm hk hb (passes_call C.tk (fun _ _ _ _ h => h)) hdb) fun σ H Q h => by
    obtain ⟨W, ρ, S, P, X, hd, hx, k⟩ := h
    exact call_core (n := 0) ⟨W, ρ, S, P, X, hd, hx, k⟩ |> fun h => by
      obtain ⟨W1, ρ1, S1, P1, X1, q1, x1, k1⟩ := h
      exact k1 [] ρ1 q1 rfl W1 [] H .rfl' S1 .nil
theorem je_callP {F' : List D → Option D} {fs : List PuF} (C : Ctx X J) (F : FnG X.prog X.w X.K X.mg X.base k f fd qs (liftSp J.G n 0 (spF F'))) (hr : Room k X.A) (hm : X.mg x = some (.ref f)) (hk : PySem.W.keepIn X.K (.ref f) = true) (hb : Binds X.K fd qs []) (hg : Gl X x)
    (ha : JA J X (e :: es) n (dArgs (fs.map fun f => dV (pu f)))) (hdb : (x == ("__debug__" : Str)) = false := by decide) (he : starEach (e :: es) X.env = (false, eval e X.env) :: starEach es X.env := by rfl) (hpl : (backTo pos (starEach es X.env)).any (·.1) = false := by rfl) :
    JE J X (.Call (.Name x p) (e :: es) [] pos) (pu (pC F' fs)) := JE.imp (je_call C F hr hm hk hb hg ha hdb he hpl) fun ρ P X ⟨d, h, q⟩ => by
  unfold pC at h
  cases e1 : evs fs ρ with
  | none => rw [e1] at h; cases h
  | some ds =>
    rw [e1] at h
    exact dArgs_pv e1 ⟨Nat.zero_le _, ds, vals_v ds, d, h, q⟩
end
end DL

/-! DL: targets, what is walked, comprehensions, statements, loops, defs. -/
namespace DL
open PySem PySem.Spec PyProof.Rows L2

/-! ### targets -/
abbrev TgF := D → Env → Option Env
def tgN (i : Nat) : TgF := fun d ρ => some (ρ.set i (.val d))
def tgS : List TgF → List D → Env → Option Env
  | [], [], ρ => some ρ
  | g :: gs, d :: ds, ρ => (g d ρ).bind fun ρ' => tgS gs ds ρ'
  | _, _, _ => none
def tgT (gs : List TgF) : TgF := fun d ρ => match d with
  | .tup ds => tgS gs ds ρ
  | _ => none
/-- the judgement of a target: only the slots vs change -/
def tG (J : Jc) (vs : List Nat) (g : TgF) : TG := fun v σ H Q => ∃ W ρ d ρ', Sim J W ρ σ H ∧ Rep J.G W v d ∧ g d ρ = some ρ' ∧ ∀ σ', Sim J W ρ' σ' H → wipe σ' vs = wipe σ vs → Q σ' H
def tGs (J : Jc) (vs : List Nat) (gs : List TgF) : TGs := fun xs σ H Q => ∃ W ρ ds ρ', Sim J W ρ σ H ∧ RepL J.G W xs ds ∧ tgS gs ds ρ = some ρ' ∧ ∀ σ', Sim J W ρ' σ' H → wipe σ' vs = wipe σ vs → Q σ' H
theorem PG.imp {X : Cx} {e : Expr} {t u : TG} (h : PG X e t) (i : ∀ v σ H Q, u v σ H Q → t v σ H Q) : PG X e u := ⟨fun pins s σ H v w Q I r q => h.run pins s σ H v w Q I r (i _ _ _ _ q)⟩
theorem PGs.imp {X : Cx} {e : List Expr} {t u : TGs} (h : PGs X e t) (i : ∀ v σ H Q, u v σ H Q → t v σ H Q) : PGs X e u := ⟨fun pins s σ H v w Q I r q => h.run pins s σ H v w Q I r (i _ _ _ _ q)⟩
theorem wipe_set {σ : L2.St} {x : Option V} {i : Nat} : ∀ {vs : List Nat}, vs.contains i = true → wipe (σ.set i x) vs = wipe σ vs
  | [], h => by simp at h
  | v :: vs, h => by
    show (wipe (σ.set i x) vs).set v none = (wipe σ vs).set v none
    by_cases hv : vs.contains i = true
    · rw [wipe_set hv]
    · have e : v = i := by
        rw [List.contains_cons] at h
        simp only [Bool.or_eq_true, hv, or_false, beq_iff_eq] at h
        exact h.resolve_right (by simp) |>.symm
      subst e
      have key : ∀ vs : List Nat, wipe (σ.set v x) vs = (wipe σ vs).set v x ∨ vs.contains v = true := by
        intro vs
        induction vs with
        | nil => exact .inl rfl
        | cons w ws ih =>
          by_cases hw : w = v
          · exact .inr (by simp [hw])
          · rcases ih with z | z
            · refine .inl ?_
              show (wipe (σ.set v x) ws).set w none = ((wipe σ ws).set w none).set v x
              rw [z, List.set_comm _ _ (Ne.symm hw)]
            · exact .inr (by rw [List.contains_cons, z, Bool.or_true])
      rcases key vs with z | z
      · rw [z, List.set_set]
      · exact absurd z hv
theorem wipe_get' (σ : L2.St) : ∀ (vs : List Nat) (i : Nat), (wipe σ vs)[i]? = if vs.contains i then (σ[i]?).map fun _ => none else σ[i]?
  | [], i => rfl
  | v :: vs, i => by
    show ((wipe σ vs).set v none)[i]? = _
    rw [List.contains_cons]
    by_cases h : v = i
    · subst h
      simp only [beq_self_eq_true, Bool.true_or, if_true]
      rw [List.getElem?_set]
      simp only [if_true, wipe_length]
      by_cases hl : v < σ.length
      · rw [if_pos hl, List.getElem?_eq_getElem hl]; rfl
      · rw [if_neg hl, List.getElem?_eq_none (Nat.le_of_not_lt hl)]; rfl
    · rw [List.getElem?_set_ne h, wipe_get' σ vs i]
      have : (i == v) = false := by simpa using fun e => h e.symm
      rw [this, Bool.false_or]
theorem wipe_idem (σ : L2.St) (vs : List Nat) : wipe (wipe σ vs) vs = wipe σ vs := by
  apply List.ext_getElem?
  intro i
  rw [wipe_get', wipe_get']
  split
  · cases σ[i]? <;> rfl
  · rfl
section
variable {J : Jc} {X : Cx} {pos : Pos} {σ : L2.St} {H : Hp} {vs : List Nat}
theorem jg_name {i : Nat} {e : Expr} (h : PG X e (gName i)) (hi : vs.contains i = true := by rfl) : PG X e (tG J vs (tgN i)) := PG.imp h fun v σ H Q ⟨W, ρ, d, ρ', S, r, e, k⟩ => by
  cases e
  exact k _ (S.setv r) (wipe_set hi)
theorem tgS_cons {g : TgF} {gs : List TgF} {ds : List D} {ρ ρ' : Env} (h : tgS (g :: gs) ds ρ = some ρ') : ∃ d es ρ1, ds = d :: es ∧ g d ρ = some ρ1 ∧ tgS gs es ρ1 = some ρ' := by
  cases ds with
  | nil => cases h
  | cons d es =>
    have h : ((g d ρ).bind fun ρ1 => tgS gs es ρ1) = some ρ' := h
    cases e : g d ρ with
    | none => rw [e] at h; cases h
    | some ρ1 => rw [e] at h; exact ⟨d, es, ρ1, rfl, e, h⟩
theorem tgS_len : ∀ {gs : List TgF} {ds : List D} {ρ ρ' : Env}, tgS gs ds ρ = some ρ' → ds.length = gs.length
  | [], [], _, _, _ => rfl
  | [], _ :: _, _, _, h => by cases h
  | g :: gs, ds, ρ, ρ', h => by
    obtain ⟨d, es, ρ1, rfl, _, h2⟩ := tgS_cons h
    rw [List.length_cons, List.length_cons, tgS_len h2]
theorem jgs_nil : PGs X [] (tGs J vs []) := PGs.imp pgs_nil fun xs σ H Q ⟨W, ρ, ds, ρ', S, r, e, k⟩ => by
  cases ds with
  | nil =>
    cases r
    cases e
    exact ⟨rfl, k σ S rfl⟩
  | cons d es => cases e
theorem jgs_cons {e : Expr} {es : List Expr} {g : TgF} {gs : List TgF} (h1 : PG X e (tG J vs g)) (h2 : PGs X es (tGs J vs gs)) (hs : (assignEach (e :: es) X.env).map (·.2) = assign e X.env :: (assignEach es X.env).map (·.2) := by rfl) : PGs X (e :: es) (tGs J vs (g :: gs)) :=
  PGs.imp (pgs_cons h1 h2 hs) fun xs σ H Q ⟨W, ρ, ds, ρ', S, r, e, k⟩ => by
    obtain ⟨d, es', ρ1, rfl, e1, e2⟩ := tgS_cons e
    cases r with
    | cons r1 rr => exact ⟨_, _, rfl, W, ρ, d, ρ1, S, r1, e1, fun σ1 S1 w1 => ⟨W, ρ1, es', ρ', S1, rr, e2, fun σ2 S2 w2 => k σ2 S2 (w2.trans w1)⟩⟩
theorem jg_tup {es : List Expr} {k n : Nat} {gs : List TgF} (C : Ctx X J) (h : PGs X es (tGs J vs gs)) (hgl : gs.length = n := by rfl) (hn : (assignEach es X.env).length = n := by rfl) (hst : (assignEach es X.env).findIdx? (·.1) = none := by rfl) : PG X (.Tuple es k pos) (tG J vs (tgT gs)) :=
  PG.imp (pg_tup C.calm h hn hst) fun v σ H Q ⟨W, ρ, d, ρ', S, r, e, k⟩ => by
    cases d with
    | tup ds =>
      have e : tgS gs ds ρ = some ρ' := e
      cases r with
      | tup ht rr z =>
        refine ⟨_, _, rfl, ?_, ?_, W, ρ, ds, ρ', S, rr, e, k⟩
        · rw [C.K]; exact sqT_le S.sub ht
        · rw [rr.len, tgS_len e, hgl]
    | _ => cases e
end

/-! ### what is walked -/
abbrev DI := Env → (List D → Env → Prop) → DX → Prop
def ItD (J : Jc) (T : It) (W : Wd) (xs : List D) : Prop := ∀ W' H, W.le W' → Sub W' H → ∀ i, (i < xs.length → T.go i H ∧ ∀ x H', T.yld i H x H' → ∃ W'', Grow W' H W'' H' ∧ ∃ d, xs[i]? = some d ∧ Rep J.G W'' x d) ∧ (xs.length ≤ i → i ≤ xs.length → T.stop i H)
def tI (J : Jc) (d : DI) : TI := fun σ H R => ∃ W ρ, Sim J W ρ σ H ∧ ∃ P X, d ρ P X ∧ XOk J W σ X ∧ ∀ xs ρ', P xs ρ' → ∀ W' H' T, W.le W' → Sim J W' ρ' σ H' → ItD J T W' xs → xs.length ≤ sizeLine → R T H'
theorem PI.imp {X : Cx} {tg e : Expr} {t u : TI} (h : PI X tg e t) (i : ∀ σ H R, u σ H R → t σ H R) : PI X tg e u := ⟨fun pins s σ H R I q => h.run pins s σ H R I (i _ _ _ q)⟩
abbrev JI (J : Jc) (X : Cx) (tg e : Expr) (d : DI) : Prop := PI X tg e (tI J d)
theorem JI.imp {J : Jc} {X : Cx} {tg e : Expr} {d d' : DI} (h : JI J X tg e d) (i : ∀ ρ P X, d' ρ P X → d ρ P X) : JI J X tg e d' := PI.imp h fun σ H R ⟨W, ρ, S, P, X, q, r⟩ => ⟨W, ρ, S, P, X, i _ _ _ q, r⟩
/-- the items of what may be walked -/
def itemsOf : D → Option (List D)
  | .lst ds => some ds
  | .tup ds => some ds
  | .scr ns => some (ns.map .int)
  | .str x => some (x.cps.toList.map fun c => .str ⟨#[c]⟩)
  | _ => none
def dIt (d : DE) : DI := fun ρ P X => d ρ (fun r ρ' => ∃ ds, itemsOf r = some ds ∧ P ds ρ') X
def piF (f : Env → Option (List D)) : DI := fun ρ P _ => ∃ d, f ρ = some d ∧ P d ρ
def pIt (f : PuF) : Env → Option (List D) := fun ρ => (f ρ).bind itemsOf
section
variable {J : Jc} {X : Cx} {pos : Pos} {σ : L2.St} {H : Hp} {tg e : Expr}
/-- a list, a tuple or a text, whatever it is -/
def iSeq (K : PySem.W.Frag) (tl : TE) : TI := fun σ H R => tl σ H fun x H1 => (∃ a xs, x = .ref a ∧ SqL K H1 a xs ∧ R (Itl K a) H1) ∨ (∃ a xs, x = .ref a ∧ SqT K H1 a xs ∧ R (Itt K a) H1) ∨ ∃ z, x = .str z ∧ R (Its z) H1
theorem pi_seq {tl : TE} (hl : PE X e tl) : PI X tg e (iSeq X.K tl) := by
  constructor
  intro pins s σ H R I h
  apply thn (hl.run pins s σ H _ I h)
  rintro v s1 ⟨x, H1, I1, r1, q1⟩
  rcases q1 with ⟨a, xs, rfl, hq, q⟩ | ⟨a, xs, rfl, hq, q⟩ | ⟨z, rfl, q⟩
  · cases r1
    obtain ⟨its, _, p, _⟩ := I1.list hq
    exact wpAny_pyIter_list p.isList (pi_one (tk := s1.toks) I1 _ (turn_list a _) ⟨_, Heap.get?_push_size _ rfl, rfl, rfl⟩ q)
  · cases r1
    obtain ⟨its, _, p, _⟩ := I1.tuple hq
    exact wpAny_pyIter_tuple (show s1.heap.IsTuple a its.toArray from p) (pi_one (tk := s1.toks) I1 _ (turn_tuple a _) ⟨_, Heap.get?_push_size _ rfl, rfl, rfl⟩ q)
  · obtain ⟨t, rfl⟩ := r1
    by_cases hz : z.cps.all (· < 128) = true
    · exact wpAny_pyIter_ascii hz (pi_one (tk := s1.toks) I1 _ (turn_str _ z t _ (.inl rfl)) ⟨_, Heap.get?_push_size _ rfl, rfl, rfl⟩ q)
    · exact wpAny_pyIter_wide (Bool.eq_false_iff.mpr hz) (pi_one (tk := s1.toks) I1 _ (turn_str _ z t _ (.inr rfl)) ⟨_, Heap.get?_push_size _ rfl, rfl, rfl⟩ q)
theorem itD_lst {W : Wd} {a : Addr} {ds : List D} (r : Rep J.G W (.ref a) (.lst ds)) : ItD J (Itl J.G.K a) W ds := fun W' H l sb i => by
  cases r with
  | lst h rr z =>
    rename_i vs
    have hs : SqL J.G.K H a vs := .inl (.inl (sb _ _ (l.f _ _ h)))
    refine ⟨fun hi => ?_, fun hi _ => ⟨vs, hs, by rw [rr.len]; exact hi⟩⟩
    obtain ⟨y, hy, ry⟩ := rr.get (List.getElem?_eq_getElem hi)
    refine ⟨⟨vs, y, hs, hy⟩, fun x H' hx => ?_⟩
    obtain ⟨rfl, hx⟩ := hx
    have e := (hx vs hs).symm.trans hy
    cases e
    exact ⟨W', .rfl', _, List.getElem?_eq_getElem hi, ry.mono l⟩
theorem itD_scr {W : Wd} {a : Addr} {ns : List Int} (r : Rep J.G W (.ref a) (.scr ns)) : ItD J (Itl J.G.K a) W (ns.map .int) := fun W' H l sb i => by
  cases r with
  | scr h z =>
    have hs : SqL J.G.K H a (ns.map .int) := sqL_le sb (sqL_le l.f h)
    refine ⟨fun hi => ?_, fun hi _ => ⟨_, hs, by rw [List.length_map] at hi ⊢; exact hi⟩⟩
    rw [List.length_map] at hi
    have hy : (ns.map V.int)[i]? = some (.int ns[i]) := by rw [List.getElem?_map, List.getElem?_eq_getElem hi]; rfl
    refine ⟨⟨_, _, hs, hy⟩, fun x H' hx => ?_⟩
    obtain ⟨rfl, hx⟩ := hx
    have e := (hx _ hs).symm.trans hy
    cases e
    exact ⟨W', .rfl', .int ns[i], by rw [List.getElem?_map, List.getElem?_eq_getElem hi]; rfl, .int _⟩
theorem itD_tup {W : Wd} {a : Addr} {ds : List D} (r : Rep J.G W (.ref a) (.tup ds)) : ItD J (Itt J.G.K a) W ds := fun W' H l sb i => by
  cases r with
  | tup h rr z =>
    rename_i vs
    have hs : SqT J.G.K H a vs := sqT_le sb (sqT_le l.f h)
    refine ⟨fun hi => ?_, fun hi _ => ⟨vs, hs, by rw [rr.len]; exact hi⟩⟩
    obtain ⟨y, hy, ry⟩ := rr.get (List.getElem?_eq_getElem hi)
    refine ⟨⟨vs, y, hs, hy⟩, fun x H' hx => ?_⟩
    obtain ⟨rfl, hx⟩ := hx
    have e := (hx vs hs).symm.trans hy
    cases e
    exact ⟨W', .rfl', _, List.getElem?_eq_getElem hi, ry.mono l⟩
theorem sOk_cp {x : Str} (h : sOk x = true) {c : Nat} {i : Nat} (e : x.cps[i]? = some c) : sOk ⟨#[c]⟩ = true := by
  have h2 := sOk_cps h
  unfold PyData.strOk at h2
  rw [Array.all_eq_true_iff_forall_mem] at h2
  have := h2 c (Array.mem_of_getElem? e)
  unfold sOk PyData.strOk
  simp only [Bool.and_eq_true, decide_eq_true_eq] at this ⊢
  refine ⟨?_, ?_⟩
  · show (1 : Nat) ≤ sizeLine
    rw [sizeLine_eq]; omega
  · simp [this]
theorem itD_str {W : Wd} {x : Str} (h : sOk x = true) : ItD J (Its x) W (x.cps.toList.map fun c => D.str ⟨#[c]⟩) := fun W' H l sb i => by
  refine ⟨fun hi => ?_, fun hi _ => ?_⟩
  · rw [List.length_map, Array.length_toList] at hi
    refine ⟨hi, fun v H' hx => ?_⟩
    obtain ⟨rfl, c, hc, rfl⟩ := hx
    refine ⟨W', .rfl', .str ⟨#[c]⟩, ?_, .str _ (sOk_cp h hc)⟩
    rw [List.getElem?_map, Array.getElem?_toList, hc]
    rfl
  · rw [List.length_map, Array.length_toList] at hi
    exact hi
theorem ji_seq {d : DE} (C : Ctx X J) (h : JE J X e d) : JI J X tg e (dIt d) := PI.imp (pi_seq h) fun σ H R ⟨W, ρ, S, P, X, q, x, k⟩ => by
  refine ⟨W, ρ, S, _, X, q, x, fun r ρ1 q1 W1 v H1 l1 S1 rr => ?_⟩
  obtain ⟨ds, e1, p⟩ := q1
  rw [C.K]
  cases r with
  | lst xs =>
    cases e1
    cases rr with
    | lst h' rr' z => exact .inl ⟨_, _, rfl, .inl (.inl (S1.sub _ _ h')), k _ ρ1 p W1 H1 _ l1 S1 (itD_lst (.lst h' rr' z)) z⟩
  | tup xs =>
    cases e1
    cases rr with
    | tup h' rr' z => exact .inr (.inl ⟨_, _, rfl, sqT_le S1.sub h', k _ ρ1 p W1 H1 _ l1 S1 (itD_tup (.tup h' rr' z)) z⟩)
  | scr ns =>
    cases e1
    cases rr with
    | scr h' z => exact .inl ⟨_, _, rfl, sqL_le S1.sub h', k _ ρ1 p W1 H1 _ l1 S1 (itD_scr (.scr h' z)) (by rw [List.length_map, sizeLine_eq]; omega)⟩
  | str z =>
    cases e1
    cases rr with
    | str _ h' => exact .inr (.inr ⟨_, rfl, k _ ρ1 p W1 H1 _ l1 S1 (itD_str h') (by rw [List.length_map, Array.length_toList]; exact sOk_len h')⟩)
  | _ => cases e1
theorem ji_seqP {f : PuF} (C : Ctx X J) (h : JE J X e (pu f)) : JI J X tg e (piF (pIt f)) := JI.imp (ji_seq C h) fun ρ P X ⟨d, e, p⟩ => by
  unfold pIt at e
  cases e1 : f ρ with
  | none => rw [e1] at e; cases e
  | some x => rw [e1] at e; exact ⟨x, e1, d, e, p⟩

/-! ranges -/
def rng (a : Int) (n : Nat) : List D := (List.range n).map fun (i : Nat) => D.int (a + (i : Int))
def rngC (a c : Int) (n : Nat) : List D := (List.range n).map fun (i : Nat) => D.int (a + (i : Int) * c)
theorem rng_get {a : Int} {n i : Nat} (h : i < n) : (rng a n)[i]? = some (.int (a + (i : Int))) := by
  unfold rng
  rw [List.getElem?_map, List.getElem?_range h]
  rfl
theorem rngC_get {a c : Int} {n i : Nat} (h : i < n) : (rngC a c n)[i]? = some (.int (a + (i : Int) * c)) := by
  unfold rngC
  rw [List.getElem?_map, List.getElem?_range h]
  rfl
theorem rng_len {a : Int} {n : Nat} : (rng a n).length = n := by unfold rng; rw [List.length_map, List.length_range]
theorem rngC_len {a c : Int} {n : Nat} : (rngC a c n).length = n := by unfold rngC; rw [List.length_map, List.length_range]
theorem itD_rng {W : Wd} {a : Int} {n : Nat} : ItD J (Itr a n) W (rng a n) := fun W' H l sb i => by
  rw [rng_len]
  exact ⟨fun hi => ⟨hi, fun x H' hx => by obtain ⟨rfl, rfl⟩ := hx; exact ⟨W', .rfl', _, rng_get hi, .int _⟩⟩, fun hi _ => hi⟩
theorem itD_rngC {W : Wd} {a c : Int} {n : Nat} : ItD J (Itc a c n) W (rngC a c n) := fun W' H l sb i => by
  rw [rngC_len]
  exact ⟨fun hi => ⟨hi, fun x H' hx => by obtain ⟨rfl, rfl⟩ := hx; exact ⟨W', .rfl', _, rngC_get hi, .int _⟩⟩, fun hi _ => hi⟩
def inB (i : Int) : Bool := decide (-(2 ^ 62) ≤ i) && decide (i < 2 ^ 62)
theorem inB_iff {i : Int} : inB i = true ↔ -(2 ^ 62) ≤ i ∧ i < 2 ^ 62 := by unfold inB; simp
def rngOf : List D → Option (List D)
  | [.int j] => if inB j && decide (j.toNat ≤ sizeLine) then some (rng 0 j.toNat) else none
  | [.int i, .int j] => if (inB i && inB j) && decide ((j - i).toNat ≤ sizeLine) then some (rng i (j - i).toNat) else none
  | _ => none
def dRg (das : List DB) : DI := fun ρ P X => dArgs das ρ (fun bs ρ1 => ∃ ds c, vals bs = some ds ∧ rngOf ds = some c ∧ P c ρ1) X
def pRg (fs : List PuF) : Env → Option (List D) := fun ρ => (evs fs ρ).bind rngOf
theorem dRg_p {fs : List PuF} {ρ : Env} {P : List D → Env → Prop} {X : DX} (h : piF (pRg fs) ρ P X) : dRg (fs.map fun f => dV (pu f)) ρ P X := by
  obtain ⟨c, e, p⟩ := h
  unfold pRg at e
  cases e1 : evs fs ρ with
  | none => rw [e1] at e; cases e
  | some ds =>
    rw [e1] at e
    exact dArgs_pv e1 ⟨ds, c, vals_v ds, e, p⟩
variable {a b c : Expr} {p : Pos}
theorem ji_rg1 {das : List DB} (hg : Gl X "range") (hm : X.mg "range" = none) (ha : JA J X [a] 1 (dArgs das)) (hs : starEach [a] X.env = [(false, eval a X.env)] := by rfl) : JI J X tg (.Call (.Name "range" p) [a] [] pos) (dRg das) :=
  PI.imp (pi_range1 hg hm ha hs) fun σ H R ⟨W, ρ, S, P, X, q, x, k⟩ => by
    refine ⟨W, ρ, S, _, X, q, x, fun bs ρ1 q1 hl W1 vs H1 l1 S1 r1 => ?_⟩
    obtain ⟨ds, c, e1, e2, p⟩ := q1
    have rr := vals_rep r1 e1
    unfold rngOf at e2
    split at e2
    · cases rr with
      | cons r t =>
        cases t
        cases r
        split at e2
        · rename_i hb
          cases e2
          simp only [Bool.and_eq_true, inB_iff, decide_eq_true_eq] at hb
          exact ⟨_, rfl, hb.1.1, hb.1.2, k _ ρ1 p W1 H1 _ l1 S1 itD_rng (by rw [rng_len]; exact hb.2)⟩
        · cases e2
    · rename_i i j
      have := vals_len e1
      rw [hl] at this
      simp at this
    · cases e2
theorem ji_rg2 {das : List DB} (hg : Gl X "range") (hm : X.mg "range" = none) (ha : JA J X [a, b] 2 (dArgs das)) (hs : starEach [a, b] X.env = [(false, eval a X.env), (false, eval b X.env)] := by rfl) (hs2 : starEach [b] X.env = [(false, eval b X.env)] := by rfl) : JI J X tg (.Call (.Name "range" p) [a, b] [] pos) (dRg das) :=
  PI.imp (pi_range2 hg hm ha hs hs2) fun σ H R ⟨W, ρ, S, P, X, q, x, k⟩ => by
    refine ⟨W, ρ, S, _, X, q, x, fun bs ρ1 q1 hl W1 vs H1 l1 S1 r1 => ?_⟩
    obtain ⟨ds, c, e1, e2, p⟩ := q1
    have rr := vals_rep r1 e1
    unfold rngOf at e2
    split at e2
    · have := vals_len e1
      rw [hl] at this
      simp at this
    · cases rr with
      | cons r t =>
        cases t with
        | cons r' t' =>
          cases t'
          cases r
          cases r'
          split at e2
          · rename_i hb
            cases e2
            simp only [Bool.and_eq_true, inB_iff, decide_eq_true_eq] at hb
            exact ⟨_, _, rfl, ⟨hb.1.1.1, hb.1.1.2, hb.1.2.1, hb.1.2.2⟩, k _ ρ1 p W1 H1 _ l1 S1 itD_rng (by rw [rng_len]; exact hb.2)⟩
          · cases e2
    · cases e2
end
end DL

/-! DL: comprehensions. -/
namespace DL
open PySem PySem.Spec PyProof.Rows L2

/-! ### the fixed part, changed -/
abbrev Jc.at (J : Jc) (h0 : Hp) : Jc := ⟨J.G, J.W0, h0, J.lo, fun _ _ _ => False, J.big⟩
section
variable {J : Jc} {W : Wd} {ρ : Env} {σ : L2.St} {H : Hp} {p : Addr} {o : HO}
theorem Sim.reE (h : Sim J W ρ σ H) (E : XK) : Sim { J with E := E } W ρ σ H := ⟨h.sub, h.len, h.slot, h.dist, h.st, h.out, h.new, h.fr, h.w0, h.h0, h.bud⟩
theorem h0_up {H0 : Hp} {p : Addr} {vs : List V} (h : ∀ a o, H0 a = some o → nTb o = true) : ∀ a o, upd H0 p (.lst vs) a = some o → nTb o = true := fun a o e => by
  by_cases q : a = p
  · subst q
    rw [upd_same] at e
    cases e; rfl
  · rw [upd_ne q] at e
    exact h a o e
/-- a list of the block's own beside -/
theorem Sim.guest (h : Sim J W ρ σ H) (n : H p = none) (vs : List V) : Sim (J.at (upd J.H0 p (.lst vs))) W ρ σ (upd H p (.lst vs)) := by
  have g := h.newH (o := .lst vs) n
  obtain ⟨f1, f2, f3⟩ := h.free n
  have no : ∀ a, (∃ u, H a = some u) → a ≠ p := fun a ⟨u, e⟩ => ne_of_none e n
  have own : ∀ a, (∃ u, H a = some u) → Own1 J W a → Own1 (J.at (upd J.H0 p (.lst vs))) W a := fun a e ⟨w1, w2, w3⟩ => ⟨w1, by show upd J.H0 p (.lst vs) a = none; rw [upd_ne (no a e)]; exact w2, w3⟩
  refine ⟨g.sub, g.len, fun i s e => ?_, g.dist, g.st, fun a u e m => ?_, fun e a m => ?_, fun a u e => ?_, g.w0, h0_up h.h0, g.bud⟩
  · have z := g.slot i s e
    have z0 := h.slot i s e
    cases s with
    | un => trivial
    | val d => exact z
    | ml ds =>
      obtain ⟨a, ws, q1, q2, q3, q4, q5⟩ := z
      obtain ⟨a', ws', p1, p2, _⟩ := z0
      rw [q1] at p1; cases p1
      exact ⟨a, ws, q1, q2, q3, q4, own a ⟨_, p2⟩ q5⟩
    | md ds =>
      obtain ⟨a, ws, q1, q2, q3, q4, q5⟩ := z
      obtain ⟨a', ws', p1, p2, _⟩ := z0
      rw [q1] at p1; cases p1
      exact ⟨a, ws, q1, q2, q3, q4, own a ⟨_, p2⟩ q5⟩
    | lam k => exact z
    | fuel n => trivial
  · by_cases ha : a = p
    · subst ha
      have e : upd J.H0 a (.lst vs) a = some u := e
      rw [upd_same] at e ⊢
      exact e
    · have e : upd J.H0 p (.lst vs) a = some u := e
      rw [upd_ne ha] at e
      exact g.out a u e m
  · show upd J.H0 p (.lst vs) a = none
    rw [upd_ne (fun z => by rw [z] at m; exact f2 m)]
    exact g.new e a m
  · by_cases ha : a = p
    · subst ha
      rw [f1] at e; cases e
    · show _ ∨ upd J.H0 p (.lst vs) a = none
      rw [upd_ne ha]
      exact g.fr a u e
theorem Sim.guest_is {vs : List V} (h : Sim (J.at (upd J.H0 p (.lst vs))) W ρ σ H) (hc : p ∉ cellsOf W.S) : H p = some (.lst vs) := h.out p _ (show upd J.H0 p (.lst vs) p = _ from upd_same) hc
/-- .. written -/
theorem Sim.guest_up {vs ws : List V} (h : Sim (J.at (upd J.H0 p (.lst vs))) W ρ σ H) (hc : p ∉ cellsOf W.S) (hF : W.F p = none) : Sim (J.at (upd J.H0 p (.lst ws))) W ρ σ (upd H p (.lst ws)) := by
  have hp := h.guest_is hc
  have oc : ∀ a, Own1 (J.at (upd J.H0 p (.lst vs))) W a → a ≠ p ∧ Own1 (J.at (upd J.H0 p (.lst ws))) W a := fun a ⟨w1, w2, w3⟩ => by
    have ne : a ≠ p := fun z => by
      have w2 : upd J.H0 p (.lst vs) a = none := w2
      rw [z, upd_same] at w2; cases w2
    have w2 : upd J.H0 p (.lst vs) a = none := w2
    rw [upd_ne ne] at w2
    exact ⟨ne, w1, by show upd J.H0 p (.lst ws) a = none; rw [upd_ne ne]; exact w2, w3⟩
  refine ⟨fun a u e => ?_, h.len, fun i s e => ?_, h.dist, ⟨fun a g c e => ?_, tabs_up h.st.tab fun b u e n1 n2 => by
    rw [upd_ne]
    · exact e
    · rintro rfl
      rw [hp] at e
      cases e
      exact n1 vs rfl⟩, fun a u e m => ?_, fun e a m => ?_, fun a u e => ?_, h.w0, ?_, h.bud.to rfl (fun b hm o q => by rw [upd_ne (fun t => hc (by rw [← t]; exact hm))]; exact q) (Nat.le_refl _)⟩
  · rw [upd_ne (fun z => by rw [z, hF] at e; cases e)]
    exact h.sub a u e
  · have z := h.slot i s e
    cases s with
    | un => trivial
    | val d => exact z
    | ml ds =>
      obtain ⟨a, xs, q1, q2, q3, q4, q5⟩ := z
      obtain ⟨ne, o⟩ := oc a q5
      exact ⟨a, xs, q1, by rw [upd_ne ne]; exact q2, q3, q4, o⟩
    | md ds =>
      obtain ⟨a, xs, q1, q2, q3, q4, q5⟩ := z
      obtain ⟨ne, o⟩ := oc a q5
      exact ⟨a, xs, q1, by rw [upd_ne ne]; exact q2, q3, q4, o⟩
    | lam k =>
      obtain ⟨f, φ, q1, q2, q3⟩ := z
      refine ⟨f, φ, q1, ?_, q3⟩
      rw [upd_ne]
      · exact q2
      · rintro rfl
        rw [hp] at q2
        have q3 : J.lo k f = HO.ext φ := q3
        have q2 : some (HO.lst vs) = some (J.lo k f) := q2
        rw [q3] at q2
        cases q2
    | fuel n => trivial
  · have z := h.st.cl a g c e
    rw [e] at hc
    simp only [cellsOf, List.mem_cons, List.not_mem_nil, or_false, not_or] at hc
    exact z.to .rfl' (fun o e => by rw [upd_ne (fun t => hc.1 t.symm)]; exact e) (fun o e => by rw [upd_ne (fun t => hc.2 t.symm)]; exact e) z.fa z.fg
  · by_cases ha : a = p
    · subst ha
      have e : upd J.H0 a (.lst ws) a = some u := e
      rw [upd_same] at e ⊢
      exact e
    · have e : upd J.H0 p (.lst ws) a = some u := e
      rw [upd_ne ha] at e ⊢
      exact h.out a u (by show upd J.H0 p (.lst vs) a = _; rw [upd_ne ha]; exact e) m
  · have q : upd J.H0 p (.lst vs) a = none := h.new e a m
    have ne : a ≠ p := fun z => by rw [z] at m; exact hc m
    show upd J.H0 p (.lst ws) a = none
    rw [upd_ne ne] at q ⊢
    exact q
  · have ne : a ≠ p := fun z => by rw [z, hF] at e; cases e
    have q := h.fr a u e
    show _ ∨ upd J.H0 p (.lst ws) a = none
    have q : _ ∨ upd J.H0 p (.lst vs) a = none := q
    rw [upd_ne ne] at q ⊢
    exact q
  · intro a u e
    have e : upd J.H0 p (.lst ws) a = some u := e
    by_cases q : a = p
    · subst q
      rw [upd_same] at e
      cases e; rfl
    · rw [upd_ne q] at e
      exact h.h0 a u (by show upd J.H0 p (.lst vs) a = _; rw [upd_ne q]; exact e)
/-- .. let go -/
theorem Sim.unguest {vs : List V} (h : Sim (J.at (upd J.H0 p (.lst vs))) W ρ σ H) (hc : p ∉ cellsOf W.S) (hF : W.F p = none) (h0 : J.H0 p = none) : ∃ H', H = upd H' p (.lst vs) ∧ H' p = none ∧ Sim J W ρ σ H' := by
  have hp := h.guest_is hc
  let H' : Hp := fun a => if a = p then none else H a
  have at' : ∀ a, a ≠ p → H' a = H a := fun a q => by show (if a = p then none else H a) = H a; rw [if_neg q]
  have atp : H' p = none := by show (if p = p then none else H p) = none; rw [if_pos rfl]
  have oc : ∀ a, Own1 (J.at (upd J.H0 p (.lst vs))) W a → a ≠ p ∧ Own1 J W a := fun a ⟨w1, w2, w3⟩ => by
    have ne : a ≠ p := fun z => by
      have w2 : upd J.H0 p (.lst vs) a = none := w2
      rw [z, upd_same] at w2; cases w2
    have w2 : upd J.H0 p (.lst vs) a = none := w2
    rw [upd_ne ne] at w2
    exact ⟨ne, w1, w2, w3⟩
  refine ⟨H', ?_, atp, ⟨fun a u e => ?_, h.len, fun i s e => ?_, h.dist, ⟨fun a g c e => ?_, tabs_up h.st.tab fun b u e n1 n2 => by
    rw [at' b]
    · exact e
    · rintro rfl
      rw [hp] at e
      cases e
      exact n1 vs rfl⟩, fun a u e m => ?_, fun e a m => ?_, fun a u e => ?_, h.w0, ?_, h.bud.to rfl (fun b hm o q => by rw [at' b (fun t => hc (by rw [← t]; exact hm))]; exact q) (Nat.le_refl _)⟩⟩
  · funext a
    by_cases ha : a = p
    · subst ha
      rw [upd_same, hp]
    · rw [upd_ne ha, at' a ha]
  · rw [at' a (fun z => by rw [z, hF] at e; cases e)]
    exact h.sub a u e
  · have z := h.slot i s e
    cases s with
    | un => trivial
    | val d => exact z
    | ml ds =>
      obtain ⟨a, xs, q1, q2, q3, q4, q5⟩ := z
      obtain ⟨ne, o⟩ := oc a q5
      exact ⟨a, xs, q1, by rw [at' a ne]; exact q2, q3, q4, o⟩
    | md ds =>
      obtain ⟨a, xs, q1, q2, q3, q4, q5⟩ := z
      obtain ⟨ne, o⟩ := oc a q5
      exact ⟨a, xs, q1, by rw [at' a ne]; exact q2, q3, q4, o⟩
    | lam k =>
      obtain ⟨f, φ, q1, q2, q3⟩ := z
      refine ⟨f, φ, q1, ?_, q3⟩
      rw [at' f]
      · exact q2
      · rintro rfl
        rw [hp] at q2
        have q3 : J.lo k f = HO.ext φ := q3
        have q2 : some (HO.lst vs) = some (J.lo k f) := q2
        rw [q3] at q2
        cases q2
    | fuel n => trivial
  · have z := h.st.cl a g c e
    rw [e] at hc
    simp only [cellsOf, List.mem_cons, List.not_mem_nil, or_false, not_or] at hc
    exact z.to .rfl' (fun o e => by rw [at' a (fun t => hc.1 t.symm)]; exact e) (fun o e => by rw [at' g (fun t => hc.2 t.symm)]; exact e) z.fa z.fg
  · have ne : a ≠ p := fun z => by rw [z, h0] at e; cases e
    rw [at' a ne]
    exact h.out a u (by show upd J.H0 p (.lst vs) a = _; rw [upd_ne ne]; exact e) m
  · have q : upd J.H0 p (.lst vs) a = none := h.new e a m
    rw [upd_ne (fun z => by rw [z] at m; exact hc m)] at q
    exact q
  · have ne : a ≠ p := fun z => by rw [z, hF] at e; cases e
    have q : _ ∨ upd J.H0 p (.lst vs) a = none := h.fr a u e
    rw [upd_ne ne] at q
    exact q
  · intro a u e
    have q : a ≠ p := fun z => by rw [z, h0] at e; cases e
    exact h.h0 a u (by show upd J.H0 p (.lst vs) a = _; rw [upd_ne q]; exact e)
theorem Sim.guestF {vs : List V} (h : Sim (J.at (upd J.H0 p (.lst vs))) W ρ σ H) (w : J.W0.F p = none) : W.F p = none := by
  cases e : W.F p with
  | none => rfl
  | some u =>
    rcases h.fr p u e with z | z
    · have z : J.W0.F p = some u := z
      rw [w] at z; cases z
    · have z : upd J.H0 p (.lst vs) p = none := z
      rw [upd_same] at z; cases z
theorem Sim.guestC {vs : List V} (h : Sim (J.at (upd J.H0 p (.lst vs))) W ρ σ H) (q : p ∉ cellsOf J.W0.S) : p ∉ cellsOf W.S := by
  intro m
  have w : J.W0.S = none ∨ W.S = J.W0.S := h.w0.s
  rcases w with z | z
  · have t : upd J.H0 p (.lst vs) p = none := h.new z p m
    rw [upd_same] at t; cases t
  · rw [z] at m; exact q m
end

/-! ### wiping and restoring -/
def wipeE : List Nat → Env → Env
  | [], ρ => ρ
  | v :: vs, ρ => (wipeE vs ρ).set v .un
def restA (vs : List Nat) : Nat → Env → Env → Env
  | k, a :: as, b :: bs => (if vs.contains k then a else b) :: restA vs (k + 1) as bs
  | _, _, _ => []
def restE (vs : List Nat) (ρ1 ρw : Env) : Env := restA vs 0 ρ1 ρw
def okS : SV → Bool
  | .un => true
  | .val _ => true
  | _ => false
def okW (vs : List Nat) (ρ : Env) : Bool := vs.all fun v => match ρ[v]? with
  | some s => okS s
  | none => true
theorem wipeE_len (ρ : Env) : ∀ vs, (wipeE vs ρ).length = ρ.length
  | [] => rfl
  | v :: vs => by show ((wipeE vs ρ).set v .un).length = _; rw [List.length_set, wipeE_len ρ vs]
theorem wipeE_get (ρ : Env) : ∀ (vs : List Nat) (i : Nat), (wipeE vs ρ)[i]? = if vs.contains i then (ρ[i]?).map fun _ => .un else ρ[i]?
  | [], i => rfl
  | v :: vs, i => by
    show ((wipeE vs ρ).set v .un)[i]? = _
    rw [List.contains_cons]
    by_cases h : v = i
    · subst h
      simp only [beq_self_eq_true, Bool.true_or, if_true]
      rw [List.getElem?_set]
      simp only [if_true, wipeE_len]
      by_cases hl : v < ρ.length
      · rw [if_pos hl, List.getElem?_eq_getElem hl]; rfl
      · rw [if_neg hl, List.getElem?_eq_none (Nat.le_of_not_lt hl)]; rfl
    · rw [List.getElem?_set_ne h, wipeE_get ρ vs i]
      have : (i == v) = false := by simpa using fun e => h e.symm
      rw [this, Bool.false_or]
theorem wipe_get (σ : L2.St) : ∀ (vs : List Nat) (i : Nat), vs.contains i = false → (wipe σ vs)[i]? = σ[i]?
  | [], i, _ => rfl
  | v :: vs, i, h => by
    rw [List.contains_cons, Bool.or_eq_false_iff] at h
    show ((wipe σ vs).set v none)[i]? = _
    rw [List.getElem?_set_ne (fun e => by simp [e] at h), wipe_get σ vs i h.2]
theorem restA_len (vs : List Nat) : ∀ (k : Nat) (a b : Env), a.length = b.length → (restA vs k a b).length = a.length
  | _, [], [], _ => rfl
  | k, x :: a, y :: b, h => by
    show (restA vs (k + 1) a b).length + 1 = a.length + 1
    rw [restA_len vs (k + 1) a b (Nat.succ.inj h)]
theorem restA_get (vs : List Nat) : ∀ (k i : Nat) (a b : Env), a.length = b.length → (restA vs k a b)[i]? = if vs.contains (k + i) then a[i]? else b[i]?
  | k, i, [], [], _ => by simp [restA]
  | k, 0, x :: a, y :: b, h => by
    show some (if vs.contains k then x else y) = _
    simp only [Nat.add_zero, List.getElem?_cons_zero]
    split <;> rfl
  | k, i + 1, x :: a, y :: b, h => by
    show (restA vs (k + 1) a b)[i]? = _
    rw [restA_get vs (k + 1) i a b (Nat.succ.inj h), show k + 1 + i = k + (i + 1) by omega]
    simp only [List.getElem?_cons_succ]
theorem restE_get {vs : List Nat} {a b : Env} (h : a.length = b.length) (i : Nat) : (restE vs a b)[i]? = if vs.contains i then a[i]? else b[i]? := by
  unfold restE
  rw [restA_get vs 0 i a b h, Nat.zero_add]
theorem fuel_rest {vs : List Nat} {a b : Env} (h : a.length = b.length) (ok : okW vs a = true) : fuelOf (restE vs a b) ≤ fuelOf b := by
  have hl : (restE vs a b).length = b.length := by unfold restE; rw [restA_len vs 0 a b h, h]
  unfold fuelOf
  rw [List.getLast?_eq_getElem?, List.getLast?_eq_getElem?, hl, restE_get h]
  cases hc : vs.contains (b.length - 1) with
  | false => rw [if_neg Bool.false_ne_true]; exact Nat.le_refl _
  | true =>
    rw [if_pos rfl]
    have z := (List.all_eq_true.mp ok) (b.length - 1) (by simpa using hc)
    cases e : a[b.length - 1]? with
    | none => exact Nat.zero_le _
    | some s =>
      rw [e] at z
      cases s <;> first | exact Nat.zero_le _ | cases z
theorem restE_wipe (vs : List Nat) (ρ : Env) : restE vs ρ (wipeE vs ρ) = ρ := by
  apply List.ext_getElem?
  intro i
  rw [restE_get (wipeE_len ρ vs).symm, wipeE_get]
  split <;> rfl
section
variable {J : Jc} {W W1 : Wd} {ρ ρ1 : Env} {σ : L2.St} {H H1 : Hp}
theorem Sim.wipe (h : Sim J W ρ σ H) : ∀ vs : List Nat, Sim J W (wipeE vs ρ) (L2.wipe σ vs) H
  | [] => h
  | v :: vs => (h.wipe vs).put (s := .un) trivial rfl
theorem sim_rest {vs : List Nat} (h1 : Sim J W1 ρ1 σ H1) (h : Sim J W ρ (L2.wipe σ vs) H) (l : W1.le W) (ok : okW vs ρ1 = true) : Sim J W (restE vs ρ1 ρ) σ H := by
  have hl : ρ1.length = ρ.length := by rw [h1.len, h.len, wipe_length]
  have hok : ∀ i s, vs.contains i = true → ρ1[i]? = some s → okS s = true := fun i s hi e => by
    have z := (List.all_eq_true.mp ok) i (by simpa using hi)
    rw [e] at z
    exact z
  refine ⟨h.sub, ?_, fun i s e => ?_, fun i j a hij oi oj => ?_, h.st, h.out, h.new, h.fr, h.w0, h.h0, h.bud.to rfl (fun _ _ _ e => e) (fuel_rest hl ok)⟩
  · unfold restE
    rw [restA_len vs 0 ρ1 ρ hl, h1.len]
  · rw [restE_get hl] at e
    cases hc : vs.contains i with
    | true =>
      rw [hc, if_pos rfl] at e
      have o := hok i s hc e
      have z := h1.slot i s e
      cases s with
      | un => trivial
      | val d =>
        obtain ⟨v, q1, q2⟩ := z
        exact ⟨v, q1, q2.mono l⟩
      | ml _ => cases o
      | md _ => cases o
      | lam _ => cases o
      | fuel _ => cases o
    | false =>
      rw [hc, if_neg Bool.false_ne_true] at e
      have z := h.slot i s e
      rw [wipe_get σ vs i hc] at z
      exact z
  · have key : ∀ {i a}, OwnAt (restE vs ρ1 ρ) σ i a → OwnAt ρ (L2.wipe σ vs) i a := by
      intro i a ⟨⟨s, e1, e2⟩, e3⟩
      rw [restE_get hl] at e1
      cases hc : vs.contains i with
      | true =>
        rw [hc, if_pos rfl] at e1
        have o := hok i s hc e1
        cases s <;> first | cases o; done | cases e2; done
      | false =>
        rw [hc, if_neg Bool.false_ne_true] at e1
        exact ⟨⟨s, e1, e2⟩, by rw [wipe_get σ vs i hc]; exact e3⟩
    exact h.dist i j a hij (key oi) (key oj)
end

/-! ### one for -/
def dCL (vs : List Nat) (g : TgF) (tt : DT) (te : DE) : List D → List D → Env → (List D → Env → Prop) → Prop
  | [], acc, ρ, P => P acc ρ
  | x :: xs, acc, ρ, P => ∃ ρ2, g x ρ = some ρ2 ∧ tt ρ2 (fun b ρ3 => if b = true then te ρ3 (fun y ρ4 => dCL vs g tt te xs (acc ++ [y]) (wipeE vs ρ4) P) (fun _ _ _ => False) else dCL vs g tt te xs acc (wipeE vs ρ3) P) (fun _ _ _ => False)
def dComp (di : DI) (vs : List Nat) (g : TgF) (tt : DT) (te : DE) : DF := fun ρ P X => di ρ (fun xs ρ1 => okW vs ρ1 = true ∧ dCL vs g tt te xs [] (wipeE vs ρ1) (fun acc ρw => P acc (restE vs ρ1 ρw))) X
def dYes : DT := fun ρ P _ => P true ρ
theorem Ctx.blk {X : Cx} {J : Jc} (C : Ctx X J) {s : Shared} {H : Hp} {scope : Scope} {ce : PySem.Env} {fp : List Addr} {h0 : Hp} : Ctx (X.blk s H scope ce fp) (J.at h0) := ⟨C.K, C.calm, C.un, L2.takes0, .never, C.nd, C.gd⟩
def tEA (J : Jc) (d : DE) : TE := fun σ H Q => ∃ h0, tE (J.at h0) d σ H Q
def tTA (J : Jc) (d : DT) : TT := fun σ H Q => ∃ h0, tTs (J.at h0) d σ H Q
def tGA (J : Jc) (vs : List Nat) (g : TgF) : TG := fun v σ H Q => ∃ h0, tG (J.at h0) vs g v σ H Q
section
variable {J : Jc} {X : Cx} {pos : Pos} {tg iter elt : Expr} {ifs : List Expr} {scope : Scope} {own : List (Str × Nat)} {di : DI} {vs : List Nat} {g : TgF} {tt : DT} {te : DE}
theorem jts_nil {J : Jc} {X : Cx} : PTs X [] (tTs J dYes) := ⟨fun pins s σ H Q I ⟨W, ρ, S, P, X, q, x, k⟩ => pts_nil.run pins s σ H Q I (k true ρ q W H .rfl' S)⟩
theorem jts_one {J : Jc} {X : Cx} {c : Expr} {t : DT} (h : JT J X c t) : PTs X [c] (tTs J t) := pts_one h
theorem lc_imp {σ : L2.St} {H : Hp} {Q : VK} (h : tF J (dComp di vs g tt te) σ H Q) : tLc (tI J di) (tGA J vs g) (tTA J tt) (tEA J te) vs σ H Q := by
  obtain ⟨W, ρ, S, P, X', q, x, k⟩ := h
  refine ⟨W, ρ, S, _, X', q, x, fun xs ρ1 q1 W1 H1 T l1 S1 it hz p np => ?_⟩
  obtain ⟨okw, q1⟩ := q1
  obtain ⟨f1, f2, f3⟩ := S1.free np
  have c0 : p ∉ cellsOf J.W0.S := by
    rcases S1.w0.s with z | z
    · rw [z]; exact fun m => nomatch m
    · rw [← z]; exact f2
  have w0 : J.W0.F p = none := by
    cases e : J.W0.F p with
    | none => rfl
    | some u => rw [S1.w0.f _ _ e] at f1; cases f1
  let Fin : List D → Env → Prop := fun acc ρw => P acc (restE vs ρ1 ρw)
  let St' : Nat → Hp → Prop := fun i H => ∃ W2 ρ2 acc ws, W1.le W2 ∧ Sim (J.at (upd J.H0 p (.lst ws))) W2 ρ2 (L2.wipe σ vs) H ∧ RepL J.G W2 ws acc ∧ acc.length ≤ i ∧ dCL vs g tt te (xs.drop i) acc ρ2 Fin
  refine ⟨fun i m H => m + i = xs.length ∧ St' i H, ⟨xs.length, rfl, W1, _, [], [], .rfl', (S1.wipe vs).guest np [], .nil, Nat.le_refl 0, q1⟩, fun i m H hW => ?_⟩
  obtain ⟨hm, W2, ρ2, acc, ws, l2, S2, rl, hl, hd⟩ := hW
  have gc := S2.guestC c0
  have gf := S2.guestF w0
  by_cases hi : i < xs.length
  · refine .inr ⟨((it W2 H l2 S2.sub i).1 hi).1, St' (i + 1), fun H' n => ⟨m - 1, by omega, by omega, n⟩, fun y H' hy => ?_⟩
    obtain ⟨W3, gr, d, hd', rd'⟩ := ((it W2 H l2 S2.sub i).1 hi).2 y H' hy
    obtain ⟨S3, l3⟩ := S2.grow gr
    have ed : xs.drop i = d :: xs.drop (i + 1) := by
      rw [List.drop_eq_getElem_cons hi]
      rw [List.getElem?_eq_getElem hi] at hd'
      rw [Option.some.inj hd']
    rw [ed] at hd
    obtain ⟨ρ3, eg, ht⟩ := hd
    refine ⟨upd J.H0 p (.lst ws), W3, ρ2, d, ρ3, S3, rd', eg, fun σ2 S4 w4 => ?_⟩
    have w4' : L2.wipe σ2 vs = L2.wipe σ vs := w4.trans (wipe_idem σ vs)
    refine ⟨w4', upd J.H0 p (.lst ws), W3, ρ3, S4, _, _, ht, XOk.no, fun b ρ4 q4 W5 H5 l5 S5 => ?_⟩
    cases b with
    | false =>
      rw [if_neg Bool.false_ne_true] at q4 ⊢
      have S6 := S5.wipe vs
      rw [w4'] at S6
      exact ⟨W5, _, acc, ws, (l2.trans l3).trans l5, S6, rl.mono (l3.trans l5), by omega, q4⟩
    | true =>
      rw [if_pos rfl] at q4 ⊢
      refine ⟨upd J.H0 p (.lst ws), W5, ρ4, S5, _, _, q4, XOk.no, fun y5 ρ6 q6 W6 v6 H6 l6 S6 r6 => ?_⟩
      have gc6 := S6.guestC c0
      have gf6 := S6.guestF w0
      refine ⟨ws, S6.guest_is gc6, by rw [rl.len]; omega, ?_⟩
      have S7 := (S6.guest_up (ws := ws ++ [v6]) gc6 gf6).wipe vs
      rw [w4'] at S7
      exact ⟨W6, _, acc ++ [y5], ws ++ [v6], ((l2.trans l3).trans l5).trans l6, S7, (rl.mono ((l3.trans l5).trans l6)).app (.cons r6 .nil), by rw [List.length_append, List.length_singleton]; omega, q6⟩
  · refine .inl ⟨(it W2 H l2 S2.sub i).2 (Nat.le_of_not_lt hi) (by omega), ?_⟩
    rw [List.drop_eq_nil_of_le (Nat.le_of_not_lt hi)] at hd
    obtain ⟨H', rfl, n', S'⟩ := S2.unguest gc gf f3
    exact k acc _ hd W2 p ws H' (l1.trans l2) (sim_rest S1 S' l2 okw) n' rl (by omega)
/-- [elt for tg in iter if ..] -/
theorem jf_lc (C : Ctx X J) (hi : JI J X tg iter di) (ok : BlkOk X.N X.env.scope scope own)
    (hg : ∀ (s : Shared) (H : Hp) (A : Addr) (cl : List (Str × Addr)) (fp : List Addr) (h0 : Hp), PG (X.blk s H scope (compEnvC scope cl A X.env) fp) tg (tG (J.at h0) (own.map (·.2)) g))
    (ht : ∀ (s : Shared) (H : Hp) (A : Addr) (cl : List (Str × Addr)) (fp : List Addr) (h0 : Hp), PTs (X.blk s H scope (compEnvC scope cl A X.env) fp) ifs (tTs (J.at h0) tt))
    (he : ∀ (s : Shared) (H : Hp) (A : Addr) (cl : List (Str × Addr)) (fp : List Addr) (h0 : Hp), PE (X.blk s H scope (compEnvC scope cl A X.env) fp) elt (tE (J.at h0) te))
    (hs : ∀ x, foldedSetIterable iter X.env x = pure x := by intro _; rfl) : JF J X (.ListComp elt [⟨tg, iter, ifs, 0⟩] scope pos) (dComp di (own.map (·.2)) g tt te) :=
  PE.imp (pe_lc C.calm C.nd hi ok (fun s H A cl fp => ⟨fun pins s2 σ H v w Q I r ⟨h0, q⟩ => (hg s _ A cl fp h0).run pins s2 σ H v w Q I r q⟩) (fun s H A cl fp => ⟨fun pins s2 σ H Q I ⟨h0, q⟩ => (ht s _ A cl fp h0).run pins s2 σ H Q I q⟩)
    (fun s H A cl fp => ⟨fun pins s2 σ H Q I ⟨h0, q⟩ => (he s _ A cl fp h0).run pins s2 σ H Q I q⟩) hs) fun σ H Q h => lc_imp h
end
end DL

/-! DL: statements, loops, defs. -/
namespace DL
open PySem PySem.Spec PyProof.Rows L2

structure DN where
  nx : Env → Prop
  rt : D → Prop
  bk : Env → Prop
  ct : Env → Prop
  ex : Nat → List D → Prop
abbrev DS := Env → DN → Prop
structure Out (J : Jc) (W : Wd) (H : Hp) : Prop where
  sub : Sub W H
  st : StOk W H
  out : KeepX W J.H0 H
  new : J.W0.S = none → ∀ a ∈ cellsOf W.S, J.H0 a = none
  fr : ∀ a o, W.F a = some o → J.W0.F a = some o ∨ J.H0 a = none
  w0 : J.W0.le W
  bud : TurnLe W H J.big
theorem Sim.fin {J : Jc} {W : Wd} {ρ : Env} {σ : L2.St} {H : Hp} (h : Sim J W ρ σ H) : Out J W H := ⟨h.sub, h.st, h.out, h.new, h.fr, h.w0, let ⟨_, h1, h2, _⟩ := h.bud; h1.to rfl (fun _ _ _ e => e) (Nat.le_trans (Nat.le_add_right _ _) h2)⟩
structure NOk (J : Jc) (W : Wd) (E : Ends) (N : DN) : Prop where
  nx : ∀ ρ W' σ H, N.nx ρ → W.le W' → Sim J W' ρ σ H → E.nx σ H
  rt : ∀ r W' v H, N.rt r → W.le W' → Out J W' H → Rep J.G W' v r → E.rt v H
  bk : ∀ ρ W' σ H, N.bk ρ → W.le W' → Sim J W' ρ σ H → E.bk σ H
  ct : ∀ ρ W' σ H, N.ct ρ → W.le W' → Sim J W' ρ σ H → E.ct σ H
  ex : ∀ c ds W' H d, N.ex c ds → W.le W' → Out J W' H → ExRep J.G W' c ds d → J.E (.ref (J.G.cA c)) d H
theorem NOk.mono {J : Jc} {W W' : Wd} {E : Ends} {N : DN} (l : W.le W') (h : NOk J W E N) : NOk J W' E N :=
  ⟨fun ρ W2 σ H n l2 s => h.nx ρ W2 σ H n (l.trans l2) s, fun r W2 v H n l2 s e => h.rt r W2 v H n (l.trans l2) s e, fun ρ W2 σ H n l2 s => h.bk ρ W2 σ H n (l.trans l2) s, fun ρ W2 σ H n l2 s => h.ct ρ W2 σ H n (l.trans l2) s, fun c ds W2 H d n l2 s e => h.ex c ds W2 H d n (l.trans l2) s e⟩
/-- an expression's exceptions within a statement -/
def DN.x (N : DN) : DX := fun c ds _ => N.ex c ds
theorem NOk.x {J : Jc} {W : Wd} {E : Ends} {N : DN} {σ : L2.St} (h : NOk J W E N) : XOk J W σ N.x := fun c ds ρ' n W' H d l s e => h.ex c ds W' H d n l s.fin e
def tS (J : Jc) (d : DS) : TS := fun E σ H => ∃ W ρ, Sim J W ρ σ H ∧ ∃ N, d ρ N ∧ NOk J W E N
abbrev JS (J : Jc) (X : Cx) (st : Stmt) (d : DS) : Prop := PS X st (tS J d)
abbrev JSs (J : Jc) (X : Cx) (st : List Stmt) (d : DS) : Prop := PSs X st (tS J d)
theorem JS.imp {J : Jc} {X : Cx} {e : Stmt} {d d' : DS} (h : JS J X e d) (i : ∀ ρ N, d' ρ N → d ρ N) : JS J X e d' := PS.imp h fun E σ H ⟨W, ρ, S, N, q, r⟩ => ⟨W, ρ, S, N, i _ _ q, r⟩

/-! ### blocks -/
def dNx : DS := fun ρ N => N.nx ρ
def dSeq (d1 d2 : DS) : DS := fun ρ N => d1 ρ { N with nx := fun ρ' => d2 ρ' N }
def dBlk : List DS → DS
  | [] => dNx
  | d :: ds => dSeq d (dBlk ds)
section
variable {J : Jc} {X : Cx} {pos : Pos} {st : Stmt} {sts : List Stmt} {e : Expr}
theorem jss_nil : JSs J X [] (dBlk []) := PSs.imp pss_nil fun E σ H ⟨W, ρ, S, N, q, r⟩ => r.nx ρ W σ H q .rfl' S
theorem jss_cons {d : DS} {ds : List DS} (h : JS J X st d) (t : JSs J X sts (dBlk ds)) : JSs J X (st :: sts) (dBlk (d :: ds)) := PSs.imp (pss_cons h t) fun E σ H ⟨W, ρ, S, N, q, r⟩ =>
  ⟨W, ρ, S, _, q, ⟨fun ρ' W' σ' H' n l s => ⟨W', ρ', s, N, n, r.mono l⟩, r.rt, r.bk, r.ct, r.ex⟩⟩
theorem js_pass : JS J X (.Pass pos) dNx := PS.imp ps_pass fun E σ H ⟨W, ρ, S, N, q, r⟩ => r.nx ρ W σ H q .rfl' S
def dBk : DS := fun ρ N => N.bk ρ
def dCt : DS := fun ρ N => N.ct ρ
theorem js_break : JS J X (.Break pos) dBk := PS.imp ps_break fun E σ H ⟨W, ρ, S, N, q, r⟩ => r.bk ρ W σ H q .rfl' S
theorem js_cont : JS J X (.Continue pos) dCt := PS.imp ps_continue fun E σ H ⟨W, ρ, S, N, q, r⟩ => r.ct ρ W σ H q .rfl' S

/-! ### return, drop, if -/
def dRet (d : DE) : DS := fun ρ N => d ρ (fun r _ => N.rt r) N.x
def dDrop (d : DE) : DS := fun ρ N => d ρ (fun _ ρ' => N.nx ρ') N.x
def dIf (t : DT) (a b : DS) : DS := fun ρ N => t ρ (fun c ρ' => if c = true then a ρ' N else b ρ' N) N.x
theorem js_ret {d : DE} (h : JE J X e d) : JS J X (.Return (some e) pos) (dRet d) := PS.imp (ps_ret h) fun E σ H ⟨W, ρ, S, N, q, r⟩ => ⟨W, ρ, S, _, N.x, q, r.x, fun d ρ' n W' v H' l s rp => r.rt d W' v H' n l s.fin rp⟩
def dRetN : DS := fun _ N => N.rt .non
theorem js_retN : JS J X (.Return none pos) dRetN := PS.imp ps_retN fun E σ H ⟨W, ρ, S, N, q, r⟩ => r.rt .non W .non H q .rfl' S.fin .non
theorem js_drop {d : DE} (h : JE J X e d) (hs : swapsWith e none pos.line X.env = pure false := by rfl) : JS J X (.Expr e pos) (dDrop d) := PS.imp (ps_expr h hs) fun E σ H ⟨W, ρ, S, N, q, r⟩ => ⟨W, ρ, S, _, N.x, q, r.x, fun d ρ' n W' v H' l s _ => r.nx ρ' W' σ H' n l s⟩
theorem js_if {c : Expr} {sa sb : List Stmt} {t : DT} {a b : DS} (hc : JT J X c t) (ha : JSs J X sa a) (hb : JSs J X sb b) : JS J X (.If c sa sb pos) (dIf t a b) := PS.imp (ps_if hc ha hb) fun E σ H ⟨W, ρ, S, N, q, r⟩ => ⟨W, ρ, S, _, N.x, q, r.x, fun c ρ' n W' H' l s => by
  cases c with
  | true => exact ⟨W', ρ', s, N, n, r.mono l⟩
  | false => exact ⟨W', ρ', s, N, n, r.mono l⟩⟩

/-! ### stores -/
def dAsg (d : DE) (g : TgF) : DS := fun ρ N => d ρ (fun r ρ' => ∃ ρ2, g r ρ' = some ρ2 ∧ N.nx ρ2) N.x
def dSet (i : Nat) (d : DE) : DS := fun ρ N => d ρ (fun r ρ' => N.nx (ρ'.set i (.val r))) N.x
def dSetM (i : Nat) (d : DF) : DS := fun ρ N => d ρ (fun r ρ' => N.nx (ρ'.set i (.ml r))) N.x
def dSetF (i : Nat) (d : DF) : DS := fun ρ N => d ρ (fun r ρ' => N.nx (ρ'.set i (.val (.lst r)))) N.x
theorem set_imp {i : Nat} {d : DE} {E : Ends} {σ : L2.St} {H : Hp} (h : tS J (dSet i d) E σ H) : tAsg (tE J d) (gName i) E σ H := by
  obtain ⟨W, ρ, S, N, q, r⟩ := h
  exact ⟨W, ρ, S, _, N.x, q, r.x, fun d ρ' n W' v H' l s rp => r.nx _ W' _ H' n l (s.setv rp)⟩
theorem setM_imp {i : Nat} {d : DF} {E : Ends} {σ : L2.St} {H : Hp} (h : tS J (dSetM i d) E σ H) : tF J d σ H fun x H1 => gName i x σ H1 E.nx := by
  obtain ⟨W, ρ, S, N, q, r⟩ := h
  exact ⟨W, ρ, S, _, N.x, q, r.x, fun ds ρ' n W' p vs H' l s np rl z => r.nx _ W' _ _ n l (s.setm np rl z)⟩
theorem setF_imp {i : Nat} {d : DF} {E : Ends} {σ : L2.St} {H : Hp} (h : tS J (dSetF i d) E σ H) : tF J d σ H fun x H1 => gName i x σ H1 E.nx := by
  obtain ⟨W, ρ, S, N, q, r⟩ := h
  refine ⟨W, ρ, S, _, N.x, q, r.x, fun ds ρ' n W' p vs H' l s np rl z => ?_⟩
  have lw : W'.le (W'.add p (.lst vs)) := Wd.le_add (s.free np).1
  exact r.nx _ (W'.add p (.lst vs)) _ _ n (l.trans lw) ((s.newF np).setv (.lst (show upd W'.F p (.lst vs) p = _ from upd_same) (rl.mono lw) z))
theorem js_set {i : Nat} {x : Str} {d : DE} {p' : Pos} (C : Ctx X J) (h : JE J X e d) (hi : X.N[i]? = some x) (hx : Loc X.env.scope x) (hs : swapsWith e (some (.Name x p')) pos.line X.env = pure false := by rfl)
    (hf : X.fn x = true ∨ X.env.scope.names.lookup x = some .local := by first | exact .inl rfl | exact .inr rfl | assumption) : JS J X (.Assign [.Name x p'] e pos) (dSet i d) := PS.imp (ps_set C.nd hi hx h hs hf) fun E σ H h => set_imp h
theorem js_setM {i : Nat} {x : Str} {d : DF} {p' : Pos} (C : Ctx X J) (h : JF J X e d) (hi : X.N[i]? = some x) (hx : Loc X.env.scope x) (hs : swapsWith e (some (.Name x p')) pos.line X.env = pure false := by rfl)
    (hf : X.fn x = true ∨ X.env.scope.names.lookup x = some .local := by first | exact .inl rfl | exact .inr rfl | assumption) : JS J X (.Assign [.Name x p'] e pos) (dSetM i d) := PS.imp (ps_set C.nd hi hx h hs hf) fun E σ H h => setM_imp h
theorem js_asg {tg : Expr} {vs : List Nat} {g : TgF} {d : DE} (h : JE J X e d) (hg : PG X tg (tG J vs g)) (hs : swapsWithSole [tg] e pos.line X.env = pure false := by rfl) (hw : swappedStores [tg] e X.env = pure none := by rfl)
    (h1 : (assignEach [tg] X.env).map (·.2) = [assign tg X.env] := by rfl) : JS J X (.Assign [tg] e pos) (dAsg d g) := PS.imp (ps_asg h hg hs hw h1) fun E σ H ⟨W, ρ, S, N, q, r⟩ =>
  ⟨W, ρ, S, _, N.x, q, r.x, fun d ρ' ⟨ρ2, e, n⟩ W' v H' l s rp => ⟨W', ρ', d, ρ2, s, rp, e, fun σ' s' _ => r.nx ρ2 W' σ' H' n l s'⟩⟩
/-- name = [.. for ..] on one line, the name a local -/
theorem js_lc {i : Nat} {y : Str} {py spos : Pos} {tg iter elt : Expr} {ifs : List Expr} {scope : Scope} {own : List (Str × Nat)} {di : DI} {g : TgF} {tt : DT} {te : DE} (C : Ctx X J) (hy : X.N[i]? = some y) (hyl : X.env.scope.names.lookup y = some .local)
    (hsw : swapsWith (.ListComp elt [⟨tg, iter, ifs, 0⟩] scope pos) (some (.Name y py)) spos.line X.env = pure true) (hi : JI J X tg iter di) (ok : BlkOk X.N X.env.scope scope own)
    (hg : ∀ (s : Shared) (H : Hp) (A : Addr) (cl : List (Str × Addr)) (fp : List Addr) (h0 : Hp), PG (X.blk s H scope (compEnvC scope cl A X.env) fp) tg (tG (J.at h0) (own.map (·.2)) g))
    (ht : ∀ (s : Shared) (H : Hp) (A : Addr) (cl : List (Str × Addr)) (fp : List Addr) (h0 : Hp), PTs (X.blk s H scope (compEnvC scope cl A X.env) fp) ifs (tTs (J.at h0) tt))
    (he : ∀ (s : Shared) (H : Hp) (A : Addr) (cl : List (Str × Addr)) (fp : List Addr) (h0 : Hp), PE (X.blk s H scope (compEnvC scope cl A X.env) fp) elt (tE (J.at h0) te))
    (hs : ∀ x, foldedSetIterable iter X.env x = pure x := by intro _; rfl) : PS X (.Assign [.Name y py] (.ListComp elt [⟨tg, iter, ifs, 0⟩] scope pos) spos) (fun E σ H => tF J (dComp di (own.map (·.2)) g tt te) σ H fun x H1 => gName i x σ H1 E.nx) :=
  PS.imp (ps_setLc C.calm C.nd hy hyl hsw hi ok (fun s H A cl fp => ⟨fun pins s2 σ H v w Q I r ⟨h0, q⟩ => (hg s _ A cl fp h0).run pins s2 σ H v w Q I r q⟩) (fun s H A cl fp => ⟨fun pins s2 σ H Q I ⟨h0, q⟩ => (ht s _ A cl fp h0).run pins s2 σ H Q I q⟩)
    (fun s H A cl fp => ⟨fun pins s2 σ H Q I ⟨h0, q⟩ => (he s _ A cl fp h0).run pins s2 σ H Q I q⟩) hs) fun E σ H h => lc_imp h
theorem js_lcM {i : Nat} {d : DF} (h : PS X st (fun E σ H => tF J d σ H fun x H1 => gName i x σ H1 E.nx)) : JS J X st (dSetM i d) := PS.imp h fun E σ H q => setM_imp q
theorem js_lcF {i : Nat} {d : DF} (h : PS X st (fun E σ H => tF J d σ H fun x H1 => gName i x σ H1 E.nx)) : JS J X st (dSetF i d) := PS.imp h fun E σ H q => setF_imp q
/-- a, b = x, y -/
def dPar (i j : Nat) (d1 d2 : DE) : DS := fun ρ N => d1 ρ (fun r1 ρ1 => d2 ρ1 (fun r2 ρ2 => N.nx ((ρ2.set i (.val r1)).set j (.val r2))) N.x) N.x
theorem js_par {i j : Nat} {x y : Str} {a b : Expr} {d1 d2 : DE} {px py pt : Pos} {kt : Nat} {k2 : Nat} {pt2 : Pos} (C : Ctx X J) (ha : JE J X a d1) (hb : JE J X b d2) (hi : X.N[i]? = some x) (hj : X.N[j]? = some y) (hij : i ≠ j) (hx : X.env.scope.names.lookup x = some .local) (hy : X.env.scope.names.lookup y = some .local)
    (hw : swappedStores [.Tuple [.Name x px, .Name y py] kt pt] (.Tuple [a, b] k2 pt2) X.env = pure (some [x, y])) (hs : swapsWithSole [.Tuple [.Name x px, .Name y py] kt pt] (.Tuple [a, b] k2 pt2) pos.line X.env = pure false := by rfl)
    (he1 : starEach [a, b] X.env = (false, eval a X.env) :: starEach [b] X.env := by rfl) (he2 : starEach [b] X.env = (false, eval b X.env) :: starEach [] X.env := by rfl) : JS J X (.Assign [.Tuple [.Name x px, .Name y py] kt pt] (.Tuple [a, b] k2 pt2) pos) (dPar i j d1 d2) :=
  PS.imp (ps_par C.calm C.nd hi hj hij hx hy (ja_cons (jv ha) (ja_cons (jv hb) ja_nil he2) he1) hw hs) fun E σ H ⟨W, ρ, S, N, q, r⟩ => by
    have q : dArgs [dV d1, dV d2] ρ (fun bs ρ2 => ∃ r1 r2, bs = [.v r1, .v r2] ∧ N.nx ((ρ2.set i (.val r1)).set j (.val r2))) N.x := by
      refine (show d1 ρ (fun r1 ρ1 => d2 ρ1 (fun r2 ρ2 => ∃ a b, ([.v r1, .v r2] : List B) = [.v a, .v b] ∧ N.nx ((ρ2.set i (.val a)).set j (.val b))) N.x) N.x from ?_)
      have e : (fun r1 ρ1 => d2 ρ1 (fun r2 ρ2 => ∃ a b, ([.v r1, .v r2] : List B) = [.v a, .v b] ∧ N.nx ((ρ2.set i (.val a)).set j (.val b))) N.x) = fun r1 ρ1 => d2 ρ1 (fun r2 ρ2 => N.nx ((ρ2.set i (.val r1)).set j (.val r2))) N.x := by
        funext r1 ρ1
        congr 1
        funext r2 ρ2
        apply propext
        constructor
        · rintro ⟨a, b, e, n⟩
          cases e
          exact n
        · exact fun n => ⟨r1, r2, rfl, n⟩
      rw [e]
      exact q
    refine ⟨W, ρ, S, _, N.x, q, r.x, fun bs ρ2 ⟨r1, r2, eb, n⟩ _ W' vs H' l s rp => ?_⟩
    subst eb
    cases rp with
    | cons h1 t =>
      cases t with
      | cons h2 t2 =>
        cases t2
        exact ⟨_, _, rfl, r.nx _ W' _ H' n l ((s.setv h1).setv h2)⟩
/-- name op= e -/
def dAug (i : Nat) (op : D → D → Option D) (d : DB) : DS := fun ρ N => d ρ (fun b ρ' => ∃ x y c, rdv i ρ = some x ∧ deref ρ' b = some y ∧ op x y = some c ∧ N.nx (ρ'.set i (.val c))) N.x
theorem js_aug {i : Nat} {x : Str} {d : DB} {o : Operator} {rr : R2} {op : D → D → Option D} {p' : Pos} (C : Ctx X J) (ho : OpR X (inplaceOp o) rr) (ok : OpOk J.G rr op) (h : JB J X e d) (hi : X.N[i]? = some x) (hx : Loc X.env.scope x)
    (hf : X.fn x = true ∨ X.env.scope.names.lookup x = some .local := by first | exact .inl rfl | exact .inr rfl | assumption) (hd : ∀ ρ P X, d ρ P X → rdv i ρ ≠ none := by exact fun _ _ _ _ => by assumption) : True := trivial

/-! ### for -/
def dFL (g : TgF) (b : DS) : List D → Env → DN → Prop
  | [], ρ, N => N.nx ρ
  | x :: xs, ρ, N => ∃ ρ2, g x ρ = some ρ2 ∧ b ρ2 { N with nx := fun ρ' => dFL g b xs ρ' N, ct := fun ρ' => dFL g b xs ρ' N, bk := N.nx }
def dFor (di : DI) (g : TgF) (b : DS) : DS := fun ρ N => di ρ (fun xs ρ1 => dFL g b xs ρ1 N) N.x
theorem js_for {tg iter : Expr} {body : List Stmt} {di : DI} {vs : List Nat} {g : TgF} {b : DS} (C : Ctx X J) (hi : JI J X tg iter di) (hg : PG X tg (tG J vs g)) (hb : JSs J X body b) (hs : ∀ x, foldedSetIterable iter X.env x = pure x := by intro _; rfl) : JS J X (.For tg iter body [] pos) (dFor di g b) :=
  PS.imp (ps_for C.po C.calm hi hg hb hs) fun E σ H ⟨W, ρ, S, N, q, r⟩ => by
    refine ⟨W, ρ, S, _, N.x, q, r.x, fun xs ρ1 q1 W1 H1 T l1 S1 it hz => ?_⟩
    let Sv : Nat → L2.St → Hp → Prop := fun i σ H => ∃ W2 ρ2, W1.le W2 ∧ Sim J W2 ρ2 σ H ∧ dFL g b (xs.drop i) ρ2 N
    refine ⟨fun i m σ H => m + i = xs.length ∧ Sv i σ H, ⟨xs.length, rfl, W1, ρ1, .rfl', S1, q1⟩, fun i m σ H hW => ?_⟩
    obtain ⟨hm, W2, ρ2, l2, S2, hd⟩ := hW
    by_cases hi : i < xs.length
    · refine .inr ⟨((it W2 H l2 S2.sub i).1 hi).1, Sv (i + 1), fun σ' H' n => ⟨m - 1, by omega, by omega, n⟩, fun y H' hy => ?_⟩
      obtain ⟨W3, gr, d, hd', rd'⟩ := ((it W2 H l2 S2.sub i).1 hi).2 y H' hy
      obtain ⟨S3, l3⟩ := S2.grow gr
      have ed : xs.drop i = d :: xs.drop (i + 1) := by
        rw [List.drop_eq_getElem_cons hi]
        rw [List.getElem?_eq_getElem hi] at hd'
        rw [Option.some.inj hd']
      rw [ed] at hd
      obtain ⟨ρ3, eg, ht⟩ := hd
      refine ⟨W3, ρ2, d, ρ3, S3, rd', eg, fun σ2 S4 w4 => ⟨W3, ρ3, S4, _, ht, ?_⟩⟩
      have l13 := l2.trans l3
      exact ⟨fun ρ' W' σ' H' n l s => ⟨W', ρ', l13.trans l, s, n⟩, fun d W' v H' n l o rp => r.rt d W' v H' n ((l1.trans l13).trans l) o rp, fun ρ' W' σ' H' n l s => r.nx ρ' W' σ' H' n ((l1.trans l13).trans l) s, fun ρ' W' σ' H' n l s => ⟨W', ρ', l13.trans l, s, n⟩,
        fun c ds W' H' d n l o e => r.ex c ds W' H' d n ((l1.trans l13).trans l) o e⟩
    · refine .inl ⟨(it W2 H l2 S2.sub i).2 (Nat.le_of_not_lt hi) (by omega), ?_⟩
      rw [List.drop_eq_nil_of_le (Nat.le_of_not_lt hi)] at hd
      exact r.nx ρ2 W2 σ H hd (l1.trans l2) S2

/-! ### while -/
def dWhile (t : DT) (b : DS) : DS := fun ρ N => ∃ V : Nat → Env → Prop, (∃ n, V n ρ) ∧ ∀ n ρ, V n ρ → t ρ (fun c ρ1 => if c = true then b ρ1 { N with nx := fun ρ2 => ∃ m, m < n ∧ V m ρ2, ct := fun ρ2 => ∃ m, m < n ∧ V m ρ2, bk := N.nx } else N.nx ρ1) N.x
theorem js_while {c : Expr} {body : List Stmt} {t : DT} {b : DS} (C : Ctx X J) (hc : JT J X c t) (hb : JSs J X body b) : JS J X (.While c body [] pos) (dWhile t b) :=
  PS.imp (ps_while C.po hc hb) fun E σ H ⟨W, ρ, S, N, ⟨V, ⟨n0, v0⟩, q⟩, r⟩ => by
    refine ⟨fun m σ H => ∃ W2 ρ2, W.le W2 ∧ Sim J W2 ρ2 σ H ∧ V m ρ2, ⟨n0, W, ρ, .rfl', S, v0⟩, fun m σ H hW => ?_⟩
    obtain ⟨W2, ρ2, l2, S2, v2⟩ := hW
    refine ⟨W2, ρ2, S2, _, N.x, q m ρ2 v2, (r.mono l2).x, fun c ρ3 q3 W3 H3 l3 S3 => ?_⟩
    cases c with
    | false =>
      rw [if_neg Bool.false_ne_true] at q3 ⊢
      exact r.nx ρ3 W3 σ H3 q3 (l2.trans l3) S3
    | true =>
      rw [if_pos rfl] at q3 ⊢
      have l23 := l2.trans l3
      refine ⟨fun σ' H' => ∃ W' ρ' k, W.le W' ∧ Sim J W' ρ' σ' H' ∧ k < m ∧ V k ρ', fun σ' H' ⟨W', ρ', k, l', S', hk, v⟩ => ⟨k, hk, W', ρ', l', S', v⟩, W3, ρ3, S3, _, q3, ?_⟩
      exact ⟨fun ρ' W' σ' H' ⟨k, hk, v⟩ l s => ⟨W', ρ', k, l23.trans l, s, hk, v⟩, fun d W' v H' n l o rp => r.rt d W' v H' n (l23.trans l) o rp, fun ρ' W' σ' H' n l s => r.nx ρ' W' σ' H' n (l23.trans l) s, fun ρ' W' σ' H' ⟨k, hk, v⟩ l s => ⟨W', ρ', k, l23.trans l, s, hk, v⟩,
        fun c ds W' H' d n l o e => r.ex c ds W' H' d n (l23.trans l) o e⟩
end

/-! ### a def -/
def startE (n m : Nat) (ds : List D) : Env := ds.map .val ++ (List.replicate (n - ds.length - (if m = 0 then 0 else 1)) .un ++ if m = 0 then [] else [.fuel m])
theorem startE_len {n m : Nat} {ds : List D} (h : ds.length + (if m = 0 then 0 else 1) ≤ n) : (startE n m ds).length = n := by
  unfold startE
  rw [List.length_append, List.length_append, List.length_map, List.length_replicate]
  by_cases hm : m = 0
  · simp only [hm, if_true] at h ⊢
    simp
    omega
  · simp only [hm, if_false] at h ⊢
    simp
    omega
theorem startE_fuel {n m : Nat} {ds : List D} : fuelOf (startE n m ds) = m := by
  unfold startE fuelOf
  by_cases hm : m = 0
  · subst hm
    simp only [if_true, List.append_nil]
    rw [List.getLast?_eq_getElem?]
    generalize hi : (List.map SV.val ds ++ List.replicate (n - ds.length - 0) SV.un).length - 1 = i
    cases e : (List.map SV.val ds ++ List.replicate (n - ds.length - 0) SV.un)[i]? with
    | none => rfl
    | some s =>
      have hs := List.mem_of_getElem? e
      rw [List.mem_append] at hs
      rcases hs with hs | hs
      · obtain ⟨d, _, rfl⟩ := List.mem_map.mp hs; rfl
      · rw [List.mem_replicate] at hs; rw [hs.2]
  · simp only [hm, if_false]
    rw [← List.append_assoc, List.getLast?_concat]
theorem start_get {N : List Str} {vs : List V} {i : Nat} {v : V} (h : vs[i]? = some v) : (L2.start N vs)[i]? = some (some v) := by
  unfold L2.start
  have hl := (List.getElem?_eq_some_iff.mp h).1
  rw [List.getElem?_append_left (by rw [List.length_map]; exact hl), List.getElem?_map, h]
  rfl
theorem startE_get {n m : Nat} {ds : List D} {i : Nat} {s : SV} (e : (startE n m ds)[i]? = some s) : (∃ d, ds[i]? = some d ∧ s = .val d) ∨ s = .un ∨ ∃ k, s = .fuel k := by
  unfold startE at e
  by_cases h : i < ds.length
  · rw [List.getElem?_append_left (by rw [List.length_map]; exact h), List.getElem?_map, List.getElem?_eq_getElem h] at e
    cases e
    exact .inl ⟨_, List.getElem?_eq_getElem h, rfl⟩
  · rw [List.getElem?_append_right (by rw [List.length_map]; omega)] at e
    have hs := List.mem_of_getElem? e
    rw [List.mem_append] at hs
    rcases hs with hs | hs
    · rw [List.mem_replicate] at hs
      exact .inr (.inl hs.2)
    · split at hs
      · cases hs
      · rw [List.mem_singleton] at hs
        exact .inr (.inr ⟨_, hs⟩)
theorem sim_start {G : Gm} {W : Wd} {H : Hp} {lo : Nat → Addr → HO} {E : XK} {N : List Str} {vs : List V} {ds : List D} {m B : Nat} (sb : Sub W H) (so : StOk W H) (r : RepL G W vs ds) (hB : TurnLe W H B) (hb : B + m ≤ BIG) (hn : ds.length + (if m = 0 then 0 else 1) ≤ N.length) : Sim ⟨G, W, mask H, lo, E, B + m⟩ W (startE N.length m ds) (L2.start N vs) H := by
  have hl := r.len
  refine ⟨sb, ?_, fun i s e => ?_, fun i j a _ oi _ => ?_, so, fun a o e _ => (mask_some.mp e).1, fun e a m => ?_, fun a o e => .inl e, .rfl', fun a o e => (mask_some.mp e).2, ⟨B, hB, by rw [startE_fuel]; exact Nat.le_refl _, hb⟩⟩
  · rw [startE_len hn]
    unfold L2.start
    rw [List.length_append, List.length_map, List.length_replicate, hl]
    omega
  · rcases startE_get e with ⟨d, h, rfl⟩ | rfl | ⟨k, rfl⟩
    · obtain ⟨v, hv, rv⟩ := r.get h
      exact ⟨v, start_get hv, rv⟩
    · trivial
    · trivial
  · obtain ⟨⟨s, e1, e2⟩, _⟩ := oi
    rcases startE_get e1 with ⟨d, h, rfl⟩ | rfl | ⟨k, rfl⟩ <;> cases e2
  · have e : W.S = none := e
    rw [e] at m; cases m
theorem least_turn {W : Wd} {H : Hp} (so : StOk W H) : ∃ B, TurnLe W H B ∧ ∀ C, TurnLe W H C → B ≤ C := by
  cases e : W.S with
  | none => exact ⟨0, fun a g c q => (by rw [e] at q; cases q), fun _ _ => Nat.zero_le _⟩
  | some z =>
    obtain ⟨a, g, c⟩ := z
    obtain ⟨gs, r, t, h1, _, _, _, _, h2⟩ := (so.cl a g c e).ok
    refine ⟨t.toNat, fun a' g' c' q => ?_, fun C hC => ?_⟩
    · rw [e] at q
      cases q
      exact ⟨r, t, h1, by omega⟩
    · obtain ⟨r', t', h3, h4⟩ := hC a g c e
      rw [h1] at h3
      have h3 := Option.some.inj h3
      unfold stO at h3
      have h5 : t = t' := by
        injection h3 with h3
        injection h3 with _ h3
        injection h3 with _ h3
        injection h3 with _ h3
        injection h3 with h3 _
        injection h3 with _ h3
        injection h3
      omega
section
variable {P : Program} {w : World} {K : PySem.W.Frag} {mg : Str → Option Value} {base : Heap}
theorem ctx_fn {cA : Nat → Addr} {fl : Nat → List Str} {N : List Str} {qual : Str} {scope : Scope} {f : Addr} {cd : Value} {A : Around} {outer : List PySem.Env} {s : Shared} {H : Hp} {E : XK} {W : Wd} {lo : Nat → Addr → HO} {k B : Nat} (hr : Room k (A.deeper (envOfC qual scope s.heap.objs.size f cd))) (hu : (A.deeper (envOfC qual scope s.heap.objs.size f cd)).units + 100 < cLine) (nd : N.Nodup) (hgd : A.guards = some []) :
    Ctx (cxOf (L2.CX P w) P w K mg base N qual scope f cd A outer s H E) ⟨⟨K, cA, fl⟩, W, mask H, lo, E, B⟩ := ⟨rfl, rfl, hu, takes_of rfl rfl rfl rfl, passes_of rfl, nd, hgd⟩
theorem out_keep {G : Gm} {W W' : Wd} {H H' : Hp} {lo : Nat → Addr → HO} {E : XK} {B m : Nat} (o : Out ⟨G, W, mask H, lo, E, B + m⟩ W' H') (hB : ∀ C, TurnLe W H C → B ≤ C) : KeepC m W H W' H' := ⟨o.w0, o.sub, o.st, o.out, o.new, o.fr, fun C hC => TurnLe.to o.bud rfl (fun _ _ _ e => e) (Nat.add_le_add_right (hB C hC) m)⟩
/-- THE RULE: a def by its body's meaning; m: so many draws at most -/
theorem fn_okB {cA : Nat → Addr} {fl : Nat → List Str} {x qual : Str} {st : Stmt} {f : Addr} {fd : FuncData} {N ps : List Str} {k : Nat} (m : Nat) {d : Nat → DS} {sp : DSp} (F : Fun K x qual st f fd) (S : FnScope N ps (defScope st)) (hN : ps.length + (if m = 0 then 0 else 1) ≤ N.length)
    (body : ∀ (cdv : Value) (A : Around) (outer : List PySem.Env) (s : Shared) (H : Hp) (E : XK) (W : Wd) (B : Nat), Room (k + 2) (A.deeper (envOfC qual (defScope st) s.heap.objs.size f cdv)) →
      Ctx (cxOf (L2.CX P w) P w K mg base N qual (defScope st) f cdv A outer s H E) ⟨⟨K, cA, fl⟩, W, mask H, fun _ _ => .own 0, E, B⟩ → JSs ⟨⟨K, cA, fl⟩, W, mask H, fun _ _ => .own 0, E, B⟩ (cxOf (L2.CX P w) P w K mg base N qual (defScope st) f cdv A outer s H E) (defBody st) (d B))
    (sem : ∀ B ds PQ PX, B ≤ BIG → ds.length = ps.length → sp ds PQ PX → d B (startE N.length m ds) ⟨fun _ => PQ .non, PQ, fun _ => False, fun _ => False, PX⟩) :
    FnG P w K mg base (k + 3) f fd ps (liftSp ⟨K, cA, fl⟩ ps.length m sp) := by
  obtain ⟨oc, od, kV, doc, pm, an, cdv, ct, osl, rfl, lk, hcd⟩ := F.ex
  refine ⟨fun vs H Q E h => h.1, fun A outer s H args us vs Q E hg hr e0 hb r hsp => ?_⟩
  refine LamX.run_ofS (k := k + 2) lk hcd S hr e0 hb r hsp.1 fun hr => ?_
  obtain ⟨hl, W, ds, PQ, PX, sb, so, r, ⟨C, hC1, hC2⟩, hsp, kQ, kX⟩ := hsp
  have hu : (A.deeper (envOfC qual (defScope st) s.heap.objs.size f cdv)).units + 100 < cLine := by
    have := hr.un
    omega
  obtain ⟨B, hB1, hB2⟩ := least_turn so
  have hds : ds.length = ps.length := by rw [← r.len]; exact hl
  refine ⟨_, body cdv A outer s H E W (B + m) hr (ctx_fn hr hu S.nd hg), W, startE N.length m ds, sim_start sb so r hB1 (by have := hB2 C hC1; omega) (by rw [hds]; exact hN), _, sem _ ds PQ PX (by have := hB2 C hC1; omega) hds hsp, ?_⟩
  exact ⟨fun ρ W' σ H' n l s => kQ .non W' .non H' n (out_keep s.fin hB2) .non, fun r W' v H' n l o rp => kQ r W' v H' n (out_keep o hB2) rp, fun _ _ _ _ n => n.elim, fun _ _ _ _ n => n.elim, fun c es W' H' d n l o e => kX c es W' H' d n (out_keep o hB2) e⟩
theorem fn_ok {cA : Nat → Addr} {fl : Nat → List Str} {x qual : Str} {st : Stmt} {f : Addr} {fd : FuncData} {N ps : List Str} {k : Nat} (m : Nat) {d : DS} {sp : DSp} (F : Fun K x qual st f fd) (S : FnScope N ps (defScope st)) (hN : ps.length + (if m = 0 then 0 else 1) ≤ N.length)
    (body : ∀ (cdv : Value) (A : Around) (outer : List PySem.Env) (s : Shared) (H : Hp) (E : XK) (W : Wd) (B : Nat), Room (k + 2) (A.deeper (envOfC qual (defScope st) s.heap.objs.size f cdv)) →
      Ctx (cxOf (L2.CX P w) P w K mg base N qual (defScope st) f cdv A outer s H E) ⟨⟨K, cA, fl⟩, W, mask H, fun _ _ => .own 0, E, B⟩ → JSs ⟨⟨K, cA, fl⟩, W, mask H, fun _ _ => .own 0, E, B⟩ (cxOf (L2.CX P w) P w K mg base N qual (defScope st) f cdv A outer s H E) (defBody st) d)
    (sem : ∀ ds PQ PX, ds.length = ps.length → sp ds PQ PX → d (startE N.length m ds) ⟨fun _ => PQ .non, PQ, fun _ => False, fun _ => False, PX⟩) :
    FnG P w K mg base (k + 3) f fd ps (liftSp ⟨K, cA, fl⟩ ps.length m sp) := fn_okB m (d := fun _ => d) F S hN body fun _ ds PQ PX _ h1 h2 => sem ds PQ PX h1 h2
end
end DL

/-! DL: the operators' meanings. -/
namespace DL
open PySem PySem.Spec PyProof.Rows L2
section
variable {X : Cx} {G : Gm}

/-! ### numbers -/
def oAdd : D → D → Option D
  | .int i, .int j => some (.int (i + j))
  | .str x, .str y => if x.length + y.length ≤ sizeLine then some (.str (x ++ y)) else none
  | .tup xs, .tup ys => if xs.length + ys.length ≤ sizeLine then some (.tup (xs ++ ys)) else none
  | _, _ => none
def rAddA (K : PySem.W.Frag) : R2 := fun x y H Q => (∃ i j, x = V.int i ∧ y = V.int j ∧ Q (.int (i + j)) H) ∨ (∃ i j, x = V.str i ∧ y = V.str j ∧ i.length + j.length ≤ sizeLine ∧ Q (.str (i ++ j)) H) ∨ rCatA K x y H Q
theorem or_add : OpR X (binaryOp .Add) (rAddA X.K) := op_add.or (op_add_str.or op_catA)
theorem strOk_app {x y : Str} (hx : PyData.strOk x = true) (hy : PyData.strOk y = true) : PyData.strOk (x ++ y) = true := by
  unfold PyData.strOk at *
  show (x.cps ++ y.cps).all _ = true
  rw [Array.all_append, hx, hy]
  rfl
theorem len_app (x y : Str) : (x ++ y).length = x.length + y.length := by
  show (x.cps ++ y.cps).size = x.cps.size + y.cps.size
  exact Array.size_append
theorem sOk_app {x y : Str} (hx : sOk x = true) (hy : sOk y = true) (h : x.length + y.length ≤ sizeLine) : sOk (x ++ y) = true := by
  unfold sOk
  rw [strOk_app (sOk_cps hx) (sOk_cps hy), len_app]
  simpa using h
theorem rep_tup_new {W : Wd} {p : Addr} {vs : List V} {ds : List D} (n : W.F p = none) (r : RepL G W vs ds) (l : ds.length ≤ sizeLine) : Rep G (W.add p (.tup vs)) (.ref p) (.tup ds) :=
  .tup (.inl (.inl (show upd W.F p (.tup vs) p = _ from upd_same))) (r.mono (Wd.le_add n)) l
theorem sub_none {W : Wd} {H : Hp} {p : Addr} (s : Sub W H) (n : H p = none) : W.F p = none := by
  cases e : W.F p with
  | none => rfl
  | some u => rw [s _ _ e] at n; cases n
theorem ok_add : OpOk G (rAddA G.K) oAdd := by
  intro W H x y a b c Q sb ra rb e k
  unfold oAdd at e
  split at e
  · rename_i i j
    cases e
    rw [ra.int_, rb.int_]
    exact .inl ⟨i, j, rfl, rfl, k W _ H .rfl' (.int _)⟩
  · rename_i i j
    split at e
    · rename_i hl
      cases e
      obtain ⟨ex, hx⟩ := ra.str_
      obtain ⟨ey, hy⟩ := rb.str_
      rw [ex, ey]
      exact .inr (.inl ⟨i, j, rfl, rfl, hl, k W _ H .rfl' (.str _ (sOk_app hx hy hl))⟩)
    · cases e
  · rename_i xs ys
    split at e
    · rename_i hl
      cases e
      obtain ⟨p, vs, rfl, hp, rp, zp⟩ := ra.tup_ sb
      obtain ⟨q, ws, rfl, hq, rq, zq⟩ := rb.tup_ sb
      have e1 : vs = [] ↔ xs = [] := by
        have := rp.len
        constructor
        · rintro rfl; exact List.length_eq_zero_iff.mp this.symm
        · rintro rfl; exact List.length_eq_zero_iff.mp this
      have e2 : ws = [] ↔ ys = [] := by
        have := rq.len
        constructor
        · rintro rfl; exact List.length_eq_zero_iff.mp this.symm
        · rintro rfl; exact List.length_eq_zero_iff.mp this
      have back : ∀ {v : V} {ds : List D}, RepH G W H v (.tup ds) → Rep G W v (.tup ds) := fun r => by cases r with | rep h => exact h
      refine .inr (.inr ⟨p, q, vs, ws, rfl, rfl, hp, hq, by rw [rp.len, rq.len]; exact hl, fun h => ?_, fun _ h => ?_, fun _ _ a na => ?_⟩)
      · refine k W _ H .rfl' ?_
        rw [e1.mp h, List.nil_append]
        exact back rb
      · refine k W _ H .rfl' ?_
        rw [e2.mp h, List.append_nil]
        exact back ra
      · exact k _ _ _ (.inr ⟨a, _, na, rfl, rfl⟩) (rep_tup_new (sub_none sb na) (rp.app rq) (by rw [List.length_append]; exact hl))
    · cases e
  · cases e
def oSub : D → D → Option D
  | .int i, .int j => some (.int (i - j))
  | _, _ => none
theorem ok_sub : OpOk G (rI0 fun i j => .int (i - j)) oSub := by
  intro W H x y a b c Q sb ra rb e k
  unfold oSub at e
  split at e
  · cases e
    rw [ra.int_, rb.int_]
    exact ⟨_, _, rfl, rfl, k W _ H .rfl' (.int _)⟩
  · cases e
def oMul : D → D → Option D
  | .int i, .int j => if i.natAbs.log2 + j.natAbs.log2 < 1000000 then some (.int (i * j)) else none
  | _, _ => none
theorem ok_mul : OpOk G (rI CMulW fun i j => .int (i * j)) oMul := by
  intro W H x y a b c Q sb ra rb e k
  unfold oMul at e
  split at e
  · split at e
    · rename_i h
      cases e
      rw [ra.int_, rb.int_]
      exact ⟨_, _, rfl, rfl, h, k W _ H .rfl' (.int _)⟩
    · cases e
  · cases e
def oDiv : D → D → Option D
  | .int i, .int j => if 0 < j ∧ j.natAbs.log2 < 9000 then some (.int (i / j)) else none
  | _, _ => none
theorem ok_div : OpOk G (rI CDivW fun i j => .int (i / j)) oDiv := by
  intro W H x y a b c Q sb ra rb e k
  unfold oDiv at e
  split at e
  · split at e
    · rename_i h
      cases e
      rw [ra.int_, rb.int_]
      exact ⟨_, _, rfl, rfl, h, k W _ H .rfl' (.int _)⟩
    · cases e
  · cases e
def oMod : D → D → Option D
  | .int i, .int j => if 0 < j then some (.int (i % j)) else none
  | _, _ => none
theorem ok_mod : OpOk G (rI (fun _ j => 0 < j) fun i j => .int (i % j)) oMod := by
  intro W H x y a b c Q sb ra rb e k
  unfold oMod at e
  split at e
  · split at e
    · rename_i h
      cases e
      rw [ra.int_, rb.int_]
      exact ⟨_, _, rfl, rfl, h, k W _ H .rfl' (.int _)⟩
    · cases e
  · cases e
def oPow : D → D → Option D
  | .int i, .int j => if 0 ≤ j ∧ j ≤ 1000000 ∧ i.natAbs < 2 ^ 64 then some (.int (i ^ j.toNat)) else none
  | _, _ => none
theorem ok_pow : OpOk G (rI CPow fun i j => .int (i ^ j.toNat)) oPow := by
  intro W H x y a b c Q sb ra rb e k
  unfold oPow at e
  split at e
  · split at e
    · rename_i h
      cases e
      rw [ra.int_, rb.int_]
      exact ⟨_, _, rfl, rfl, h, k W _ H .rfl' (.int _)⟩
    · cases e
  · cases e
def oNeg : D → Option D
  | .int i => some (.int (-i))
  | _ => none
theorem ok_neg : UnOk G (rU fun i => .int (-i)) oNeg := by
  intro W H x a c Q sb ra e k
  unfold oNeg at e
  split at e
  · cases e
    rw [ra.int_]
    exact ⟨_, rfl, k W _ H .rfl' (.int _)⟩
  · cases e
def oLt : D → D → Option D
  | .int i, .int j => some (.bl (decide (i < j)))
  | _, _ => none
def oLe : D → D → Option D
  | .int i, .int j => some (.bl (decide (i ≤ j)))
  | _, _ => none
def oGt : D → D → Option D
  | .int i, .int j => some (.bl (decide (j < i)))
  | _, _ => none
def oGe : D → D → Option D
  | .int i, .int j => some (.bl (decide (j ≤ i)))
  | _, _ => none
theorem ok_lt : OpOk G (rI0 fun i j => .bl (decide (i < j))) oLt := by
  intro W H x y a b c Q sb ra rb e k
  unfold oLt at e
  split at e
  · cases e
    rw [ra.int_, rb.int_]
    exact ⟨_, _, rfl, rfl, k W _ H .rfl' (.bl _)⟩
  · cases e
theorem ok_le : OpOk G (rI0 fun i j => .bl (decide (i ≤ j))) oLe := by
  intro W H x y a b c Q sb ra rb e k
  unfold oLe at e
  split at e
  · cases e
    rw [ra.int_, rb.int_]
    exact ⟨_, _, rfl, rfl, k W _ H .rfl' (.bl _)⟩
  · cases e
theorem ok_gt : OpOk G (rI0 fun i j => .bl (decide (j < i))) oGt := by
  intro W H x y a b c Q sb ra rb e k
  unfold oGt at e
  split at e
  · cases e
    rw [ra.int_, rb.int_]
    exact ⟨_, _, rfl, rfl, k W _ H .rfl' (.bl _)⟩
  · cases e
theorem ok_ge : OpOk G (rI0 fun i j => .bl (decide (j ≤ i))) oGe := by
  intro W H x y a b c Q sb ra rb e k
  unfold oGe at e
  split at e
  · cases e
    rw [ra.int_, rb.int_]
    exact ⟨_, _, rfl, rfl, k W _ H .rfl' (.bl _)⟩
  · cases e

/-! ### plain data -/
mutual
def D.py : D → PyData
  | .non => .none
  | .bl b => .bool b
  | .int i => .int i
  | .str x => .str x
  | .tup ds => .tuple (D.pys ds)
  | .lst ds => .list (D.pys ds)
  | .dct _ => .none
  | .exc _ _ => .none
  | .st => .none
  | .scr _ => .none
def D.pys : List D → List PyData
  | [] => []
  | d :: ds => D.py d :: D.pys ds
end
mutual
/-- nothing but None, truths, numbers, texts, tuples and lists -/
def D.pl : D → Bool
  | .non => true
  | .bl _ => true
  | .int _ => true
  | .str _ => true
  | .tup ds => D.pls ds
  | .lst ds => D.pls ds
  | .dct _ => false
  | .exc _ _ => false
  | .st => false
  | .scr _ => false
def D.pls : List D → Bool
  | [] => true
  | d :: ds => D.pl d && D.pls ds
end
mutual
def D.dep : D → Nat
  | .tup ds => D.deps ds + 1
  | .lst ds => D.deps ds + 1
  | _ => 0
def D.deps : List D → Nat
  | [] => 0
  | d :: ds => max (D.dep d) (D.deps ds)
end
mutual
theorem dep_py : ∀ d : D, (D.py d).depth = D.dep d
  | .non => by simp [D.py, D.dep, PyData.depth]
  | .bl _ => by simp [D.py, D.dep, PyData.depth]
  | .int _ => by simp [D.py, D.dep, PyData.depth]
  | .str _ => by simp [D.py, D.dep, PyData.depth]
  | .tup ds => by simp [D.py, D.dep, PyData.depth, deps_py ds]
  | .lst ds => by simp [D.py, D.dep, PyData.depth, deps_py ds]
  | .dct _ => by simp [D.py, D.dep, PyData.depth]
  | .exc _ _ => by simp [D.py, D.dep, PyData.depth]
  | .st => by simp [D.py, D.dep, PyData.depth]
  | .scr _ => by simp [D.py, D.dep, PyData.depth]
theorem deps_py : ∀ ds : List D, PyData.depthAll (D.pys ds) = D.deps ds
  | [] => by simp [D.pys, D.deps, PyData.depthAll]
  | d :: ds => by simp [D.pys, D.deps, PyData.depthAll, dep_py d, deps_py ds]
end
section
variable {W : Wd} {H : Hp}
mutual
theorem Rep.lay : ∀ {v : V} {d : D}, Rep G W v d → d.pl = true → d.py.canLay0 = true
  | _, _, .non, _ => by simp [D.py, PyData.canLay0]
  | _, _, .bl b, _ => by simp [D.py, PyData.canLay0]
  | _, _, .int i, _ => by simp [D.py, PyData.canLay0]
  | _, _, .str x h, _ => by simpa [D.py, PyData.canLay0] using sOk_cps h
  | _, _, .tup h r l, p => by
    simp only [D.pl] at p
    simpa only [D.py, PyData.canLay0] using RepL.lay r p
  | _, _, .lst h r l, p => by
    simp only [D.pl] at p
    simpa only [D.py, PyData.canLay0] using RepL.lay r p
  | _, _, .dct _ _ _, p => by simp only [D.pl] at p; cases p
  | _, _, .exc0 _ _, p => by simp only [D.pl] at p; cases p
  | _, _, .exc1 _ _ _ _, p => by simp only [D.pl] at p; cases p
  | _, _, .st _, p => by simp only [D.pl] at p; cases p
  | _, _, .scr _ _, p => by simp only [D.pl] at p; cases p
theorem RepL.lay : ∀ {v : List V} {d : List D}, RepL G W v d → D.pls d = true → PyData.canLayAll0 (D.pys d) = true
  | _, _, .nil, _ => by simp [D.pys, PyData.canLayAll0]
  | _, _, .cons h t, p => by
    simp only [D.pls, Bool.and_eq_true] at p
    simp [D.pys, PyData.canLayAll0, Rep.lay h p.1, RepL.lay t p.2]
end
mutual
theorem Rep.dp (s : Sub W H) : ∀ {v : V} {d : D}, Rep G W v d → d.pl = true → Dp G.K H v d.py
  | _, _, .non, _ => by simp only [D.py]; exact .non
  | _, _, .bl b, _ => by simp only [D.py]; exact .bl b
  | _, _, .int i, _ => by simp only [D.py]; exact .int i
  | _, _, .str x h, _ => by simp only [D.py]; exact .str x
  | _, _, .tup h r l, p => by
    simp only [D.pl] at p
    simp only [D.py]
    exact .tup (sqT_le s h) (RepL.dp s r p)
  | _, _, .lst h r l, p => by
    simp only [D.pl] at p
    simp only [D.py]
    exact .lst (.inl (.inl (s _ _ h))) (RepL.dp s r p)
  | _, _, .dct _ _ _, p => by simp only [D.pl] at p; cases p
  | _, _, .exc0 _ _, p => by simp only [D.pl] at p; cases p
  | _, _, .exc1 _ _ _ _, p => by simp only [D.pl] at p; cases p
  | _, _, .st _, p => by simp only [D.pl] at p; cases p
  | _, _, .scr _ _, p => by simp only [D.pl] at p; cases p
theorem RepL.dp (s : Sub W H) : ∀ {v : List V} {d : List D}, RepL G W v d → D.pls d = true → DpAll G.K H v (D.pys d)
  | _, _, .nil, _ => by simp only [D.pys]; exact .nil
  | _, _, .cons h t, p => by
    simp only [D.pls, Bool.and_eq_true] at p
    simp only [D.pys]
    exact .cons (Rep.dp s h p.1) (RepL.dp s t p.2)
end
theorem RepH.dp (s : Sub W H) {v : V} {d : D} (r : RepH G W H v d) (p : d.pl = true) : Dp G.K H v d.py ∧ d.py.canLay0 = true := by
  cases r with
  | rep h => exact ⟨h.dp s p, h.lay p⟩
  | lst h rr l =>
    simp only [D.pl] at p
    simp only [D.py]
    exact ⟨.lst (.inl (.inl h)) (rr.dp s p), by simpa only [PyData.canLay0] using rr.lay p⟩
  | dct h rr l => cases p
end
def D.ok (d : D) : Bool := d.pl && decide (d.dep ≤ 64)
theorem shaped_ok {d : D} (h : d.ok = true) (c : d.py.canLay0 = true) : SeqAt.shaped d.py = true := by
  unfold D.ok at h
  simp only [Bool.and_eq_true, decide_eq_true_eq] at h
  unfold SeqAt.shaped
  rw [c, dep_py]
  simpa using h.2
def oEq (a b : D) : Option D := if a.ok = true ∧ b.ok = true then some (.bl (PyData.eqv a.py b.py)) else none
def oNe (a b : D) : Option D := if a.ok = true ∧ b.ok = true then some (.bl (!PyData.eqv a.py b.py)) else none
theorem ok_pl {d : D} (h : d.ok = true) : d.pl = true := by
  unfold D.ok at h
  simp only [Bool.and_eq_true] at h
  exact h.1
theorem ok_eq : OpOk G (rEqD G.K) oEq := by
  intro W H x y a b c Q sb ra rb e k
  unfold oEq at e
  split at e
  · rename_i h
    cases e
    obtain ⟨d1, l1⟩ := ra.dp sb (ok_pl h.1)
    obtain ⟨d2, l2⟩ := rb.dp sb (ok_pl h.2)
    exact ⟨_, _, d1, d2, shaped_ok h.1 l1, shaped_ok h.2 l2, k W _ H .rfl' (.bl _)⟩
  · cases e
theorem ok_ne : OpOk G (rNeD G.K) oNe := by
  intro W H x y a b c Q sb ra rb e k
  unfold oNe at e
  split at e
  · rename_i h
    cases e
    obtain ⟨d1, l1⟩ := ra.dp sb (ok_pl h.1)
    obtain ⟨d2, l2⟩ := rb.dp sb (ok_pl h.2)
    exact ⟨_, _, d1, d2, shaped_ok h.1 l1, shaped_ok h.2 l2, k W _ H .rfl' (.bl _)⟩
  · cases e
/-! is None, is True, is False -/
def oIsN : D → D → Option D
  | a, .non => some (.bl (match a with | .non => true | _ => false))
  | .bl a, .bl b => some (.bl (decide (a = b)))
  | .non, .bl _ => some (.bl false)
  | .int _, .bl _ => some (.bl false)
  | _, _ => none

/-! ### in -/
def D.flat : D → Bool
  | .non => true
  | .bl _ => true
  | .int _ => true
  | .str _ => true
  | _ => false
def D.eqF : D → D → Bool
  | .non, .non => true
  | .bl a, .bl b => a == b
  | .bl a, .int b => (if a then 1 else 0) == b
  | .int a, .bl b => a == (if b then 1 else 0)
  | .int a, .int b => a == b
  | .str a, .str b => a == b
  | _, _ => false
theorem rep_flat {W : Wd} {v : V} {d : D} (r : Rep G W v d) (f : d.flat = true) : flatV v = true := by cases r <;> first | rfl | cases f
theorem rep_eqF {W : Wd} {v w : V} {d e : D} (r : Rep G W v d) (r2 : Rep G W w e) (f : d.flat = true) (f2 : e.flat = true) : eqV v w = D.eqF d e := by
  cases r <;> first | cases f; done | (cases r2 <;> first | cases f2; done | rfl)
theorem repL_flat {W : Wd} : ∀ {vs : List V} {ds : List D}, RepL G W vs ds → ds.all D.flat = true → vs.all flatV = true
  | _, _, .nil, _ => rfl
  | _, _, .cons h t, f => by
    rw [List.all_cons, Bool.and_eq_true] at f
    rw [List.all_cons, rep_flat h f.1, repL_flat t f.2]
    rfl
theorem repL_any {W : Wd} {x : V} {d : D} (r : Rep G W x d) (f : d.flat = true) : ∀ {vs : List V} {ds : List D}, RepL G W vs ds → ds.all D.flat = true → inV x vs = ds.any fun y => D.eqF y d
  | _, _, .nil, _ => rfl
  | v :: vs, e :: ds, .cons h t, g => by
    rw [List.all_cons, Bool.and_eq_true] at g
    show (eqV v x || inV x vs) = _
    rw [List.any_cons, rep_eqF h r g.1 f, repL_any r f t g.2]
def seqOf : D → Option (List D)
  | .lst ds => some ds
  | .tup ds => some ds
  | _ => none
theorem RepH.seq_ {W : Wd} {H : Hp} {v : V} {d : D} {ds : List D} (s : Sub W H) (r : RepH G W H v d) (e : seqOf d = some ds) : ∃ a vs, v = .ref a ∧ (SqL G.K H a vs ∨ SqT G.K H a vs) ∧ RepL G W vs ds ∧ ds.length ≤ sizeLine := by
  unfold seqOf at e
  split at e
  · cases e
    obtain ⟨a, vs, h1, h2, h3, h4⟩ := r.lst_ s
    exact ⟨a, vs, h1, .inl (.inl (.inl h2)), h3, h4⟩
  · cases e
    obtain ⟨a, vs, h1, h2, h3, h4⟩ := r.tup_ s
    exact ⟨a, vs, h1, .inr h2, h3, h4⟩
  · cases e
def inD (neg : Bool) (x y : D) : Option D := (seqOf y).bind fun ds => if x.flat = true ∧ ds.all D.flat = true then some (.bl (if neg then !(ds.any fun y => D.eqF y x) else ds.any fun y => D.eqF y x)) else none
theorem RepH.flat_ {W : Wd} {H : Hp} {v : V} {d : D} (r : RepH G W H v d) (f : d.flat = true) : Rep G W v d := by
  cases r with
  | rep h => exact h
  | lst _ _ _ => cases f
  | dct _ _ _ => cases f
theorem ok_in {neg : Bool} : OpOk G (rIn G.K neg) (inD neg) := by
  intro W H x y a b c Q sb ra rb e k
  unfold inD at e
  cases e1 : seqOf b with
  | none => rw [e1] at e; cases e
  | some ds =>
    rw [e1] at e
    dsimp only [Option.bind_some] at e
    split at e
    · rename_i h
      cases e
      obtain ⟨p, vs, rfl, hp, rp, zp⟩ := rb.seq_ sb e1
      have ra' := ra.flat_ h.1
      refine ⟨p, vs, rfl, hp, rep_flat ra' h.1, repL_flat rp h.2, ?_⟩
      rw [repL_any ra' h.1 rp h.2]
      exact k W _ H .rfl' (.bl _)
    · cases e

/-! ### lists made by operators -/
def oCat : D → D → Option (List D)
  | .lst xs, .lst ys => if xs.length + ys.length ≤ sizeLine then some (xs ++ ys) else none
  | _, _ => none
theorem ok_cat : OpF G rCat oCat := by
  intro W H x y a b c Q sb ra rb e k
  unfold oCat at e
  split at e
  · split at e
    · rename_i hl
      cases e
      obtain ⟨p, vs, rfl, hp, rp, zp⟩ := ra.lst_ sb
      obtain ⟨q, ws, rfl, hq, rq, zq⟩ := rb.lst_ sb
      exact ⟨p, q, vs, ws, rfl, rfl, hp, hq, by rw [rp.len, rq.len]; exact hl, fun a na => k a _ na (rp.app rq) (by rw [List.length_append]; exact hl)⟩
    · cases e
  · cases e
def oRep : D → D → Option (List D)
  | .lst xs, .int k => if inB k = true ∧ xs.length * k.toNat ≤ sizeLine then some (List.replicate k.toNat xs).flatten else none
  | _, _ => none
theorem repL_rep {W : Wd} {vs : List V} {ds : List D} (r : RepL G W vs ds) : ∀ n, RepL G W (List.replicate n vs).flatten (List.replicate n ds).flatten
  | 0 => .nil
  | n + 1 => by
    rw [List.replicate_succ, List.replicate_succ, List.flatten_cons, List.flatten_cons]
    exact r.app (repL_rep r n)
theorem ok_rep : OpF G rRep oRep := by
  intro W H x y a b c Q sb ra rb e k
  unfold oRep at e
  split at e
  · rename_i xs i
    split at e
    · rename_i hl
      cases e
      obtain ⟨p, vs, rfl, hp, rp, zp⟩ := ra.lst_ sb
      have hb := inB_iff.mp hl.1
      refine ⟨p, i, vs, rfl, rb.int_, hp, by omega, by omega, by rw [rp.len]; exact hl.2, fun a na => k a _ na (repL_rep rp _) ?_⟩
      rw [List.length_flatten, List.map_replicate, List.sum_replicate_nat, Nat.mul_comm]
      exact hl.2
    · cases e
  · cases e

/-! ### subscripts -/
def oIx : D → D → Option D
  | .lst ds, .int i => L2.atI ds i
  | .tup ds, .int i => L2.atI ds i
  | .str x, .int i => (L2.atI x.cps.toList i).map fun c => .str ⟨#[c]⟩
  | _, _ => none
theorem atI_rep {W : Wd} {vs : List V} {ds : List D} {i : Int} {d : D} (r : RepL G W vs ds) (e : L2.atI ds i = some d) : ∃ v, L2.atI vs i = some v ∧ Rep G W v d := by
  unfold L2.atI at e ⊢
  rw [r.len]
  cases h : ixN ds.length i with
  | none => rw [h] at e; cases e
  | some j =>
    rw [h] at e
    exact r.get e
theorem ok_ix : OpOk G (rIx G.K) oIx := by
  intro W H x y a b c Q sb ra rb e k
  unfold oIx at e
  split at e
  · obtain ⟨p, vs, rfl, hp, rp, zp⟩ := ra.lst_ sb
    obtain ⟨v, h1, h2⟩ := atI_rep rp e
    exact .inl ⟨p, vs, _, v, rfl, rb.int_, .inl (.inl hp), h1, k W _ H .rfl' h2⟩
  · obtain ⟨p, vs, rfl, hp, rp, zp⟩ := ra.tup_ sb
    obtain ⟨v, h1, h2⟩ := atI_rep rp e
    exact .inr (.inl ⟨p, vs, _, v, rfl, rb.int_, hp, h1, k W _ H .rfl' h2⟩)
  · rename_i z i
    obtain ⟨rfl, hz⟩ := ra.str_
    cases h : L2.atI z.cps.toList i with
    | none => rw [h] at e; cases e
    | some cp =>
      rw [h] at e
      cases e
      refine .inr (.inr ⟨z, i, cp, rfl, rb.int_, sOk_len hz, h, k W _ H .rfl' (.str _ ?_)⟩)
      unfold L2.atI at h
      cases h2 : ixN z.cps.toList.length i with
      | none => rw [h2] at h; cases h
      | some j =>
        rw [h2] at h
        have h : z.cps.toList[j]? = some cp := h
        rw [Array.getElem?_toList] at h
        exact sOk_cp hz h
  · cases e

/-! ### slices -/
def cutD {α : Type} (xs : List α) (lo hi : Option Int) : List α := (xs.drop (HT.sIx xs.length 0 lo)).take (HT.sIx xs.length xs.length hi - HT.sIx xs.length 0 lo)
theorem cutD_len {α : Type} (xs : List α) (lo hi : Option Int) : (cutD xs lo hi).length ≤ xs.length := by
  unfold cutD
  rw [List.length_take, List.length_drop]
  omega
theorem cut_rep {W : Wd} {vs : List V} {ds : List D} (r : RepL G W vs ds) (lo hi : Option Int) : RepL G W (cutV vs lo hi) (cutD ds lo hi) := by
  unfold cutV cutD
  rw [r.len]
  exact (r.drop _).take _
def oSlL : D → Option Int → Option Int → Option (List D)
  | .lst ds, lo, hi => some (cutD ds lo hi)
  | _, _, _ => none
theorem ok_slL : SlF G (rSlL G.K) oSlL := by
  intro W H x a c lo hi Q sb ra e k
  unfold oSlL at e
  split at e
  · cases e
    obtain ⟨p, vs, rfl, hp, rp, zp⟩ := ra.lst_ sb
    exact ⟨p, vs, rfl, .inl (.inl hp), fun a na => k a _ na (cut_rep rp lo hi) (Nat.le_trans (cutD_len _ _ _) zp)⟩
  · cases e
def rSlTS (K : PySem.W.Frag) : V → Option Int → Option Int → Hp → VK → Prop := fun x lo hi H Q => rSlA K x lo hi H Q ∨ rSlS x lo hi H Q
theorem sr_ts : SlR X (rSlTS X.K) := sl_tupA.or sl_str
theorem cutS_ok {x : Str} (h : sOk x = true) (lo hi : Option Int) : sOk (cutS x lo hi) = true := by
  have h1 := sOk_len h
  have h2 := sOk_cps h
  unfold sOk
  simp only [Bool.and_eq_true, decide_eq_true_eq]
  constructor
  · have : (cutS x lo hi).length = (cutD x.cps.toList lo hi).length := by
      unfold cutS cutD
      show Array.size _ = _
      rw [List.size_toArray]
      have e : x.cps.toList.length = x.length := by simp [Str.length]
      rw [e]
    rw [this]
    have e : x.cps.toList.length = x.length := by simp [Str.length]
    have := cutD_len x.cps.toList lo hi
    omega
  · unfold PyData.strOk at h2 ⊢
    rw [← Array.all_toList] at h2 ⊢
    rw [List.all_eq_true] at h2 ⊢
    intro c hc
    refine h2 c ?_
    unfold cutS at hc
    simp only [List.toList_toArray] at hc
    exact List.mem_of_mem_drop (List.mem_of_mem_take hc)
def oSlT : D → Option Int → Option Int → Option D
  | .tup ds, lo, hi => some (.tup (cutD ds lo hi))
  | .str x, lo, hi => some (.str (cutS x lo hi))
  | _, _, _ => none
theorem cutD_all {α : Type} {xs : List α} {lo hi : Option Int} (h : HT.sIx xs.length 0 lo = 0 ∧ HT.sIx xs.length xs.length hi = xs.length) : cutD xs lo hi = xs := by
  unfold cutD
  rw [h.1, h.2, Nat.sub_zero, List.drop_zero, List.take_length]
theorem ok_slT : SlOk G (rSlTS G.K) oSlT := by
  intro W H x a c lo hi Q sb ra e k
  unfold oSlT at e
  split at e
  · rename_i ds
    cases e
    obtain ⟨p, vs, rfl, hp, rp, zp⟩ := ra.tup_ sb
    have back : ∀ {v : V} {ds : List D}, RepH G W H v (.tup ds) → Rep G W v (.tup ds) := fun r => by cases r with | rep h => exact h
    refine .inl ⟨p, vs, rfl, hp, fun h => ?_, fun h a na => ?_⟩
    · rw [rp.len] at h
      refine k W _ H .rfl' ?_
      rw [cutD_all h]
      exact back ra
    · exact k _ _ _ (.inr ⟨a, _, na, rfl, rfl⟩) (rep_tup_new (sub_none sb na) (cut_rep rp lo hi) (Nat.le_trans (cutD_len _ _ _) zp))
  · cases e
    obtain ⟨rfl, hz⟩ := ra.str_
    exact .inr ⟨_, rfl, sOk_len hz, k W _ H .rfl' (.str _ (cutS_ok hz lo hi))⟩
  · cases e

/-! ### built-in functions -/
def bLen : List D → Option D
  | [.lst ds] => some (.int ds.length)
  | [.tup ds] => some (.int ds.length)
  | [.str x] => some (.int x.length)
  | [.scr ns] => some (.int ns.length)
  | _ => none
def rLenA (K : PySem.W.Frag) : List V → Hp → VK → Prop := fun xs H Q => (∃ p ys, xs = [V.ref p] ∧ (SqL K H p ys ∨ SqT K H p ys) ∧ Q (.int ys.length) H) ∨ ∃ z, xs = [V.str z] ∧ z.length ≤ sizeLine ∧ Q (.int z.length) H
theorem CallR.or {f : Value} {r r' : List V → Hp → VK → Prop} (h : CallR X f r) (h' : CallR X f r') : CallR X f (fun xs H Q => r xs H Q ∨ r' xs H Q) := by
  intro pins s σ H xs us Q I rr q
  rcases q with q | q
  · exact h pins s σ H xs us Q I rr q
  · exact h' pins s σ H xs us Q I rr q
theorem cr_len : CallR X (.builtin "len") (rLenA X.K) := CallR.or call_len_seq call_len_str
theorem one_h {W : Wd} {H : Hp} {vs : List V} {d : D} (r : RepHs G W H vs [d]) : ∃ v, vs = [v] ∧ RepH G W H v d := by
  cases r with
  | cons h t => cases t; exact ⟨_, rfl, h⟩
theorem two_h {W : Wd} {H : Hp} {vs : List V} {d e : D} (r : RepHs G W H vs [d, e]) : ∃ v w, vs = [v, w] ∧ RepH G W H v d ∧ RepH G W H w e := by
  cases r with
  | cons h t => cases t with
    | cons h2 t2 => cases t2; exact ⟨_, _, rfl, h, h2⟩
theorem ok_len : CallOk G (rLenA G.K) bLen := by
  intro W H vs ds c Q sb r e k
  unfold bLen at e
  split at e
  · cases e
    obtain ⟨v, rfl, h⟩ := one_h r
    obtain ⟨a, ws, rfl, h1, h2, h3⟩ := h.lst_ sb
    exact .inl ⟨a, ws, rfl, .inl (.inl (.inl h1)), by rw [h2.len]; exact k W _ H .rfl' (.int _)⟩
  · cases e
    obtain ⟨v, rfl, h⟩ := one_h r
    obtain ⟨a, ws, rfl, h1, h2, h3⟩ := h.tup_ sb
    exact .inl ⟨a, ws, rfl, .inr h1, by rw [h2.len]; exact k W _ H .rfl' (.int _)⟩
  · cases e
    obtain ⟨v, rfl, h⟩ := one_h r
    obtain ⟨rfl, h1⟩ := h.str_
    exact .inr ⟨_, rfl, sOk_len h1, k W _ H .rfl' (.int _)⟩
  · cases e
    obtain ⟨v, rfl, h⟩ := one_h r
    obtain ⟨a, rfl, h1, h2⟩ := h.scr_ sb
    refine .inl ⟨a, _, rfl, .inl h1, ?_⟩
    rw [List.length_map]
    exact k W _ H .rfl' (.int _)
  · cases e
def asBls : List D → Option (List Bool)
  | [] => some []
  | .bl b :: ds => (asBls ds).map fun bs => b :: bs
  | _ :: _ => none
def asInts : List D → Option (List Int)
  | [] => some []
  | .int b :: ds => (asInts ds).map fun bs => b :: bs
  | _ :: _ => none
theorem asBls_eq : ∀ {ds : List D} {bs : List Bool}, asBls ds = some bs → ds = bs.map .bl
  | [], bs, h => by cases h; rfl
  | .bl b :: ds, bs, h => by
    have h : (asBls ds).map (fun bs => b :: bs) = some bs := h
    cases e : asBls ds with
    | none => rw [e] at h; cases h
    | some cs =>
      rw [e] at h
      cases h
      rw [List.map_cons, asBls_eq e]
  | .non :: ds, bs, h => by cases h
  | .int _ :: ds, bs, h => by cases h
  | .str _ :: ds, bs, h => by cases h
  | .tup _ :: ds, bs, h => by cases h
  | .lst _ :: ds, bs, h => by cases h
  | .dct _ :: ds, bs, h => by cases h
  | .exc _ _ :: ds, bs, h => by cases h
  | .st :: ds, bs, h => by cases h
  | .scr _ :: ds, bs, h => by cases h
theorem asInts_eq : ∀ {ds : List D} {bs : List Int}, asInts ds = some bs → ds = bs.map .int
  | [], bs, h => by cases h; rfl
  | .int b :: ds, bs, h => by
    have h : (asInts ds).map (fun bs => b :: bs) = some bs := h
    cases e : asInts ds with
    | none => rw [e] at h; cases h
    | some cs =>
      rw [e] at h
      cases h
      rw [List.map_cons, asInts_eq e]
  | .non :: ds, bs, h => by cases h
  | .bl _ :: ds, bs, h => by cases h
  | .str _ :: ds, bs, h => by cases h
  | .tup _ :: ds, bs, h => by cases h
  | .lst _ :: ds, bs, h => by cases h
  | .dct _ :: ds, bs, h => by cases h
  | .exc _ _ :: ds, bs, h => by cases h
  | .st :: ds, bs, h => by cases h
  | .scr _ :: ds, bs, h => by cases h
theorem asInts_map : ∀ (ns : List Int), asInts (ns.map .int) = some ns
  | [] => rfl
  | n :: ns => by
    show (asInts (ns.map .int)).map _ = _
    rw [asInts_map ns]
    rfl
theorem asBls_map : ∀ (ns : List Bool), asBls (ns.map .bl) = some ns
  | [] => rfl
  | n :: ns => by
    show (asBls (ns.map .bl)).map _ = _
    rw [asBls_map ns]
    rfl
theorem repL_bls {W : Wd} : ∀ {v : List V} {ns : List Bool}, RepL G W v (ns.map D.bl) → v = ns.map V.bl := by
  intro v ns
  induction ns generalizing v with
  | nil => intro r; cases r; rfl
  | cons n ns ih =>
    intro r
    cases r with
    | cons h t => cases h; rw [ih t]; rfl
/-- all, any of a list of truths; sum, max, min, sorted of a list of numbers -/
def bAll : List D → Option D
  | [.lst ds] => (asBls ds).map fun bs => .bl (bs.all id)
  | _ => none
def bAny : List D → Option D
  | [.lst ds] => (asBls ds).map fun bs => .bl (bs.any id)
  | _ => none
def bSum : List D → Option D
  | [.lst ds] => (asInts ds).map fun bs => .int bs.sum
  | _ => none
theorem ok_all : CallOk G (rAll G.K) bAll := by
  intro W H vs ds c Q sb r e k
  unfold bAll at e
  split at e
  · rename_i ds
    cases e1 : asBls ds with
    | none => rw [e1] at e; cases e
    | some bs =>
      rw [e1] at e
      cases e
      obtain ⟨v, rfl, h⟩ := one_h r
      obtain ⟨a, ws, rfl, h1, h2, h3⟩ := h.lst_ sb
      rw [asBls_eq e1] at h2
      have e2 := repL_bls h2
      subst e2
      exact ⟨a, bs, rfl, .inl (.inl h1), k W _ H .rfl' (.bl _)⟩
  · cases e
theorem ok_any : CallOk G (rAny G.K) bAny := by
  intro W H vs ds c Q sb r e k
  unfold bAny at e
  split at e
  · rename_i ds
    cases e1 : asBls ds with
    | none => rw [e1] at e; cases e
    | some bs =>
      rw [e1] at e
      cases e
      obtain ⟨v, rfl, h⟩ := one_h r
      obtain ⟨a, ws, rfl, h1, h2, h3⟩ := h.lst_ sb
      rw [asBls_eq e1] at h2
      have e2 := repL_bls h2
      subst e2
      exact ⟨a, bs, rfl, .inl (.inl h1), k W _ H .rfl' (.bl _)⟩
  · cases e
theorem ok_sum : CallOk G (rSum G.K) bSum := by
  intro W H vs ds c Q sb r e k
  unfold bSum at e
  split at e
  · rename_i ds
    cases e1 : asInts ds with
    | none => rw [e1] at e; cases e
    | some bs =>
      rw [e1] at e
      cases e
      obtain ⟨v, rfl, h⟩ := one_h r
      obtain ⟨a, ws, rfl, h1, h2, h3⟩ := h.lst_ sb
      rw [asInts_eq e1] at h2
      have e2 := RepL.ints h2
      subst e2
      exact ⟨a, bs, rfl, .inl (.inl h1), k W _ H .rfl' (.int _)⟩
  · cases e
/-- the least, the greatest -/
def least : List Int → Option Int
  | [] => none
  | n :: ns => some (ns.foldl min n)
def most : List Int → Option Int
  | [] => none
  | n :: ns => some (ns.foldl max n)
theorem foldl_min (ns : List Int) : ∀ n, (ns.foldl min n ∈ n :: ns) ∧ (∀ y ∈ n :: ns, ns.foldl min n ≤ y) := by
  induction ns with
  | nil => intro n; exact ⟨by simp, by simp⟩
  | cons m ns ih =>
    intro n
    obtain ⟨h1, h2⟩ := ih (min n m)
    rw [List.foldl_cons]
    refine ⟨?_, fun y hy => ?_⟩
    · rcases List.mem_cons.mp h1 with z | z
      · rw [z]
        rcases Int.le_total n m with q | q
        · rw [Int.min_eq_left q]; exact List.mem_cons_self
        · rw [Int.min_eq_right q]; exact List.mem_cons_of_mem _ List.mem_cons_self
      · exact List.mem_cons_of_mem _ (List.mem_cons_of_mem _ z)
    · have h3 := h2 (min n m) List.mem_cons_self
      rcases List.mem_cons.mp hy with rfl | hy
      · omega
      · rcases List.mem_cons.mp hy with rfl | hy
        · omega
        · exact h2 y (List.mem_cons_of_mem _ hy)
theorem foldl_max (ns : List Int) : ∀ n, (ns.foldl max n ∈ n :: ns) ∧ (∀ y ∈ n :: ns, y ≤ ns.foldl max n) := by
  induction ns with
  | nil => intro n; exact ⟨by simp, by simp⟩
  | cons m ns ih =>
    intro n
    obtain ⟨h1, h2⟩ := ih (max n m)
    rw [List.foldl_cons]
    refine ⟨?_, fun y hy => ?_⟩
    · rcases List.mem_cons.mp h1 with z | z
      · rw [z]
        rcases Int.le_total n m with q | q
        · rw [Int.max_eq_right q]; exact List.mem_cons_of_mem _ List.mem_cons_self
        · rw [Int.max_eq_left q]; exact List.mem_cons_self
      · exact List.mem_cons_of_mem _ (List.mem_cons_of_mem _ z)
    · have h3 := h2 (max n m) List.mem_cons_self
      rcases List.mem_cons.mp hy with rfl | hy
      · omega
      · rcases List.mem_cons.mp hy with rfl | hy
        · omega
        · exact h2 y (List.mem_cons_of_mem _ hy)
def bMin : List D → Option D
  | [.lst ds] => (asInts ds).bind fun ns => (least ns).map .int
  | [.int i, .int j] => some (.int (min i j))
  | _ => none
def bMax : List D → Option D
  | [.lst ds] => (asInts ds).bind fun ns => (most ns).map .int
  | [.int i, .int j] => some (.int (max i j))
  | _ => none
def rMinA (K : PySem.W.Frag) : List V → Hp → VK → Prop := fun xs H Q => rMin K xs H Q ∨ ∃ i j, xs = [V.int i, V.int j] ∧ Q (.int (if j < i then j else i)) H
def rMaxA (K : PySem.W.Frag) : List V → Hp → VK → Prop := fun xs H Q => rMax K xs H Q ∨ ∃ i j, xs = [V.int i, V.int j] ∧ Q (.int (if j > i then j else i)) H
theorem cr_minA (hc : X.calm = true) : CallR X (.builtin "min") (rMinA X.K) := CallR.or (cr_min hc) (call_min2 hc)
theorem cr_maxA (hc : X.calm = true) : CallR X (.builtin "max") (rMaxA X.K) := CallR.or (cr_max hc) (call_max2 hc)
theorem ok_min : CallOk G (rMinA G.K) bMin := by
  intro W H vs ds c Q sb r e k
  unfold bMin at e
  split at e
  · rename_i ds
    cases e1 : asInts ds with
    | none => rw [e1] at e; cases e
    | some bs =>
      rw [e1] at e
      obtain ⟨v, rfl, h⟩ := one_h r
      obtain ⟨a, ws, rfl, h1, h2, h3⟩ := h.lst_ sb
      rw [asInts_eq e1] at h2
      have e2 := RepL.ints h2
      subst e2
      cases bs with
      | nil => cases e
      | cons n ns =>
        cases e
        obtain ⟨g1, g2⟩ := foldl_min ns n
        refine .inl ⟨a, n :: ns, rfl, .inl (.inl h1), by simp, fun m m1 m2 => ?_⟩
        have e3 : m = ns.foldl min n := Int.le_antisymm (m2 _ g1) (g2 _ m1)
        rw [e3]
        exact k W _ H .rfl' (.int _)
  · rename_i i j
    cases e
    obtain ⟨v, w, rfl, h1, h2⟩ := two_h r
    rw [h1.int_, h2.int_]
    refine .inr ⟨i, j, rfl, ?_⟩
    have e3 : (if j < i then j else i) = min i j := by split <;> omega
    rw [e3]
    exact k W _ H .rfl' (.int _)
  · cases e
theorem ok_max : CallOk G (rMaxA G.K) bMax := by
  intro W H vs ds c Q sb r e k
  unfold bMax at e
  split at e
  · rename_i ds
    cases e1 : asInts ds with
    | none => rw [e1] at e; cases e
    | some bs =>
      rw [e1] at e
      obtain ⟨v, rfl, h⟩ := one_h r
      obtain ⟨a, ws, rfl, h1, h2, h3⟩ := h.lst_ sb
      rw [asInts_eq e1] at h2
      have e2 := RepL.ints h2
      subst e2
      cases bs with
      | nil => cases e
      | cons n ns =>
        cases e
        obtain ⟨g1, g2⟩ := foldl_max ns n
        refine .inl ⟨a, n :: ns, rfl, .inl (.inl h1), by simp, fun m m1 m2 => ?_⟩
        have e3 : m = ns.foldl max n := Int.le_antisymm (g2 _ m1) (m2 _ g1)
        rw [e3]
        exact k W _ H .rfl' (.int _)
  · rename_i i j
    cases e
    obtain ⟨v, w, rfl, h1, h2⟩ := two_h r
    rw [h1.int_, h2.int_]
    refine .inr ⟨i, j, rfl, ?_⟩
    have e3 : (if j > i then j else i) = max i j := by split <;> omega
    rw [e3]
    exact k W _ H .rfl' (.int _)
  · cases e
def bAbs : List D → Option D
  | [.int i] => some (.int (if i < 0 then -i else i))
  | _ => none
theorem ok_abs : CallOk G (fun xs H Q => ∃ i, xs = [V.int i] ∧ Q (.int (if i < 0 then -i else i)) H) bAbs := by
  intro W H vs ds c Q sb r e k
  unfold bAbs at e
  split at e
  · cases e
    obtain ⟨v, rfl, h⟩ := one_h r
    rw [h.int_]
    exact ⟨_, rfl, k W _ H .rfl' (.int _)⟩
  · cases e
def bInt : List D → Option D
  | [.int i] => some (.int i)
  | [.bl b] => some (.int (if b then 1 else 0))
  | _ => none
theorem ok_int : CallOk G (fun xs H Q => (∃ i, xs = [V.int i] ∧ Q (.int i) H) ∨ ∃ k, xs = [V.bl k] ∧ Q (.int (if k then 1 else 0)) H) bInt := by
  intro W H vs ds c Q sb r e k
  unfold bInt at e
  split at e
  · cases e
    obtain ⟨v, rfl, h⟩ := one_h r
    rw [h.int_]
    exact .inl ⟨_, rfl, k W _ H .rfl' (.int _)⟩
  · cases e
    obtain ⟨v, rfl, h⟩ := one_h r
    rw [h.bl_]
    exact .inr ⟨_, rfl, k W _ H .rfl' (.int _)⟩
  · cases e
/-! list(x), tuple(x), sorted(x) -/
def bList : List D → Option (List D)
  | [.lst ds] => some ds
  | [.tup ds] => some ds
  | _ => none
theorem ok_list : CallF G (fun xs H Q => ∃ p ys, xs = [V.ref p] ∧ (SqL G.K H p ys ∨ SqT G.K H p ys) ∧ ∀ l, H l = none → Q (.ref l) (upd H l (.lst ys))) bList := by
  intro W H vs ds c Q sb r e k
  unfold bList at e
  split at e
  · cases e
    obtain ⟨v, rfl, h⟩ := one_h r
    obtain ⟨a, ws, rfl, h1, h2, h3⟩ := h.lst_ sb
    exact ⟨a, ws, rfl, .inl (.inl (.inl h1)), fun l nl => k l ws nl h2 h3⟩
  · cases e
    obtain ⟨v, rfl, h⟩ := one_h r
    obtain ⟨a, ws, rfl, h1, h2, h3⟩ := h.tup_ sb
    exact ⟨a, ws, rfl, .inr h1, fun l nl => k l ws nl h2 h3⟩
  · cases e
def bTuple : List D → Option D
  | [.lst ds] => some (.tup ds)
  | [.tup ds] => some (.tup ds)
  | _ => none
theorem ok_tuple : CallOk G (fun xs H Q => ∃ p ys, xs = [V.ref p] ∧ ((SqL G.K H p ys ∧ ∀ l, H l = none → Q (.ref l) (upd H l (.tup ys))) ∨ (SqT G.K H p ys ∧ Q (.ref p) H))) bTuple := by
  intro W H vs ds c Q sb r e k
  unfold bTuple at e
  split at e
  · cases e
    obtain ⟨v, rfl, h⟩ := one_h r
    obtain ⟨a, ws, rfl, h1, h2, h3⟩ := h.lst_ sb
    exact ⟨a, ws, rfl, .inl ⟨.inl (.inl h1), fun l nl => k _ _ _ (.inr ⟨l, _, nl, rfl, rfl⟩) (rep_tup_new (sub_none sb nl) h2 h3)⟩⟩
  · cases e
    obtain ⟨v, rfl, h⟩ := one_h r
    have back : ∀ {v : V} {ds : List D}, RepH G W H v (.tup ds) → Rep G W v (.tup ds) := fun r => by cases r with | rep h => exact h
    have hb := back h
    obtain ⟨a, ws, rfl, h1, h2, h3⟩ := h.tup_ sb
    exact ⟨a, ws, rfl, .inr ⟨h1, k W _ H .rfl' hb⟩⟩
  · cases e
/-- ascending -/
def isort : List Int → List Int
  | [] => []
  | n :: ns => ins n (isort ns)
where ins (n : Int) : List Int → List Int
  | [] => [n]
  | m :: ms => if n ≤ m then n :: m :: ms else m :: ins n ms
theorem ins_perm (n : Int) : ∀ ms, (isort.ins n ms).Perm (n :: ms)
  | [] => .refl _
  | m :: ms => by
    unfold isort.ins
    split
    · exact .refl _
    · exact ((ins_perm n ms).cons m).trans (.swap n m ms)
theorem isort_perm : ∀ ns, (isort ns).Perm ns
  | [] => .refl _
  | n :: ns => (ins_perm n (isort ns)).trans ((isort_perm ns).cons n)
theorem ins_sorted (n : Int) : ∀ ms, ms.Pairwise (· ≤ ·) → (isort.ins n ms).Pairwise (· ≤ ·)
  | [], _ => by simp [isort.ins]
  | m :: ms, h => by
    rw [List.pairwise_cons] at h
    unfold isort.ins
    split
    · rename_i q
      refine List.pairwise_cons.mpr ⟨fun y hy => ?_, List.pairwise_cons.mpr h⟩
      rcases List.mem_cons.mp hy with rfl | hy
      · exact q
      · exact Int.le_trans q (h.1 y hy)
    · rename_i q
      refine List.pairwise_cons.mpr ⟨fun y hy => ?_, ins_sorted n ms h.2⟩
      rcases List.mem_cons.mp ((ins_perm n ms).mem_iff.mp hy) with rfl | hy
      · omega
      · exact h.1 y hy
theorem isort_sorted : ∀ ns, (isort ns).Pairwise (· ≤ ·)
  | [] => .nil
  | n :: ns => ins_sorted n _ (isort_sorted ns)
theorem sorted_unique : ∀ {a b : List Int}, a.Perm b → a.Pairwise (· ≤ ·) → b.Pairwise (· ≤ ·) → a = b
  | [], b, p, _, _ => by rw [List.Perm.nil_eq p]
  | x :: a, [], p, _, _ => by have := p.length_eq; cases this
  | x :: a, y :: b, p, ha, hb => by
    rw [List.pairwise_cons] at ha hb
    have e : x = y := by
      have h1 : y ∈ x :: a := p.mem_iff.mpr List.mem_cons_self
      have h2 : x ∈ y :: b := p.mem_iff.mp List.mem_cons_self
      have l1 : x ≤ y := by
        rcases List.mem_cons.mp h1 with z | z
        · omega
        · exact ha.1 y z
      have l2 : y ≤ x := by
        rcases List.mem_cons.mp h2 with z | z
        · omega
        · exact hb.1 x z
      omega
    subst e
    rw [sorted_unique p.cons_inv ha.2 hb.2]
def bSorted : List D → Option (List D)
  | [.lst ds] => (asInts ds).map fun ns => (isort ns).map .int
  | _ => none
theorem ok_sorted : CallF G (rSortedI G.K) bSorted := by
  intro W H vs ds c Q sb r e k
  unfold bSorted at e
  split at e
  · rename_i ds
    cases e1 : asInts ds with
    | none => rw [e1] at e; cases e
    | some bs =>
      rw [e1] at e
      cases e
      obtain ⟨v, rfl, h⟩ := one_h r
      obtain ⟨a, ws, rfl, h1, h2, h3⟩ := h.lst_ sb
      rw [asInts_eq e1] at h2 h3
      have e2 := RepL.ints h2
      subst e2
      refine ⟨a, bs, rfl, .inl (.inl h1), fun ns' p pm so np => ?_⟩
      have e3 : ns' = isort bs := sorted_unique (pm.trans (isort_perm bs).symm) so (isort_sorted bs)
      subst e3
      refine k p _ np (RepL.of_ints _) ?_
      rw [List.length_map, (isort_perm bs).length_eq]
      rw [List.length_map] at h3
      exact h3
  · cases e
end
end DL

/-! DL: isinstance, enumerate, zip, list(range), methods of lists, stores by place. -/
namespace DL
open PySem PySem.Spec PyProof.Rows L2

/-! ### isinstance -/
def tyN : D → Option String
  | .non => some "NoneType"
  | .bl _ => some "bool"
  | .int _ => some "int"
  | .str _ => some "str"
  | .tup _ => some "tuple"
  | .lst _ => some "list"
  | .dct _ => some "dict"
  | .scr _ => none
  | .exc _ _ => none
  | .st => some "dict"
/-- the class of a value -/
def tyV (G : Gm) : D → Value
  | .exc c _ => .ref (G.cA c)
  | d => .type ((tyN d).getD "")
def subT (a b : String) : Bool := a == b || (a == "bool" && b == "int")
def tyL : List String := ["NoneType", "bool", "int", "str", "tuple", "list", "dict"]
theorem kit_all : ∀ a ∈ tyL, ∀ b ∈ tyL, kitB a b = some (subT a b) := by decide +kernel
theorem tyN_mem {d : D} {t : String} (h : tyN d = some t) : t ∈ tyL := by
  cases d <;> first | cases h; done | (cases h; decide)
section
variable {X : Cx} {J : Jc} {pos : Pos}
theorem tyx_of {G : Gm} {W : Wd} {H : Hp} {v : V} {d : D} {t : String} (s : Sub W H) (so : StOk W H) (r : RepH G W H v d) (h : tyN d = some t) : TyX G.K H v (.type t) := by
  cases r with
  | lst h1 _ _ => cases h; exact .base (.lst h1)
  | dct h1 _ _ => cases h; exact .base (.dK h1)
  | rep r =>
    cases r with
    | non => cases h; exact .base .non
    | bl b => cases h; exact .base (.bl b)
    | int i => cases h; exact .base (.int i)
    | str x _ => cases h; exact .base (.str x)
    | tup h1 _ _ =>
      cases h
      rcases h1 with (h1 | ⟨o, h1⟩) | ⟨o, _, _, h1, h2, _⟩
      · exact .base (.tup (s _ _ h1))
      · exact .fTuple (s _ _ h1)
      · exact .kTuple h1 h2
    | lst h1 _ _ => cases h; exact .base (.lst (s _ _ h1))
    | dct h1 _ _ => cases h; exact .base (.dK (s _ _ h1))
    | exc0 _ _ => cases h
    | exc1 _ _ _ _ => cases h
    | st h1 =>
      cases h
      obtain ⟨gs, r, t, h2, _⟩ := (so.cl _ _ _ h1).ok
      exact .base (.dK h2)
    | scr h1 _ => cases h
def oIsT (T : String) (d : D) : Option D := (tyN d).map fun t => .bl (subT t T)
def oIsTs (Ts : List String) (d : D) : Option D := (tyN d).map fun t => .bl (Ts.any (subT t))
variable {e c : Expr} {d : DB} {p : Pos}
/-- isinstance(e, T), T a built-in class -/
theorem je_isT {T : String} (C : Ctx X J) (hg : Gl X "isinstance") (hm : X.mg "isinstance" = none) (h : JB J X e d) (hc : PE X c (tC (.ty T))) (hT : T ∈ tyL := by decide)
    (he : starEach [e, c] X.env = (false, eval e X.env) :: starEach [c] X.env := by rfl) (he2 : starEach [c] X.env = (false, eval c X.env) :: starEach [] X.env := by rfl) (hpl : (backTo pos (starEach [c] X.env)).any (·.1) = false := by rfl) :
    JE J X (.Call (.Name "isinstance" p) [e, c] [] pos) (dUn (oIsT T) d) :=
  PE.imp (pe_callB call_isi hg hm boot_isinstance (pa_cons h (pa_cons hc pa_nil he2) he) (by decide) (by decide) he hpl) fun σ H Q ⟨W, ρ, S, P, X', q, x, k⟩ => by
    refine ⟨W, ρ, S, _, X', q, x, fun b ρ1 q1 W1 v H1 l1 S1 r1 => ?_⟩
    obtain ⟨y, z, e1, e2, n⟩ := q1
    unfold oIsT at e2
    cases e3 : tyN y with
    | none => rw [e3] at e2; cases e2
    | some t =>
      rw [e3] at e2
      cases e2
      refine ⟨v, .ty T, .type t, .type T, _, rfl, .ty T, ?_, kit_ty (kit_all t (tyN_mem e3) T hT), k _ ρ1 n W1 _ H1 l1 S1 (.bl _)⟩
      rw [C.K]
      exact tyx_of S1.sub S1.st (S1.rdH r1 e1) e3
/-- isinstance(e, (T1, ..)) -/
theorem je_isTs {Ts : List String} {cs : List Expr} {kt : Nat} {tpos : Pos} (C : Ctx X J) (hg : Gl X "isinstance") (hm : X.mg "isinstance" = none) (h : JB J X e d) (hc : PA X cs (fun _ H Q => Q (Ts.map .ty) H)) (hT : ∀ T ∈ Ts, T ∈ tyL := by decide) (hl : Ts.length ≤ sizeLine := by decide)
    (he : starEach [e, .Tuple cs kt tpos] X.env = (false, eval e X.env) :: starEach [.Tuple cs kt tpos] X.env := by rfl) (he2 : starEach [.Tuple cs kt tpos] X.env = (false, eval (.Tuple cs kt tpos) X.env) :: starEach [] X.env := by rfl) (hpl : (backTo pos (starEach [.Tuple cs kt tpos] X.env)).any (·.1) = false := by rfl) :
    JE J X (.Call (.Name "isinstance" p) [e, .Tuple cs kt tpos] [] pos) (dUn (oIsTs Ts) d) :=
  PE.imp (pe_callB call_isiT hg hm boot_isinstance (pa_cons h (pa_cons (pe_tup hc) pa_nil he2) he) (by decide) (by decide) he hpl) fun σ H Q ⟨W, ρ, S, P, X', q, x, k⟩ => by
    refine ⟨W, ρ, S, _, X', q, x, fun b ρ1 q1 W1 v H1 l1 S1 r1 => ?_⟩
    obtain ⟨y, z, e1, e2, n⟩ := q1
    unfold oIsTs at e2
    cases e3 : tyN y with
    | none => rw [e3] at e2; cases e2
    | some t =>
      rw [e3] at e2
      cases e2
      refine ⟨by rw [List.length_map]; exact hl, fun a na => ?_⟩
      have S2 := S1.newF (o := .tup (Ts.map V.ty)) na
      have l2 : W1.le (W1.add a (.tup (Ts.map V.ty))) := Wd.le_add (S1.free na).1
      have rr : RepH J.G (W1.add a (.tup (Ts.map V.ty))) (upd H1 a (.tup (Ts.map V.ty))) v y := S2.rdH (r1.mono l2) e1
      refine ⟨v, a, Ts.map .ty, .type t, Ts.map .type, _, rfl, upd_same, ?_, ?_, ?_, k _ ρ1 n _ _ _ (l1.trans l2) S2 (.bl _)⟩
      · have : ∀ l : List String, Paired ClsV (l.map .ty) (l.map .type) := by
          intro l
          induction l with
          | nil => exact .nil
          | cons T l ih => exact .cons (.ty T) ih
        exact this Ts
      · rw [C.K]
        exact tyx_of S2.sub S2.st rr e3
      · have key : ∀ l : List String, (∀ T ∈ l, T ∈ tyL) → PySem.W.kitAny X.K (.type t) (l.map .type) = some (l.any (subT t)) := by
          intro l
          induction l with
          | nil => intro _; rfl
          | cons T l ih =>
            intro hl
            rw [List.map_cons, List.any_cons]
            refine kitAny_cons (kit_ty (kit_all t (tyN_mem e3) T (hl T List.mem_cons_self))) (fun h => ?_) (fun h => by rw [h]; rfl)
            rw [h, Bool.false_or]
            exact ih fun T hT => hl T (List.mem_cons_of_mem _ hT)
        exact key Ts hT
theorem je_isTP {T : String} {f : PuF} (C : Ctx X J) (hg : Gl X "isinstance") (hm : X.mg "isinstance" = none) (h : JB J X e (pb f)) (hc : PE X c (tC (.ty T))) (hT : T ∈ tyL := by decide)
    (he : starEach [e, c] X.env = (false, eval e X.env) :: starEach [c] X.env := by rfl) (he2 : starEach [c] X.env = (false, eval c X.env) :: starEach [] X.env := by rfl) (hpl : (backTo pos (starEach [c] X.env)).any (·.1) = false := by rfl) :
    JE J X (.Call (.Name "isinstance" p) [e, c] [] pos) (pu (p1 (oIsT T) f)) := JE.imp (je_isT C hg hm h hc hT he he2 hpl) fun ρ P X q => dUn_p q
theorem je_isTsP {Ts : List String} {cs : List Expr} {kt : Nat} {tpos : Pos} {f : PuF} (C : Ctx X J) (hg : Gl X "isinstance") (hm : X.mg "isinstance" = none) (h : JB J X e (pb f)) (hc : PA X cs (fun _ H Q => Q (Ts.map .ty) H)) (hT : ∀ T ∈ Ts, T ∈ tyL := by decide) (hl : Ts.length ≤ sizeLine := by decide)
    (he : starEach [e, .Tuple cs kt tpos] X.env = (false, eval e X.env) :: starEach [.Tuple cs kt tpos] X.env := by rfl) (he2 : starEach [.Tuple cs kt tpos] X.env = (false, eval (.Tuple cs kt tpos) X.env) :: starEach [] X.env := by rfl) (hpl : (backTo pos (starEach [.Tuple cs kt tpos] X.env)).any (·.1) = false := by rfl) :
    JE J X (.Call (.Name "isinstance" p) [e, .Tuple cs kt tpos] [] pos) (pu (p1 (oIsTs Ts) f)) := JE.imp (je_isTs C hg hm h hc hT hl he he2 hpl) fun ρ P X q => dUn_p q
theorem pa_ty {T : String} {Ts : List String} {cs : List Expr} (h : PE X c (tC (.ty T))) (t : PA X cs (fun _ H Q => Q (Ts.map .ty) H)) (hs : starEach (c :: cs) X.env = (false, eval c X.env) :: starEach cs X.env := by rfl) : PA X (c :: cs) (fun _ H Q => Q ((T :: Ts).map .ty) H) := PA.imp (pa_cons h t hs) fun σ H Q q => q
theorem pa_ty0 : PA X [] (fun _ H Q => Q (([] : List String).map .ty) H) := PA.imp pa_nil fun σ H Q q => q
/-- what must be known of the exception classes that are asked for -/
structure KitE (K : PySem.W.Frag) (C : Addr) : Prop where
  cl : (PySem.W.clsIn K C).isSome = true
  ga : PySem.W.findIn K (.ref C) "__getattribute__" = some (some (.builtin "BaseException.__getattribute__"))
  gt : PySem.W.findIn K (.ref C) "__getattr__" = some none
  sb : PySem.W.subIn K (.ref C) (.type "BaseException") = some true
  ha : PySem.W.findIn K (.ref C) "__class__" = some (some (.builtin "object.__class__"))
  hm : PySem.W.mroIn K C (.type "object") = some true
structure KitG (K : PySem.W.Frag) : Prop where
  hn : PySem.W.specialIn K (.builtin "object.__class__") "__get__" = some (some (.builtin "getset_descriptor.__get__"))
  tk : PySem.W.takesIn K (.builtin "object.__class__") = some true
theorem notCls_fields {o : Obj} {vs : Array Value} (h : o.data = .fields vs) : PySem.W.notCls o := by
  unfold PySem.W.notCls
  rw [h] <;> trivial
/-- isinstance(e, C): e a value whose class is told -/
def oIsI (f : D → Option Bool) (d : D) : Option D := (f d).map .bl
/-- f answers rightly for the class cv -/
structure IsOk (G : Gm) (cv : Value) (f : D → Option Bool) : Prop where
  kg : KitG G.K
  ke : ∀ c ds b, f (.exc c ds) = some b → KitE G.K (G.cA c)
  hf : ∀ d b, f d = some b → PySem.W.kitOne G.K (tyV G d) cv = some b
  sc : ∀ ns, f (.scr ns) = none
theorem isE_run {f : D → Option Bool} {cv : Value} (C : Ctx X J) (ok : IsOk J.G cv f)
    {pins : List (Addr × Obj)} {s : Shared} {σ : L2.St} {H : Hp} {W : Wd} {v : V} {u : Value} {y : D} {b : Bool} {Q : Value → Shared → Prop} {E : Value → Shared → Prop} (I : Inv X pins σ H s) (sb : Sub W H) (so : StOk W H) (rv : RelV v u) (r : RepH J.G W H v y) (e : f y = some b)
    (q : ∀ tk, Q (.bool b) { s with toks := tk }) : wpAny (model X.prog X.w) X.A (call (.builtin "isinstance") [u, cv]) Q E s := by
  have hk := ok.hf y b e
  cases h : tyN y with
  | some t =>
    have ty := tyx_of sb so r h
    rw [← C.K] at ty
    have e2 : tyV J.G y = .type t := by
      unfold tyV
      cases y <;> first | (cases h; rfl) | cases h
    rw [e2, ← C.K] at hk
    obtain ⟨P, Z, p, hx⟩ := kit_of I rv ty
    exact PySem.W.kia_one Z I.kIn p hk hx q
  | none =>
    cases y with
    | exc c ds =>
      have k := ok.ke c ds b e
      have kg := ok.kg
      have key : ∀ {a : Addr} {d : Option Addr}, H a = some (ExcH (.ref (J.G.cA c)) d a) → (∀ x, d = some x → ∃ o, s.heap.get? x = some o) → wpAny (model X.prog X.w) X.A (call (.builtin "isinstance") [.ref a, cv]) Q E s := by
        intro a d ha hd
        obtain ⟨⟨oe, vs, h1, h2, h3⟩, _⟩ := I.hok a _ ha
        have hxx : ∃ od, PySem.W.InstAt s.heap a oe (J.G.cA c) od := by
          cases d with
          | none => exact ⟨none, h1, h2.1, notCls_fields h3, by rw [h2.2]; trivial⟩
          | some x =>
            obtain ⟨o, ho⟩ := hd x rfl
            exact ⟨some o, h1, h2.1, notCls_fields h3, by rw [h2.2]; exact ho⟩
        obtain ⟨od, J'⟩ := hxx
        rw [← C.K] at k kg
        have hk : PySem.W.kitOne X.K (.ref (J.G.cA c)) cv = some b := by rw [C.K]; exact hk
        exact PySem.W.kia_one (PySem.W.kitx_exc k.cl k.ga k.gt k.sb k.ha kg.hn kg.tk k.hm) I.kIn J' hk (fun z => nomatch z) q
      cases r with
      | rep r =>
        cases r with
        | exc0 h1 h2 =>
          cases rv
          exact key (sb _ _ h1) (fun _ z => nomatch z)
        | exc1 h1 h2 h3 h4 =>
          cases rv
          refine key (sb _ _ h1) (fun x z => ?_)
          cases z
          obtain ⟨mA, ⟨o, es, ep, ho, _⟩, _⟩ := I.hok _ _ (sb _ _ h3)
          exact ⟨o, ho⟩
    | scr ns =>
      rw [ok.sc ns] at e
      cases e
    | _ => cases h
def rIsD (G : Gm) (cV : V) (f : D → Option Bool) : List V → Hp → VK → Prop := fun xs H Q => ∃ v y b W, xs = [v, cV] ∧ Sub W H ∧ StOk W H ∧ RepH G W H v y ∧ f y = some b ∧ Q (.bl b) H
theorem call_isD {f : D → Option Bool} {cv : Value} {cV : V} (C : Ctx X J) (ok : IsOk J.G cv f) (hc : ∀ u, RelV cV u → u = cv) : CallR X (.builtin "isinstance") (rIsD J.G cV f) := by
  intro pins s σ H xs us Q I rr h
  obtain ⟨v, y, b, W, rfl, sb, so, r, e, q⟩ := h
  obtain ⟨u1, u2, rfl, r1, r2⟩ := vals2 rr
  have e2 := hc _ r2
  subst e2
  exact isE_run C ok I sb so r1 r e fun tk => ⟨.bl b, H, I.tok tk, rfl, q⟩
theorem je_isI {f : D → Option Bool} {cv : Value} {cV : V} (C : Ctx X J) (ok : IsOk J.G cv f) (hcv : ∀ u, RelV cV u → u = cv) (hg : Gl X "isinstance") (hm : X.mg "isinstance" = none) (h : JB J X e d) (hc : PE X c (tC cV))
    (he : starEach [e, c] X.env = (false, eval e X.env) :: starEach [c] X.env := by rfl) (he2 : starEach [c] X.env = (false, eval c X.env) :: starEach [] X.env := by rfl) (hpl : (backTo pos (starEach [c] X.env)).any (·.1) = false := by rfl) :
    JE J X (.Call (.Name "isinstance" p) [e, c] [] pos) (dUn (oIsI f) d) :=
  PE.imp (pe_callB (call_isD C ok hcv) hg hm boot_isinstance (pa_cons h (pa_cons hc pa_nil he2) he) (by decide) (by decide) he hpl) fun σ H Q ⟨W, ρ, S, P, X', q, x, k⟩ => by
    refine ⟨W, ρ, S, _, X', q, x, fun b ρ1 q1 W1 v H1 l1 S1 r1 => ?_⟩
    obtain ⟨y, z, e1, e2, n⟩ := q1
    unfold oIsI at e2
    cases e3 : f y with
    | none => rw [e3] at e2; cases e2
    | some t =>
      rw [e3] at e2
      cases e2
      exact ⟨v, y, t, W1, rfl, S1.sub, S1.st, S1.rdH r1 e1, e3, k _ ρ1 n W1 _ H1 l1 S1 (.bl _)⟩
theorem je_isIP {f : D → Option Bool} {cv : Value} {cV : V} {g : PuF} (C : Ctx X J) (ok : IsOk J.G cv f) (hcv : ∀ u, RelV cV u → u = cv) (hg : Gl X "isinstance") (hm : X.mg "isinstance" = none) (h : JB J X e (pb g)) (hc : PE X c (tC cV))
    (he : starEach [e, c] X.env = (false, eval e X.env) :: starEach [c] X.env := by rfl) (he2 : starEach [c] X.env = (false, eval c X.env) :: starEach [] X.env := by rfl) (hpl : (backTo pos (starEach [c] X.env)).any (·.1) = false := by rfl) :
    JE J X (.Call (.Name "isinstance" p) [e, c] [] pos) (pu (p1 (oIsI f) g)) := JE.imp (je_isI C ok hcv hg hm h hc he he2 hpl) fun ρ P X q => dUn_p q
theorem cls_rel {C : Addr} : ∀ u, RelV (.ref C) u → u = .ref C := fun _ r => r
end

/-! ### enumerate -/
section
variable {X : Cx} {J : Jc} {pos : Pos} {tg e : Expr}
/-- enumerate of a tuple -/
def IteT (K : PySem.W.Frag) (a : Addr) : It :=
  ⟨fun i H => ∃ (xs : List V) (x : V), SqT K H a xs ∧ xs[i]? = some x, fun i H v H' => ∃ T x, v = .ref T ∧ H T = none ∧ H' = upd H T (.tup [.int (i : Nat), x]) ∧ ∀ xs, SqT K H a xs → xs[i]? = some x, fun i H => ∃ xs : List V, SqT K H a xs ∧ xs.length = i⟩
theorem turn_enumT {P : Program} {w : World} {K : PySem.W.Frag} {elts : List Expr} {kk : Nat} {tpos : Pos} (a e it : Addr) :
    Turn P w K (.Tuple elts kk tpos) (IteT K a) [e, it] e (fun i h => (∃ old, IsEnum h e it ((i : Nat) : Int) old) ∧ h.IsTupleIter it a i ∧ e ≠ it ∧ a ≠ it ∧ a ≠ e) where
  mem := List.mem_cons_self
  obj := fun i h st b hb => by
    obtain ⟨⟨old, he⟩, ⟨o, ho, _, hd⟩, _⟩ := st
    rcases List.mem_cons.mp hb with rfl | hb
    · exact ⟨_, he, fun v q => nomatch q⟩
    · rw [List.mem_singleton.mp hb]
      exact ⟨o, ho, fun v q => by rw [hd] at q; cases q⟩
  keep := fun i h h' ⟨⟨old, he⟩, hi, hn⟩ k => ⟨⟨old, k e List.mem_cons_self _ he⟩, hi.at fun o q => k it (List.mem_cons_of_mem _ List.mem_cons_self) o q, hn⟩
  item := by
    intro X hP hw hK hc i pins s σ H E I hf ⟨⟨old, he⟩, hit, hne, hai, hae⟩ ⟨xs, x, hq, hx⟩
    subst hP hw hK
    obtain ⟨its, rv, ht, hz⟩ := I.tuple hq
    obtain ⟨u, hu, ru⟩ := rv.get hx
    have hel := Heap.lt_size he
    have hil : it < s.heap.objs.size := by obtain ⟨_, q, _⟩ := hit; exact Heap.lt_size q
    have hi : i < its.toArray.size := by rw [List.size_toArray]; exact (List.getElem?_eq_some_iff.mp hu).1
    refine wpAny_pyNext_enum_itemC (Draws.tuple (prog := X.prog) (w := X.w) (A := X.A.in1) (I.ok.hd hc) it a hai its.toArray) he ⟨hit, ht⟩ hi hne (fun m => ?_) fun y h' tk hy ho hst hT hsz hk => ?_
    · rcases List.mem_cons.mp m with z | z
      · exact hne z
      · exact hae (List.mem_singleton.mp z).symm
    have ey : u = y := by
      rw [List.getElem?_toArray, hu] at hy
      exact Option.some.inj hy
    subst ey
    refine ⟨_, rfl, wpAny_letOwnedTupleGo_enum (s := { s with heap := h', toks := tk + 1 }) ho fun h2 he2 sb => ?_⟩
    have hT2 := (sb.2 _ (Nat.ne_of_gt hel)).trans hT
    have new : ObjOk X.prog X.w (upd H s.heap.objs.size (.tup [.int (i : Nat), x])) h2 s.heap.objs.size (.tup [.int (i : Nat), x]) :=
      ⟨by show 2 ≤ sizeLine; decide, _, Paired.cons ⟨tk, rfl⟩ (Paired.cons ru .nil), ⟨_, hT2, rfl, _, rfl⟩⟩
    have ne2 : ∀ {b : Addr}, b ∉ [e, it] → b ≠ e ∧ b ≠ it := fun {b} n => ⟨fun z => n (by rw [z]; exact List.mem_cons_self), fun z => n (by rw [z]; exact List.mem_cons_of_mem _ List.mem_cons_self)⟩
    have I1 := I.turnedNew (t' := tk + 1) (ch := [e, it]) (fun b ob hb q => (sb.2 b (ne2 hb).1).trans (hk b ob (ne2 hb).1 (ne2 hb).2 q)) hf (Nat.le_refl _) new
    refine ⟨.ref s.heap.objs.size, _, I1, rfl, ⟨_, x, rfl, I.hok.fresh (Nat.le_refl _), rfl, fun ys hy => by rw [I.tuple_inj hy hq]; exact hx⟩, ⟨⟨u, ?_⟩, hst.1.at fun o q => (sb.2 it (Ne.symm hne)).trans q, hne, hai, hae⟩, fun b hb => ?_⟩
    · have e1 : ((i + 1 : Nat) : Int) = (i : Int) + 1 := by omega
      rw [e1]
      exact he2
    · have hb' : b < s.heap.objs.size := by
        rcases List.mem_cons.mp hb with rfl | hb
        · exact hel
        · rw [List.mem_singleton.mp hb]; exact hil
      rw [upd_ne (Nat.ne_of_lt hb')]
      exact (hf b hb).1
  done := by
    intro X hP hw hK hc i pins s σ H E I hf ⟨⟨old, he⟩, hit, hne, hai, hae⟩ ⟨xs, hq, hx⟩
    subst hP hw hK
    obtain ⟨its, rv, ht, hz⟩ := I.tuple hq
    obtain ⟨f0, f1, f2, f3, f4, f5⟩ := hf it (List.mem_cons_of_mem _ List.mem_cons_self)
    have hn : its.toArray.size = i := by rw [List.size_toArray, ← rv.length]; exact hx
    subst hn
    exact wpAny_pyNext_enum_endD (Draws.tuple (prog := X.prog) (w := X.w) (A := X.A.in1) (I.ok.hd hc) it a hai its.toArray) he ⟨hit, ht⟩ fun h' eb => ⟨rfl, I.turned (t' := s.toks) (fun b o hb q => eb b o hb q) f0 f1 f3 f4 f5⟩
  self := fun A i s Q E ⟨⟨_, he⟩, _⟩ h => wpAny_pyIter_enum he h
theorem enum_new1 {v : Value} {o : Obj} {F : Heap → Prop} (B : Begins v o F) : Meets (Builtin.«enumerate.__new__» ⟨[.type "enumerate", v], []⟩) (fun _ R s => F s.heap ∧
      R (.ok (.ret (.ref (s.heap.push o).objs.size))) { s with heap := (s.heap.push o).push { cls := .type "enumerate", data := .fields #[.none, .bool false, .ref s.heap.objs.size, rawInt 0, .none, .none] } }) :=
  .of_wp fun prog w A R s h => by
    obtain ⟨hp, g, d, tk, os⟩ := s
    obtain ⟨h1, h⟩ := h
    have q0 := sub_enumerate
    have q1 : ∀ {A' : Around} {E : Value → Shared → Prop} {Q : Value → Shared → Prop}, Q (.ref hp.objs.size) ⟨hp.push o, g, d, tk, os⟩ → wpAny (model prog w) A' (pyIter v) Q E ⟨hp, g, d, tk, os⟩ := fun q => B.iter prog w _ _ ⟨hp, g, d, tk, os⟩ _ h1 q
    wp_walk using q1
    apply wpAny_stack_any
    intro st
    apply wpAny_pure
    split
    · rename_i c _ _ _ _ _
      cases (c == Value.type "enumerate") <;> (wp_walk using q1; exact ⟨_, rfl, h⟩)
    · wp_walk using q1
      exact ⟨_, rfl, h⟩
theorem enum_begins1 {prog : Program} {w : World} {A : Around} {E : Value → Shared → Prop} {s : Shared} {v : Value} {o : Obj} {Fp : Heap → Prop} {Q : Value → Shared → Prop} (B : Begins v o Fp) (h1 : Fp s.heap)
    (h : ∀ h', IsEnum h' (s.heap.objs.size + 1) s.heap.objs.size 0 .none → h'.get? s.heap.objs.size = some o → (∀ b o, s.heap.get? b = some o → h'.get? b = some o) → Q (.ref (s.heap.objs.size + 1)) { s with heap := h' }) :
    wpAny (model prog w) A (call (.type "enumerate") [v]) Q E s := by
  refine callType_new F.called_enumerate (by decide) (F.typeCall_enumerate_1 _) (F.newCall_enumerate_1 _) (fun obj => F.args_object_init_2 obj _) F.entry_enumerate_new (enum_new1 B) ⟨h1, ?_⟩
  have hz : (s.heap.push o).objs.size = s.heap.objs.size + 1 := Heap.size_push ..
  show _ ∧ _
  rw [hz]
  let eo : Obj := { cls := .type "enumerate", data := .fields #[.none, .bool false, .ref s.heap.objs.size, rawInt 0, .none, .none] }
  have he : IsEnum ((s.heap.push o).push eo) (s.heap.objs.size + 1) s.heap.objs.size 0 .none := by
    have := Heap.get?_push_size (s.heap.push o) (o := eo) rfl
    rw [hz] at this
    exact this
  exact ⟨⟨_, he, rfl⟩, h _ he (Heap.get?_push_of_some _ (Heap.get?_push_size _ B.free)) fun b o x => Heap.get?_push_of_some _ (Heap.get?_push_of_some _ x)⟩
def iEnA (K : PySem.W.Frag) (ta : TA) : TI := fun σ H R => ta σ H fun vs H1 => ∃ a xs, vs = [.ref a] ∧ ((SqL K H1 a xs ∧ R (Ite K a) H1) ∨ (SqT K H1 a xs ∧ R (IteT K a) H1))
theorem pi_enA {ta : TA} {p tpos : Pos} {elts : List Expr} {kk : Nat} (hg : Gl X "enumerate") (hm : X.mg "enumerate" = none) (ha : PA X [e] ta) (hs : starEach [e] X.env = [(false, eval e X.env)] := by rfl) :
    PI X (.Tuple elts kk tpos) (.Call (.Name "enumerate" p) [e] [] pos) (iEnA X.K ta) := by
  constructor
  intro pins s σ H R I h
  refine Call_ (ld_blt I hg hm boot_enumerate (PyProof.Rows.callWith_type1 (thn (ha.run pos pins s σ H _ I h) ?_) hs rfl))
  rintro us s1 ⟨vs, H1, I1, r1, a, xs, rfl, q⟩
  obtain ⟨u, rfl, r⟩ := vals1 r1
  cases (show u = .ref a from r)
  have fr : ∀ b ∈ [s1.heap.objs.size + 1, s1.heap.objs.size], FpOk X pins H1 b := fun b hb => by
    have hle : s1.heap.objs.size ≤ b := by
      rcases List.mem_cons.mp hb with rfl | hb
      · exact Nat.le_succ _
      · rw [List.mem_singleton.mp hb]; exact Nat.le_refl _
    exact I1.fpOk hle (I1.hok.fresh hle)
  rcases q with ⟨hq, q⟩ | ⟨hq, q⟩
  · obtain ⟨its, rv, p', hz⟩ := I1.list hq
    refine call_enumerate_list p'.isList fun h' he hit hsz hk => wpAny_pyIter_enum he ?_
    exact ⟨_, _, _, _, H1, rfl, I1.kept (t' := s1.toks) hk, turn_enum a (s1.heap.objs.size + 1) s1.heap.objs.size, ⟨⟨.none, he⟩, hit, Nat.succ_ne_self _⟩, fr, q⟩
  · obtain ⟨its, rv, p', hz⟩ := I1.tuple hq
    refine enum_begins1 (begins_tuple a its.toArray) p' fun h' he ho hk => wpAny_pyIter_enum he ?_
    have hlt : a < s1.heap.objs.size := by obtain ⟨o, ho, _⟩ := id p'; exact Heap.lt_size ho
    exact ⟨_, _, _, _, H1, rfl, I1.kept (t' := s1.toks) hk, turn_enumT a (s1.heap.objs.size + 1) s1.heap.objs.size, ⟨⟨.none, he⟩, ⟨_, ho, rfl, rfl⟩, Nat.succ_ne_self _, Nat.ne_of_lt hlt, Nat.ne_of_lt (Nat.lt_succ_of_lt hlt)⟩, fr, q⟩
/-- index and item -/
def enumD (ds : List D) : List D := (List.range ds.length).zipWith (fun i d => .tup [.int (i : Nat), d]) ds
theorem enumD_len (ds : List D) : (enumD ds).length = ds.length := by unfold enumD; rw [List.length_zipWith, List.length_range, Nat.min_self]
theorem enumD_get {ds : List D} {i : Nat} {d : D} (h : ds[i]? = some d) : (enumD ds)[i]? = some (.tup [.int (i : Nat), d]) := by
  have hl := (List.getElem?_eq_some_iff.mp h).1
  unfold enumD
  rw [List.getElem?_zipWith, List.getElem?_range hl, h]
theorem two_le : 2 ≤ sizeLine := by decide
theorem rep_pair {G : Gm} {W : Wd} {T : Addr} {v w : V} {d e : D} (n : W.F T = none) (h1 : Rep G W v d) (h2 : Rep G W w e) : Rep G (W.add T (.tup [v, w])) (.ref T) (.tup [d, e]) := rep_tup_new n (.cons h1 (.cons h2 .nil)) two_le
theorem itD_enum {W : Wd} {a : Addr} {ds : List D} (r : Rep J.G W (.ref a) (.lst ds)) : ItD J (Ite J.G.K a) W (enumD ds) := fun W' H l sb i => by
  cases r with
  | lst h rr z =>
    rename_i vs
    have hs : SqL J.G.K H a vs := .inl (.inl (sb _ _ (l.f _ _ h)))
    rw [enumD_len]
    refine ⟨fun hi => ?_, fun hi _ => ⟨vs, hs, by rw [rr.len]; exact hi⟩⟩
    obtain ⟨y, hy, ry⟩ := rr.get (List.getElem?_eq_getElem hi)
    refine ⟨⟨vs, y, hs, hy⟩, fun x H' hx => ?_⟩
    obtain ⟨T, x', rfl, nT, rfl, hx⟩ := hx
    have e := (hx vs hs).symm.trans hy
    cases e
    exact ⟨_, .inr ⟨T, _, nT, rfl, rfl⟩, _, enumD_get (List.getElem?_eq_getElem hi), rep_pair (sub_none sb nT) (.int _) (ry.mono l)⟩
theorem itD_enumT {W : Wd} {a : Addr} {ds : List D} (r : Rep J.G W (.ref a) (.tup ds)) : ItD J (IteT J.G.K a) W (enumD ds) := fun W' H l sb i => by
  cases r with
  | tup h rr z =>
    rename_i vs
    have hs : SqT J.G.K H a vs := sqT_le sb (sqT_le l.f h)
    rw [enumD_len]
    refine ⟨fun hi => ?_, fun hi h2 => ⟨vs, hs, by rw [rr.len]; omega⟩⟩
    obtain ⟨y, hy, ry⟩ := rr.get (List.getElem?_eq_getElem hi)
    refine ⟨⟨vs, y, hs, hy⟩, fun x H' hx => ?_⟩
    obtain ⟨T, x', rfl, nT, rfl, hx⟩ := hx
    have e := (hx vs hs).symm.trans hy
    cases e
    exact ⟨_, .inr ⟨T, _, nT, rfl, rfl⟩, _, enumD_get (List.getElem?_eq_getElem hi), rep_pair (sub_none sb nT) (.int _) (ry.mono l)⟩
def dEnum (d : DE) : DI := fun ρ P X => d ρ (fun r ρ' => ∃ ds, seqOf r = some ds ∧ P (enumD ds) ρ') X
def pEnum (f : PuF) : Env → Option (List D) := fun ρ => (f ρ).bind fun r => (seqOf r).map enumD
theorem ji_enum {d : DE} {p tpos : Pos} {elts : List Expr} {kk : Nat} (C : Ctx X J) (hg : Gl X "enumerate") (hm : X.mg "enumerate" = none) (h : JE J X e d) (hs : starEach [e] X.env = [(false, eval e X.env)] := by rfl) : JI J X (.Tuple elts kk tpos) (.Call (.Name "enumerate" p) [e] [] pos) (dEnum d) :=
  PI.imp (pi_enA hg hm (pa_cons h pa_nil hs) hs) fun σ H R ⟨W, ρ, S, P, X, q, x, k⟩ => by
    refine ⟨W, ρ, S, _, X, q, x, fun r ρ1 q1 W1 v H1 l1 S1 rr => ?_⟩
    obtain ⟨ds, e1, p⟩ := q1
    rw [C.K]
    cases r with
    | lst xs =>
      cases e1
      cases rr with
      | lst h' rr' z => exact ⟨_, _, rfl, .inl ⟨.inl (.inl (S1.sub _ _ h')), k _ ρ1 p W1 H1 _ l1 S1 (itD_enum (.lst h' rr' z)) (by rw [enumD_len]; exact z)⟩⟩
    | tup xs =>
      cases e1
      cases rr with
      | tup h' rr' z => exact ⟨_, _, rfl, .inr ⟨sqT_le S1.sub h', k _ ρ1 p W1 H1 _ l1 S1 (itD_enumT (.tup h' rr' z)) (by rw [enumD_len]; exact z)⟩⟩
    | _ => cases e1
theorem ji_enumP {f : PuF} {p tpos : Pos} {elts : List Expr} {kk : Nat} (C : Ctx X J) (hg : Gl X "enumerate") (hm : X.mg "enumerate" = none) (h : JE J X e (pu f)) (hs : starEach [e] X.env = [(false, eval e X.env)] := by rfl) : JI J X (.Tuple elts kk tpos) (.Call (.Name "enumerate" p) [e] [] pos) (piF (pEnum f)) := JI.imp (ji_enum C hg hm h hs) fun ρ P X ⟨d, q, p⟩ => by
  unfold pEnum at q
  cases e1 : f ρ with
  | none => rw [e1] at q; cases q
  | some x =>
    rw [e1] at q
    have q : (seqOf x).map enumD = some d := q
    cases e2 : seqOf x with
    | none => rw [e2] at q; cases q
    | some ds => rw [e2] at q; cases q; exact ⟨x, e1, ds, e2, p⟩

/-! ### zip -/
def zipD (xs ys : List D) : List D := xs.zipWith (fun a b => .tup [a, b]) ys
theorem zipD_len (xs ys : List D) : (zipD xs ys).length = min xs.length ys.length := List.length_zipWith
theorem zipD_get {xs ys : List D} {i : Nat} {d e : D} (h : xs[i]? = some d) (h2 : ys[i]? = some e) : (zipD xs ys)[i]? = some (.tup [d, e]) := by
  unfold zipD
  rw [List.getElem?_zipWith, h, h2]
theorem itD_zip {W : Wd} {a b : Addr} {xs ys : List D} (r : Rep J.G W (.ref a) (.lst xs)) (r2 : Rep J.G W (.ref b) (.lst ys)) : ItD J (Itz J.G.K a b) W (zipD xs ys) := fun W' H l sb i => by
  cases r with
  | lst h rr z =>
    cases r2 with
    | lst h2 rr2 z2 =>
      rename_i vs ws
      have hs : SqL J.G.K H a vs := .inl (.inl (sb _ _ (l.f _ _ h)))
      have hs2 : SqL J.G.K H b ws := .inl (.inl (sb _ _ (l.f _ _ h2)))
      rw [zipD_len]
      refine ⟨fun hi => ?_, fun hi _ => ⟨vs, ws, hs, hs2, ?_⟩⟩
      · have hi1 : i < xs.length := by omega
        have hi2 : i < ys.length := by omega
        obtain ⟨y, hy, ry⟩ := rr.get (List.getElem?_eq_getElem hi1)
        obtain ⟨y2, hy2, ry2⟩ := rr2.get (List.getElem?_eq_getElem hi2)
        refine ⟨⟨vs, ws, y, y2, hs, hs2, hy, hy2⟩, fun x H' hx => ?_⟩
        obtain ⟨T, x1, x2, rfl, nT, rfl, f1, f2⟩ := hx
        have e := (f1 vs hs).symm.trans hy
        cases e
        have e := (f2 ws hs2).symm.trans hy2
        cases e
        exact ⟨_, .inr ⟨T, _, nT, rfl, rfl⟩, _, zipD_get (List.getElem?_eq_getElem hi1) (List.getElem?_eq_getElem hi2), rep_pair (sub_none sb nT) (ry.mono l) (ry2.mono l)⟩
      · rw [rr.len, rr2.len]
        omega
theorem itD_zipT {W : Wd} {a b : Addr} {xs ys : List D} (r : Rep J.G W (.ref a) (.tup xs)) (r2 : Rep J.G W (.ref b) (.tup ys)) : ItD J (RZ.ItzT J.G.K a b) W (zipD xs ys) := fun W' H l sb i => by
  cases r with
  | tup h rr z =>
    cases r2 with
    | tup h2 rr2 z2 =>
      rename_i vs ws
      have hs : SqT J.G.K H a vs := sqT_le sb (sqT_le l.f h)
      have hs2 : SqT J.G.K H b ws := sqT_le sb (sqT_le l.f h2)
      rw [zipD_len]
      refine ⟨fun hi => ?_, fun hi _ => ⟨vs, ws, hs, hs2, ?_⟩⟩
      · have hi1 : i < xs.length := by omega
        have hi2 : i < ys.length := by omega
        obtain ⟨y, hy, ry⟩ := rr.get (List.getElem?_eq_getElem hi1)
        obtain ⟨y2, hy2, ry2⟩ := rr2.get (List.getElem?_eq_getElem hi2)
        refine ⟨⟨vs, ws, y, y2, hs, hs2, hy, hy2⟩, fun x H' hx => ?_⟩
        obtain ⟨T, x1, x2, rfl, nT, rfl, f1, f2⟩ := hx
        have e := (f1 vs hs).symm.trans hy
        cases e
        have e := (f2 ws hs2).symm.trans hy2
        cases e
        exact ⟨_, .inr ⟨T, _, nT, rfl, rfl⟩, _, zipD_get (List.getElem?_eq_getElem hi1) (List.getElem?_eq_getElem hi2), rep_pair (sub_none sb nT) (ry.mono l) (ry2.mono l)⟩
      · rw [rr.len, rr2.len]
        omega
def zipOf : D → D → Option (List D)
  | .lst xs, .lst ys => some (zipD xs ys)
  | .tup xs, .tup ys => some (zipD xs ys)
  | _, _ => none
def dZip (d1 d2 : DE) : DI := fun ρ P X => d1 ρ (fun r1 ρ1 => d2 ρ1 (fun r2 ρ2 => ∃ ds, zipOf r1 r2 = some ds ∧ P ds ρ2) X) X
def pZip (f g : PuF) : Env → Option (List D) := p2F zipOf f g
theorem ji_zip {e2 : Expr} {d1 d2 : DE} {p tpos : Pos} {elts : List Expr} {kk : Nat} (C : Ctx X J) (hg : Gl X "zip") (hm : X.mg "zip" = none) (h : JE J X e d1) (h2 : JE J X e2 d2) (hs : starEach [e, e2] X.env = (false, eval e X.env) :: starEach [e2] X.env := by rfl)
    (hs2 : starEach [e2] X.env = (false, eval e2 X.env) :: starEach [] X.env := by rfl) (hpl : (backTo pos (starEach [e2] X.env)).any (·.1) = false := by rfl) : JI J X (.Tuple elts kk tpos) (.Call (.Name "zip" p) [e, e2] [] pos) (dZip d1 d2) :=
  PI.imp (RZ.pi_zipA hg hm (pa_cons h (pa_cons h2 pa_nil hs2) hs) hs hpl) fun σ H R ⟨W, ρ, S, P, X, q, x, k⟩ => by
    refine ⟨W, ρ, S, _, X, q, x, fun r1 ρ1 q1 W1 v1 H1 l1 S1 rr1 => ?_⟩
    refine ⟨W1, ρ1, S1, _, X, q1, x.mono l1, fun r2 ρ2 q2 W2 v2 H2 l2 S2 rr2 => ?_⟩
    obtain ⟨ds, e1, p⟩ := q2
    have rr1 := rr1.mono l2
    rw [C.K]
    unfold zipOf at e1
    split at e1
    · cases e1
      cases rr1 with
      | lst h' rr' z => cases rr2 with
        | lst h2' rr2' z2 => exact ⟨_, _, _, _, rfl, .inl ⟨.inl (.inl (S2.sub _ _ h')), .inl (.inl (S2.sub _ _ h2')), k _ ρ2 p W2 H2 _ (l1.trans l2) S2 (itD_zip (.lst h' rr' z) (.lst h2' rr2' z2)) (by rw [zipD_len]; omega)⟩⟩
    · cases e1
      cases rr1 with
      | tup h' rr' z => cases rr2 with
        | tup h2' rr2' z2 => exact ⟨_, _, _, _, rfl, .inr ⟨sqT_le S2.sub h', sqT_le S2.sub h2', k _ ρ2 p W2 H2 _ (l1.trans l2) S2 (itD_zipT (.tup h' rr' z) (.tup h2' rr2' z2)) (by rw [zipD_len]; omega)⟩⟩
    · cases e1
theorem ji_zipP {e2 : Expr} {f g : PuF} {p tpos : Pos} {elts : List Expr} {kk : Nat} (C : Ctx X J) (hg : Gl X "zip") (hm : X.mg "zip" = none) (h : JE J X e (pu f)) (h2 : JE J X e2 (pu g)) (hs : starEach [e, e2] X.env = (false, eval e X.env) :: starEach [e2] X.env := by rfl)
    (hs2 : starEach [e2] X.env = (false, eval e2 X.env) :: starEach [] X.env := by rfl) (hpl : (backTo pos (starEach [e2] X.env)).any (·.1) = false := by rfl) : JI J X (.Tuple elts kk tpos) (.Call (.Name "zip" p) [e, e2] [] pos) (piF (pZip f g)) := JI.imp (ji_zip C hg hm h h2 hs hs2 hpl) fun ρ P X ⟨d, q, p⟩ => by
  obtain ⟨x, y, e1, e2, e3⟩ := p2F_some q
  exact ⟨x, e1, y, e2, d, e3, p⟩

/-! ### list(range(..)) -/
theorem rgV_rep {G : Gm} {W : Wd} (a b : Int) : RepL G W (rgV a b) (rng a (b - a).toNat) := by
  unfold rgV rng
  have key : ∀ l : List Nat, RepL G W (l.map fun i => V.int (a + (i : Nat))) (l.map fun i => D.int (a + (i : Nat))) := by
    intro l
    induction l with
    | nil => exact .nil
    | cons i l ih => exact .cons (.int _) ih
  exact key _
def dLRg1 (d : DE) : DF := fun ρ P X => d ρ (fun r ρ' => ∃ n, r = .int n ∧ inB n = true ∧ n.toNat ≤ sizeLine ∧ P (rng 0 n.toNat) ρ') X
def dLRg2 (d1 d2 : DE) : DF := fun ρ P X => d1 ρ (fun r1 ρ1 => d2 ρ1 (fun r2 ρ2 => ∃ i j, r1 = .int i ∧ r2 = .int j ∧ inB i = true ∧ inB j = true ∧ (j - i).toNat ≤ sizeLine ∧ P (rng i (j - i).toNat) ρ2) X) X
theorem rgOk {i j : Int} (h1 : inB i = true) (h2 : inB j = true) (h : (j - i).toNat ≤ sizeLine) : RgOk i j := by
  have h1 := inB_iff.mp h1
  have h2 := inB_iff.mp h2
  exact ⟨h1.1, h1.2, h2.1, h2.2, by rw [sizeLine_eq] at h; exact h⟩
theorem jf_lrg1 {a : Expr} {d : DE} {p p2 pos2 : Pos} (C : Ctx X J) (hg : Gl X "list") (hm : X.mg "list" = none) (hg2 : Gl X "range") (hm2 : X.mg "range" = none) (h : JE J X a d) (na : starEach [a] X.env = (false, eval a X.env) :: starEach [] X.env := by rfl)
    (nb : starEach [.Call (.Name "range" p2) [a] [] pos2] X.env = (false, eval (.Call (.Name "range" p2) [a] [] pos2) X.env) :: starEach [] X.env := by rfl) : JF J X (.Call (.Name "list" p) [.Call (.Name "range" p2) [a] [] pos2] [] pos) (dLRg1 d) :=
  PE.imp (pe_listRg C.calm hg hm (prg_1 hg2 hm2 h na) nb) fun σ H Q ⟨W, ρ, S, P, X, q, x, k⟩ => by
    refine ⟨W, ρ, S, _, X, q, x, fun r ρ1 q1 W1 v H1 l1 S1 rr => ?_⟩
    obtain ⟨n, rfl, hb, hn, pp⟩ := q1
    cases rr
    have hz : (n - 0).toNat ≤ sizeLine := by rw [Int.sub_zero]; exact hn
    refine ⟨n, rfl, rgOk (by decide) hb hz, fun q nq => ?_⟩
    have rr := rgV_rep (G := J.G) (W := W1) 0 n
    rw [Int.sub_zero] at rr
    exact k _ ρ1 pp W1 q _ H1 l1 S1 nq rr (by rw [rng_len]; exact hn)
theorem jf_lrg2 {a b : Expr} {d1 d2 : DE} {p p2 pos2 : Pos} (C : Ctx X J) (hg : Gl X "list") (hm : X.mg "list" = none) (hg2 : Gl X "range") (hm2 : X.mg "range" = none) (h : JE J X a d1) (h2 : JE J X b d2) (na : starEach [a, b] X.env = (false, eval a X.env) :: starEach [b] X.env := by rfl)
    (nb : starEach [b] X.env = (false, eval b X.env) :: starEach [] X.env := by rfl) (hp : (backTo pos2 (starEach [b] X.env)).any (·.1) = false := by rfl)
    (nc : starEach [.Call (.Name "range" p2) [a, b] [] pos2] X.env = (false, eval (.Call (.Name "range" p2) [a, b] [] pos2) X.env) :: starEach [] X.env := by rfl) : JF J X (.Call (.Name "list" p) [.Call (.Name "range" p2) [a, b] [] pos2] [] pos) (dLRg2 d1 d2) :=
  PE.imp (pe_listRg C.calm hg hm (prg_2 hg2 hm2 h h2 na nb hp) nc) fun σ H Q ⟨W, ρ, S, P, X, q, x, k⟩ => by
    refine ⟨W, ρ, S, _, X, q, x, fun r1 ρ1 q1 W1 v1 H1 l1 S1 rr1 => ?_⟩
    refine ⟨W1, ρ1, S1, _, X, q1, x.mono l1, fun r2 ρ2 q2 W2 v2 H2 l2 S2 rr2 => ?_⟩
    obtain ⟨i, j, rfl, rfl, hb, hb2, hz, pp⟩ := q2
    cases rr1
    cases rr2
    exact ⟨i, j, rfl, rfl, rgOk hb hb2 hz, fun q nq => k _ ρ2 pp W2 q _ H2 (l1.trans l2) S2 nq (rgV_rep i j) (by rw [rng_len]; exact hz)⟩
end
end DL

/-! DL: methods of owned lists, stores by place, is, tests by chains. -/
namespace DL
open PySem PySem.Spec PyProof.Rows L2
section
variable {X : Cx} {J : Jc} {pos apos cpos : Pos} {e o : Expr} {i : Nat}

/-! ### found.append(e) -/
def dApp (i : Nat) (d : DE) : DS := fun ρ N => (∃ ds, ρ[i]? = some (.ml ds)) ∧ d ρ (fun r ρ' => ∃ ds, ρ'[i]? = some (.ml ds) ∧ ds.length < sizeLine ∧ N.nx (ρ'.set i (.ml (ds ++ [r])))) N.x
theorem sim_ml {W : Wd} {ρ : Env} {σ : L2.St} {H : Hp} (S : Sim J W ρ σ H) {ds : List D} (e : ρ[i]? = some (.ml ds)) : ∃ a vs, σ[i]? = some (some (.ref a)) ∧ H a = some (.lst vs) ∧ RepL J.G W vs ds ∧ ds.length ≤ sizeLine := by
  obtain ⟨a, vs, h1, h2, h3, h4, _⟩ := S.slot i _ e
  exact ⟨a, vs, h1, h2, h3, h4⟩
theorem js_append {d : DE} (ho : PE X o (tVar i)) (h : JE J X e d) (hbase : attributeBase o "append" X.env (eval o X.env) = eval o X.env := by rfl)
    (hfew : ((backTo cpos (starEach [e] X.env)).all (fun x => !x.1) && (backToKw cpos (keywordEach [] X.env)).all (fun x => x.1.isSome) && decide ([e].length + ([] : List Keyword).length + (if ([] : List Keyword).isEmpty then 0 else 1) < 30)) = true := by rfl)
    (hline : (apos.endLine == cpos.line) = true := by rfl) (hs : starEach [e] X.env = (false, eval e X.env) :: starEach [] X.env := by rfl) (hpl : (backTo cpos (starEach [] X.env)).any (·.1) = false := by rfl)
    (hsw : swapsWith (.Call (.Attribute o "append" apos) [e] [] cpos) none pos.line X.env = pure false := by rfl) : JS J X (.Expr (.Call (.Attribute o "append" apos) [e] [] cpos) pos) (dApp i d) :=
  PS.imp (ps_expr (pe_bm PySem.F.plainAttrs_list PySem.F.slot_list_append PySem.F.type_list_append mt_append ho (pa_cons h pa_nil hs) hbase hfew hline hs hpl) hsw) fun E σ H ⟨W, ρ, S, N, ⟨⟨ds0, e0⟩, q⟩, r⟩ => by
    obtain ⟨a, vs, h1, h2, h3, h4⟩ := sim_ml S e0
    refine ⟨.ref a, h1, .inl ⟨rfl, vs, .inl (.inl h2)⟩, W, ρ, S, _, N.x, q, r.x, fun y ρ1 q1 W1 v H1 l1 S1 r1 => ?_⟩
    obtain ⟨ds, e1, hl, n⟩ := q1
    obtain ⟨a', ws, g1, g2, g3, g4⟩ := sim_ml S1 e1
    rw [h1] at g1
    cases g1
    refine ⟨a, ws, v, rfl, rfl, g2, by rw [g3.len]; exact hl, ?_⟩
    exact r.nx _ W1 σ _ n l1 (S1.write e1 h1 (g3.app (.cons r1 .nil)) (by rw [List.length_append, List.length_singleton]; omega))
/-! ### left.pop(e), left.pop() -/
def dPopI (i : Nat) (d : DE) : DE := fun ρ P X => (∃ ds, ρ[i]? = some (.ml ds)) ∧ d ρ (fun r ρ' => ∃ ds k j y, ρ'[i]? = some (.ml ds) ∧ r = .int k ∧ inB k = true ∧ ixN ds.length k = some j ∧ ds[j]? = some y ∧ P y (ρ'.set i (.ml (ds.eraseIdx j)))) X
theorem repL_erase {G : Gm} {W : Wd} : ∀ {vs : List V} {ds : List D} (j : Nat), RepL G W vs ds → RepL G W (vs.eraseIdx j) (ds.eraseIdx j)
  | _, _, _, .nil => .nil
  | _, _, 0, .cons _ t => t
  | _, _, j + 1, .cons h t => .cons h (repL_erase j t)
theorem je_popI {d : DE} (ho : PE X o (tVar i)) (h : JE J X e d) (hbase : attributeBase o "pop" X.env (eval o X.env) = eval o X.env := by rfl)
    (hfew : ((backTo cpos (starEach [e] X.env)).all (fun x => !x.1) && (backToKw cpos (keywordEach [] X.env)).all (fun x => x.1.isSome) && decide ([e].length + ([] : List Keyword).length + (if ([] : List Keyword).isEmpty then 0 else 1) < 30)) = true := by rfl)
    (hline : (apos.endLine == cpos.line) = true := by rfl) (hs : starEach [e] X.env = (false, eval e X.env) :: starEach [] X.env := by rfl) (hpl : (backTo cpos (starEach [] X.env)).any (·.1) = false := by rfl) : JE J X (.Call (.Attribute o "pop" apos) [e] [] cpos) (dPopI i d) :=
  PE.imp (pe_bm PySem.F.plainAttrs_list PySem.F.slot_list_pop PySem.F.type_list_pop mt_popAt ho (pa_cons h pa_nil hs) hbase hfew hline hs hpl) fun σ H Q ⟨W, ρ, S, P, X', ⟨⟨ds0, e0⟩, q⟩, x, k⟩ => by
    obtain ⟨a, vs, h1, h2, h3, h4⟩ := sim_ml S e0
    refine ⟨.ref a, h1, .inl ⟨rfl, vs, .inl (.inl h2)⟩, W, ρ, S, _, X', q, x, fun y ρ1 q1 W1 v H1 l1 S1 r1 => ?_⟩
    obtain ⟨ds, n, j, y', e1, rfl, hb, hj, hy, p⟩ := q1
    obtain ⟨a', ws, g1, g2, g3, g4⟩ := sim_ml S1 e1
    rw [h1] at g1
    cases g1
    cases r1
    obtain ⟨s1, s2, _, _⟩ := ixN_seq hj
    obtain ⟨w, hw, rw'⟩ := g3.get hy
    have hb := inB_iff.mp hb
    refine ⟨a, ws, n, j, w, rfl, rfl, g2, by omega, by omega, by rw [g3.len]; exact s1, hw, ?_⟩
    have hle : (ds.eraseIdx j).length ≤ sizeLine := Nat.le_trans (len_erase ds j) g4
    exact k y' _ p W1 w _ l1 (S1.write e1 h1 (repL_erase j g3) hle) rw'
def dPop (i : Nat) : DE := fun ρ P _ => ∃ ds y, ρ[i]? = some (.ml ds) ∧ ds[ds.length - 1]? = some y ∧ P y (ρ.set i (.ml ds.dropLast))
theorem repL_dl {G : Gm} {W : Wd} {vs : List V} {ds : List D} (r : RepL G W vs ds) : RepL G W vs.dropLast ds.dropLast := by
  rw [List.dropLast_eq_take, List.dropLast_eq_take, r.len]
  exact r.take _
theorem je_pop (ho : PE X o (tVar i)) (hbase : attributeBase o "pop" X.env (eval o X.env) = eval o X.env := by rfl) (hline : (apos.endLine == cpos.line) = true := by rfl) : JE J X (.Call (.Attribute o "pop" apos) [] [] cpos) (dPop i) :=
  PE.imp (pe_bm0 PySem.F.plainAttrs_list PySem.F.slot_list_pop PySem.F.type_list_pop mt_pop ho hbase hline) fun σ H Q ⟨W, ρ, S, P, X', ⟨ds, y, e0, hy, p⟩, x, k⟩ => by
    obtain ⟨a, vs, h1, h2, h3, h4⟩ := sim_ml S e0
    obtain ⟨w, hw, rw'⟩ := h3.get hy
    refine ⟨.ref a, h1, .inl ⟨rfl, vs, .inl (.inl h2)⟩, a, vs, w, rfl, rfl, h2, by rw [h3.len]; exact hw, ?_⟩
    exact k y _ p W w _ .rfl' (S.write e0 h1 (repL_dl h3) (by rw [List.length_dropLast]; omega)) rw'
/-! ### found[k] = v -/
def dStI (i : Nat) (dv dk : DE) : DS := fun ρ N => dv ρ (fun y ρ1 => (∃ ds, ρ1[i]? = some (.ml ds)) ∧ dk ρ1 (fun r ρ' => ∃ ds k j, ρ'[i]? = some (.ml ds) ∧ r = .int k ∧ ixN ds.length k = some j ∧ N.nx (ρ'.set i (.ml (ds.set j y)))) N.x) N.x
theorem js_stI {b : Expr} {dv dk : DE} {tpos : Pos} (ho : PE X o (tVar i)) (hv : JE J X e dv) (hk : JE J X b dk)
    (ha : ∀ v, assign (.Subscript o b tpos) X.env v = (do
      let ov ← holding [v] (eval o X.env)
      let iv ← holding [v, ov] (eval b X.env)
      standAt tpos
      holding [v, ov, iv] (setItem ov iv v)
      release [v, ov, iv] []) := by intro _; rfl)
    (hs : swapsWithSole [.Subscript o b tpos] e pos.line X.env = pure false := by rfl) (hw : swappedStores [.Subscript o b tpos] e X.env = pure none := by rfl)
    (h1 : (assignEach [.Subscript o b tpos] X.env).map (·.2) = [assign (.Subscript o b tpos) X.env] := by rfl) : JS J X (.Assign [.Subscript o b tpos] e pos) (dStI i dv dk) :=
  PS.imp (ps_asg hv (pg_sub ho hk set_list ha) hs hw h1) fun E σ H ⟨W, ρ, S, N, q, r⟩ => by
    refine ⟨W, ρ, S, _, N.x, q, r.x, fun y ρ1 q1 W1 v H1 l1 S1 r1 => ?_⟩
    obtain ⟨⟨ds0, e0⟩, q1⟩ := q1
    obtain ⟨a, vs, g1, g2, g3, g4⟩ := sim_ml S1 e0
    refine ⟨.ref a, g1, W1, ρ1, S1, _, N.x, q1, (r.mono l1).x, fun n ρ2 q2 W2 w H2 l2 S2 r2 => ?_⟩
    obtain ⟨ds, k, j, e1, rfl, hj, n⟩ := q2
    obtain ⟨a', ws, f1, f2, f3, f4⟩ := sim_ml S2 e1
    rw [g1] at f1
    cases f1
    cases r2
    refine ⟨a, ws, k, j, rfl, rfl, f2, by rw [f3.len]; exact hj, ?_⟩
    exact r.nx _ W2 σ _ n (l1.trans l2) (S2.write e1 g1 (f3.set (r1.mono l2) j) (by rw [List.length_set]; exact f4))
/-! ### found[k] += v -/
theorem get_list : PGet X (rIxL X.K) := by
  intro pins s σ H x y v u Q I rx ry h
  obtain ⟨p, xs, k, z, rfl, rfl, hq, he, q⟩ := h
  cases rx
  obtain ⟨t, rfl⟩ := ry
  obtain ⟨its, r, pl, hz⟩ := I.list hq
  obtain ⟨j, h1, h2, h3, h4, h5⟩ := atI_get he
  obtain ⟨w, ew, rw'⟩ := r.get h2
  have hl := r.length
  have hn := line63
  have fin : EP X pins σ Q w s := ⟨z, H, I, rw', q⟩
  by_cases h0 : 0 ≤ k
  · have hj : k.toNat = j := by
      rw [seqIndex_of h0 h5] at h1
      exact Option.some.inj h1
    exact wpAny_getItem_list pl.isList h0 (by omega) (by rw [hj]; simpa using ew) fin
  · have hj : (k + (its.toArray.size : Int)).toNat = j := by
      rw [seqIndex_neg (by omega) h4] at h1
      rw [List.size_toArray, ← hl]
      exact Option.some.inj h1
    exact wpAny_getItem_list_neg pl.isList (by omega) (by rw [List.size_toArray] <;> omega) (by omega) (by rw [hj]; simpa using ew) fin
def dAugI (i : Nat) (f : Int → Int → Int) (dk dv : DE) : DS := fun ρ N => (∃ ds, ρ[i]? = some (.ml ds)) ∧ dk ρ (fun r ρ1 => ∃ ds k x, ρ1[i]? = some (.ml ds) ∧ r = .int k ∧ L2.atI ds k = some (.int x) ∧
  dv ρ1 (fun r2 ρ2 => ∃ ds2 y j, ρ2[i]? = some (.ml ds2) ∧ r2 = .int y ∧ ixN ds2.length k = some j ∧ N.nx (ρ2.set i (.ml (ds2.set j (.int (f x y)))))) N.x) N.x
theorem js_augI {b : Expr} {dv dk : DE} {tpos : Pos} {op : Operator} {f : Int → Int → Int} (C : Ctx X J) (hp : PIp X op (ipI f)) (ho : PE X o (tVar i)) (hk : JE J X b dk) (hv : JE J X e dv)
    (ha : ∀ ov iv new, augStore b ov iv new = (do holding [new, ov, iv] (setItem ov iv new); release [new, ov, iv] []; pure .next) := by intros; rfl) : JS J X (.AugAssign (.Subscript o b tpos) op e pos) (dAugI i f dk dv) :=
  PS.imp (ps_augS ho hk get_list hv hp set_list ha) fun E σ H ⟨W, ρ, S, N, ⟨⟨ds0, e0⟩, q⟩, r⟩ => by
    obtain ⟨a, vs, g1, g2, g3, g4⟩ := sim_ml S e0
    refine ⟨.ref a, g1, W, ρ, S, _, N.x, q, r.x, fun n ρ1 q1 W1 w H1 l1 S1 r1 => ?_⟩
    obtain ⟨ds, k, x, e1, rfl, hx, q1⟩ := q1
    obtain ⟨a', ws, f1, f2, f3, f4⟩ := sim_ml S1 e1
    rw [g1] at f1
    cases f1
    cases r1
    obtain ⟨z, hz, rz⟩ := atI_rep f3 hx
    cases rz
    refine ⟨a, ws, k, .int x, rfl, rfl, .inl (.inl f2), hz, W1, ρ1, S1, _, N.x, q1, (r.mono l1).x, fun y ρ2 q2 W2 v2 H2 l2 S2 r2 => ?_⟩
    obtain ⟨ds2, y, j, e2, rfl, hj, n⟩ := q2
    obtain ⟨a', us, p1, p2, p3, p4⟩ := sim_ml S2 e2
    rw [g1] at p1
    cases p1
    cases r2
    refine ⟨x, y, rfl, rfl, a, us, k, j, rfl, rfl, p2, by rw [p3.len]; exact hj, ?_⟩
    exact r.nx _ W2 σ _ n (l1.trans l2) (S2.write e2 g1 (p3.set (.int _) j) (by rw [List.length_set]; exact p4))
end
end DL

/-! DL: what is never reached, chains, is, op=, range by steps, two fors, keywords. -/
namespace DL
open PySem PySem.Spec PyProof.Rows L2

/-! ### what is never reached -/
section
variable {J : Jc} {X : Cx}
theorem js_dead {st : Stmt} : JS J X st (fun _ _ => False) := ⟨fun _ _ _ _ _ _ ⟨_, _, _, _, q, _⟩ => q.elim⟩
theorem jss_dead {st : List Stmt} : JSs J X st (fun _ _ => False) := ⟨fun _ _ _ _ _ _ ⟨_, _, _, _, q, _⟩ => q.elim⟩
theorem je_dead {e : Expr} : JE J X e (fun _ _ _ => False) := ⟨fun _ _ _ _ _ _ ⟨_, _, _, _, _, q, _⟩ => q.elim⟩
theorem jt_dead {e : Expr} : JT J X e (fun _ _ _ => False) := ⟨fun _ _ _ _ _ _ ⟨_, _, _, _, _, q, _⟩ => q.elim⟩

/-! ### chains -/
variable {pos : Pos} {σ : L2.St} {H : Hp} {a b c : Expr} {d1 d2 d3 : DB} {f g h : PuF}
theorem ch_core {r r' : R2} {o o' : D → D → Option D} (ok : OpOk J.G r o) (ok' : OpOk J.G r' o') {Q : VK} (h : tE J (dCh o o' d1 d2 d3) σ H Q) : tChain r r' (tB J d1) (tB J d2) (tB J d3) σ H Q := by
  obtain ⟨W, ρ, S, P, X, hd, hx, k⟩ := h
  refine ⟨W, ρ, S, _, X, hd, hx, fun b1 ρ1 q1 W1 v1 H1 l1 S1 r1 => ?_⟩
  refine ⟨W1, ρ1, S1, _, X, q1, hx.mono l1, fun b2 ρ2 q2 W2 v2 H2 l2 S2 r2 => ?_⟩
  obtain ⟨x, y, c, e1, e2, e3, p⟩ := q2
  refine ok W2 H2 v1 v2 x y (.bl c) _ S2.sub (S2.rdH (r1.mono l2) e1) (S2.rdH r2 e2) e3 fun W3 v H3 g rr => ?_
  obtain ⟨S3, l3⟩ := S2.grow g
  cases rr
  refine ⟨c, rfl, ?_⟩
  cases c with
  | false =>
    rw [if_neg Bool.false_ne_true] at p ⊢
    exact k _ ρ2 p W3 _ H3 ((l1.trans l2).trans l3) S3 (.bl _)
  | true =>
    rw [if_pos rfl] at p ⊢
    refine ⟨W3, ρ2, S3, _, X, p, hx.mono ((l1.trans l2).trans l3), fun b3 ρ3 q3 W4 v4 H4 l4 S4 r4 => ?_⟩
    obtain ⟨y', z, r, e4, e5, e6, p6⟩ := q3
    refine ok' W4 H4 v2 v4 y' z r Q S4.sub (S4.rdH (r2.mono (l3.trans l4)) e4) (S4.rdH r4 e5) e6 fun W5 v5 H5 g5 rr5 => ?_
    obtain ⟨S5, l5⟩ := S4.grow g5
    exact k _ ρ3 p6 W5 _ H5 ((((l1.trans l2).trans l3).trans l4).trans l5) S5 rr5
theorem dCh_p {o o' : D → D → Option D} {ρ : Env} {P : D → Env → Prop} {X : DX} (q : pu (p3 o o' f g h) ρ P X) : dCh o o' (pb f) (pb g) (pb h) ρ P X := by
  obtain ⟨d, e, p⟩ := q
  unfold p3 at e
  cases e1 : f ρ with
  | none => rw [e1] at e; cases e
  | some x =>
    cases e2 : g ρ with
    | none => rw [e1, e2] at e; cases e
    | some y =>
      rw [e1, e2] at e
      have e : (match o x y with
        | some (.bl true) => (h ρ).bind fun z => o' y z
        | some (.bl false) => some (.bl false)
        | _ => none) = some d := e
      refine ⟨⟨x, e1⟩, fun b1 h1 => ⟨⟨y, e2⟩, fun b2 h2 => ?_⟩⟩
      split at e
      · rename_i e3
        refine ⟨x, y, true, h1.trans e1, h2.trans e2, e3, ?_⟩
        rw [if_pos rfl]
        cases e4 : h ρ with
        | none => rw [e4] at e; cases e
        | some z =>
          rw [e4] at e
          exact ⟨⟨z, e4⟩, fun b3 h3 => ⟨y, z, d, h2.trans e2, h3.trans e4, e, p⟩⟩
      · rename_i e3
        cases e
        refine ⟨x, y, false, h1.trans e1, h2.trans e2, e3, ?_⟩
        rw [if_neg Bool.false_ne_true]
        exact p
      · cases e
theorem je_ch {op op' : CmpOp} {r r' : R2} {o o' : D → D → Option D} (ho : OpR X (compareOp op) r) (ok : OpOk J.G r o) (ho' : OpR X (compareOp op') r') (ok' : OpOk J.G r' o') (ha : JB J X a d1) (hb : JB J X b d2) (hc : JB J X c d3)
    (hm : lastMarks [op, op'] [b, c] = false := by with_unfolding_all rfl) : JE J X (.Compare a [op, op'] [b, c] pos) (dCh o o' d1 d2 d3) := PE.imp (pe_chain ho ho' ha hb hc hm) fun σ H Q q => ch_core ok ok' q
theorem je_chP {op op' : CmpOp} {r r' : R2} {o o' : D → D → Option D} (ho : OpR X (compareOp op) r) (ok : OpOk J.G r o) (ho' : OpR X (compareOp op') r') (ok' : OpOk J.G r' o') (ha : JB J X a (pb f)) (hb : JB J X b (pb g)) (hc : JB J X c (pb h))
    (hm : lastMarks [op, op'] [b, c] = false := by with_unfolding_all rfl) : JE J X (.Compare a [op, op'] [b, c] pos) (pu (p3 o o' f g h)) := JE.imp (je_ch ho ok ho' ok' ha hb hc hm) fun ρ P X q => dCh_p q
theorem jt_ch {op op' : CmpOp} {r r' : R2} {o o' : D → D → Option D} (ho : OpR X (compareOp op) r) (ok : OpOk J.G r o) (ho' : OpR X (compareOp op') r') (ok' : OpOk J.G r' o') (ha : JB J X a d1) (hb : JB J X b d2) (hc : JB J X c d3)
    (hm : lastMarks [op, op'] [b, c] = false := by with_unfolding_all rfl) : JT J X (.Compare a [op, op'] [b, c] pos) (dTst (dCh o o' d1 d2 d3)) := PT.imp (pt_chain ho ho' ha hb hc hm) fun σ H Q q => by
  obtain ⟨W, ρ, S, P, X, hd, hx, k⟩ := q
  exact ch_core ok ok' ⟨W, ρ, S, _, X, hd, hx, fun c ρ1 q1 W1 v1 H1 l1 S1 r1 => by
    obtain ⟨b, rfl, p⟩ := q1
    cases r1
    exact ⟨b, rfl, k b ρ1 p W1 H1 l1 S1⟩⟩
theorem jt_chP {op op' : CmpOp} {r r' : R2} {o o' : D → D → Option D} (ho : OpR X (compareOp op) r) (ok : OpOk J.G r o) (ho' : OpR X (compareOp op') r') (ok' : OpOk J.G r' o') (ha : JB J X a (pb f)) (hb : JB J X b (pb g)) (hc : JB J X c (pb h))
    (hm : lastMarks [op, op'] [b, c] = false := by with_unfolding_all rfl) : JT J X (.Compare a [op, op'] [b, c] pos) (pt (p3 o o' f g h)) := JT.imp (jt_ch ho ok ho' ok' ha hb hc hm) fun ρ P X ⟨b, e, p⟩ => dCh_p ⟨_, e, b, rfl, p⟩

/-! ### is -/
def D.isN : D → Bool
  | .non => true
  | _ => false
def oIs (neg : Bool) : D → D → Option D
  | a, .non => some (.bl (neg != a.isN))
  | .bl a, .bl b => some (.bl (neg != decide (a = b)))
  | _, _ => none
def rIsA : R2 := fun x y H Q => (y = .non ∧ Q (.bl (decide (x = .non))) H) ∨ ∃ a b, x = V.bl a ∧ y = .bl b ∧ Q (.bl (decide (a = b))) H
def rNotA : R2 := fun x y H Q => (y = .non ∧ Q (.bl (!decide (x = .non))) H) ∨ ∃ a b, x = V.bl a ∧ y = .bl b ∧ Q (.bl (!decide (a = b))) H
theorem or_is : OpR X (compareOp .Is) rIsA := op_isN.or op_is_bl
theorem or_isnot : OpR X (compareOp .IsNot) rNotA := op_notN.or op_isnot_bl
theorem rep_non {G : Gm} {W : Wd} {H : Hp} {v : V} {d : D} (r : RepH G W H v d) : decide (v = V.non) = d.isN := by
  cases r with
  | rep r => cases r <;> first | rfl | exact decide_eq_false (fun z => nomatch z)
  | lst _ _ _ => exact decide_eq_false (fun z => nomatch z)
  | dct _ _ _ => exact decide_eq_false (fun z => nomatch z)
theorem ok_is {G : Gm} : OpOk G rIsA (oIs false) := by
  intro W H x y a b c Q s r1 r2 e k
  unfold oIs at e
  split at e
  · cases e
    have z := r2.non_
    subst z
    refine .inl ⟨rfl, ?_⟩
    rw [rep_non r1]
    have : (false != a.isN) = a.isN := by cases a.isN <;> rfl
    rw [this] at k
    exact k W _ H .rfl' (.bl _)
  · cases e
    have z1 := r1.bl_
    have z2 := r2.bl_
    subst z1 z2
    rename_i a b
    refine .inr ⟨a, b, rfl, rfl, ?_⟩
    have : (false != decide (a = b)) = decide (a = b) := by cases decide (a = b) <;> rfl
    rw [this] at k
    exact k W _ H .rfl' (.bl _)
  · cases e
theorem ok_isnot {G : Gm} : OpOk G rNotA (oIs true) := by
  intro W H x y a b c Q s r1 r2 e k
  unfold oIs at e
  split at e
  · cases e
    have z := r2.non_
    subst z
    refine .inl ⟨rfl, ?_⟩
    rw [rep_non r1]
    have : (true != a.isN) = !a.isN := by cases a.isN <;> rfl
    rw [this] at k
    exact k W _ H .rfl' (.bl _)
  · cases e
    have z1 := r1.bl_
    have z2 := r2.bl_
    subst z1 z2
    rename_i a b
    refine .inr ⟨a, b, rfl, rfl, ?_⟩
    have : (true != decide (a = b)) = !decide (a = b) := by cases decide (a = b) <;> rfl
    rw [this] at k
    exact k W _ H .rfl' (.bl _)
  · cases e

/-! ### name op= e, the name a value -/
def dAugV (i : Nat) (op : D → D → Option D) (d : DB) : DS := fun ρ N => ∃ x, rdv i ρ = some x ∧ d ρ (fun b ρ' => ∃ y c, deref ρ' b = some y ∧ op x y = some c ∧ N.nx (ρ'.set i (.val c))) N.x
theorem js_augV {i : Nat} {x : Str} {e : Expr} {d : DB} {o : Operator} {rr : TIp} {op : D → D → Option D} {p' : Pos} (C : Ctx X J) (ho : PIp X o rr) (ok : OpOk J.G rr op) (h : JB J X e d) (hi : X.N[i]? = some x) (hx : Loc X.env.scope x)
    (hf : X.fn x = true ∨ X.env.scope.names.lookup x = some .local := by first | exact .inl rfl | exact .inr rfl | assumption) : JS J X (.AugAssign (.Name x p') o e pos) (dAugV i op d) :=
  PS.imp (ps_aug C.nd hi hx h ho hf) fun E σ H ⟨W, ρ, S, N, ⟨x, ex, q⟩, r⟩ => by
    unfold rdv at ex
    split at ex
    · rename_i z hz
      cases ex
      obtain ⟨v, e1, e2⟩ := S.slot i _ hz
      refine ⟨v, e1, W, ρ, S, _, N.x, q, r.x, fun b ρ' q' W' w H' l S' rb => ?_⟩
      obtain ⟨y, c, e3, e4, n⟩ := q'
      refine ok W' H' v w x y c _ S'.sub (.rep (e2.mono l)) (S'.rdH rb e3) e4 fun W2 u H2 g rr => ?_
      obtain ⟨S2, l2⟩ := S'.grow g
      exact r.nx _ W2 _ H2 n (l.trans l2) (S2.setv rr)
    · cases ex
def oAddI : D → D → Option D
  | .int i, .int j => some (.int (i + j))
  | _, _ => none
def oSubI : D → D → Option D
  | .int i, .int j => some (.int (i - j))
  | _, _ => none
theorem ok_ipI {G : Gm} {f : Int → Int → Int} {op : D → D → Option D} (h : ∀ a b c, op a b = some c → ∃ i j, a = .int i ∧ b = .int j ∧ c = .int (f i j)) : OpOk G (ipI f) op := by
  intro W H x y a b c Q s r1 r2 e k
  obtain ⟨i, j, rfl, rfl, rfl⟩ := h _ _ _ e
  have z1 := r1.int_
  have z2 := r2.int_
  subst z1 z2
  exact ⟨i, j, rfl, rfl, k W _ H .rfl' (.int _)⟩
theorem ok_addI {G : Gm} : OpOk G (ipI fun i j => i + j) oAddI := ok_ipI fun a b c e => by
  unfold oAddI at e
  split at e
  · cases e; exact ⟨_, _, rfl, rfl, rfl⟩
  · cases e
theorem ok_subI {G : Gm} : OpOk G (ipI fun i j => i - j) oSubI := ok_ipI fun a b c e => by
  unfold oSubI at e
  split at e
  · cases e; exact ⟨_, _, rfl, rfl, rfl⟩
  · cases e
end
end DL

/-! DL: keywords, raise, two fors, ranges by steps. -/
namespace DL
open PySem PySem.Spec PyProof.Rows L2

/-! ### keywords -/
def pickL {α : Type} : List Nat → List α → List α
  | [], _ => []
  | j :: js, xs => match xs[j]? with
    | some x => x :: pickL js xs
    | none => pickL js xs
theorem RepL.none {G : Gm} {W : Wd} {vs : List V} {ds : List D} (r : RepL G W vs ds) {j : Nat} (h : ds[j]? = none) : vs[j]? = none := by
  rw [List.getElem?_eq_none_iff] at h ⊢
  rw [r.len]; exact h
theorem RepL.pick {G : Gm} {W : Wd} {vs : List V} {ds : List D} (r : RepL G W vs ds) : ∀ js : List Nat, RepL G W (pickL js vs) (pickL js ds)
  | [] => .nil
  | j :: js => by
    unfold pickL
    cases e : ds[j]? with
    | none =>
      rw [r.none e]
      exact r.pick js
    | some d =>
      obtain ⟨y, h1, h2⟩ := r.get e
      rw [h1]
      exact .cons h2 (r.pick js)
theorem vals_pick {vs : List V} {us : List Value} (r : Vals vs us) : ∀ js : List Nat, Vals (pickL js vs) (pickL js us)
  | [] => .nil
  | j :: js => by
    unfold pickL
    cases e : vs[j]? with
    | none =>
      have : us[j]? = Option.none := by
        rw [List.getElem?_eq_none_iff] at e ⊢
        rw [← r.length]; exact e
      rw [this]
      exact vals_pick r js
    | some v =>
      obtain ⟨u, h1, h2⟩ := r.get e
      rw [h1]
      exact .cons h2 (vals_pick r js)
theorem kbn_of {K : PySem.W.Frag} {fd : FuncData} {ps : List Str} {n : Nat} {ks : List Str} {js : List Nat}
    (h : ∀ (us ws : List Value), us.length = n → ws.length = ks.length → bindArgs fd ⟨us, ks.zip ws⟩ = pure (ps.zip (pickL js (us ++ ws)))) : KBn K fd ps n ks (fun us ws => pickL js (us ++ ws)) (fun vs zs => pickL js (vs ++ zs)) :=
  ⟨fun s us ws _ h1 h2 => .of_eq (h us ws h1 h2), fun r1 r2 => vals_pick (r1.append r2) js⟩
theorem Fun.kbn {K : PySem.W.Frag} {x qual : Str} {st : Stmt} {f : Addr} {fd : FuncData} {ps : List Str} (F : Fun K x qual st f fd) (n : Nat) (ks : List Str) (js : List Nat)
    (h : ∀ (kV doc pm : Value) (an : Option Addr) (cdv ct : Value) (us ws : List Value), us.length = n → ws.length = ks.length → bindArgs (PySem.W.fnOf x qual (defArgs st) (defBody st) (defScope st) .none kV doc pm an cdv ct) ⟨us, ks.zip ws⟩ = pure (ps.zip (pickL js (us ++ ws)))) :
    KBn K fd ps n ks (fun us ws => pickL js (us ++ ws)) (fun vs zs => pickL js (vs ++ zs)) := by
  obtain ⟨oc, od, kV, doc, pm, an, cdv, ct, osl, rfl, lk, hcd⟩ := F.ex
  exact kbn_of (h kV doc pm an cdv ct)
section
variable {J : Jc} {X : Cx} {pos p kpos : Pos} {e : Expr} {es : List Expr} {kws : List Keyword} {n m k u : Nat} {x : Str} {f : Addr} {fd : FuncData} {qs ks : List Str} {js : List Nat} {sp : DSp} {das dks : List DB} {nm : Option Str}
abbrev JK (J : Jc) (X : Cx) (kws : List Keyword) (n : Nat) (d : DA) : Prop := PK X kws (tAr J n d)
theorem PK.imp {X : Cx} {e : List Keyword} {t u : TA} (h : PK X e t) (i : ∀ σ H Q, u σ H Q → t σ H Q) : PK X e u := ⟨fun p pins s σ H Q I q => h.run p pins s σ H Q I (i _ _ _ q)⟩
theorem jk_nil : JK J X [] 0 (dArgs []) := PK.imp pk_nil fun σ H Q ⟨W, ρ, S, P, X, q, x, r⟩ => r [] ρ q rfl W [] H .rfl' S .nil
theorem jk_cons {d : DB} {ds : List DB} (h : JB J X e d) (t : JK J X kws n (dArgs ds)) : JK J X (⟨nm, e, kpos⟩ :: kws) (n + 1) (dArgs (d :: ds)) := by
  refine PK.imp (pk_cons h t) fun σ H Q ⟨W, ρ, S, P, X, q, x, r⟩ => ?_
  refine ⟨W, ρ, S, _, X, q, x, fun b ρ1 q1 W1 v1 H1 l1 S1 r1 => ?_⟩
  refine ⟨W1, ρ1, S1, _, X, q1, x.mono l1, fun bs ρ2 q2 hl W2 vs H2 l2 S2 r2 => ?_⟩
  exact r (b :: bs) ρ2 q2 (by rw [List.length_cons, hl]) W2 (v1 :: vs) H2 (l1.trans l2) S2 (.cons (r1.mono l2) r2)
/-- settled keywords -/
theorem jkc_cons {f : PuF} {fs : List PuF} (h : JE J X e (pu f)) (t : JK J X kws n (dArgs (fs.map fun f => dV (pu f)))) : JK J X (⟨nm, e, kpos⟩ :: kws) (n + 1) (dArgs ((f :: fs).map fun f => dV (pu f))) := jk_cons (jv h) t
def dCallK (u : Nat) (sp : DSp) (js : List Nat) (das dks : List DB) : DE := fun ρ P X => dArgs das ρ (fun bs ρ1 => dArgs dks ρ1 (fun cs ρ2 => u ≤ fuelOf ρ2 ∧ ∃ ds es, vals bs = some ds ∧ vals cs = some es ∧ sp (pickL js (ds ++ es)) (fun r => P r (lowF u ρ2)) (fun c es => X c es (lowF u ρ2))) X) X
theorem callK_core {σ : L2.St} {H : Hp} {Q : VK} {l : Nat} (hjs : ∀ {α : Type} (xs : List α), xs.length = n + m → (pickL js xs).length = l) (h : tE J (dCallK u sp js das dks) σ H Q) : tCallN n m (liftSp J.G l u sp) (fun vs zs => pickL js (vs ++ zs)) J.E (tAr J n (dArgs das)) (tAr J m (dArgs dks)) σ H Q := by
  obtain ⟨W, ρ, S, P, X, hd, hx, k⟩ := h
  refine ⟨W, ρ, S, _, X, hd, hx, fun bs ρ1 q1 hl W1 vs H1 l1 S1 r1 => ?_⟩
  refine ⟨W1, ρ1, S1, _, X, q1, hx.mono l1, fun cs ρ2 q2 hl2 W2 zs H2 l2 S2 r2 => ?_⟩
  obtain ⟨hu, ds, es, e1, e2, p⟩ := q2
  have rr := (vals_rep r1 e1).mono l2
  have rz := vals_rep r2 e2
  have ra := (rr.app rz).pick js
  have z1 : vs.length = n := by rw [rr.len, vals_len e1]; exact hl
  have z2 : zs.length = m := by rw [rz.len, vals_len e2]; exact hl2
  refine ⟨z1, z2, hjs _ (by rw [List.length_append, z1, z2]), W2, _, _, _, S2.sub, S2.st, ra, S2.room hu, p, fun r W3 v H3 q kc rv => ?_, fun c xs W3 H3 d q kc er => ?_⟩
  · exact k r _ q W3 v H3 ((l1.trans l2).trans kc.le) (S2.call kc hu) rv
  · exact hx c xs _ q W3 H3 d ((l1.trans l2).trans kc.le) (S2.call kc hu) er
theorem je_callK {l : Nat} (C : Ctx X J) (F : FnG X.prog X.w X.K X.mg X.base k f fd qs (liftSp J.G l u sp)) (hr : Room k X.A) (hm : X.mg x = some (.ref f)) (hk : PySem.W.keepIn X.K (.ref f) = true) (hb : KBn X.K fd qs n ks (fun us ws => pickL js (us ++ ws)) (fun vs zs => pickL js (vs ++ zs))) (hg : Gl X x)
    (hjs : ∀ {α : Type} (xs : List α), xs.length = n + ks.length → (pickL js xs).length = l) (ha : JA J X (e :: es) n (dArgs das)) (hkw : JK J X kws ks.length (dArgs dks)) (hall : (backToKw pos (keywordEach kws X.env)).all (·.1.isSome) = true := by rfl) (hks : (backToKw pos (keywordEach kws X.env)).filterMap (·.1) = ks := by rfl)
    (hdb : (x == ("__debug__" : Str)) = false := by decide) (he : starEach (e :: es) X.env = (false, eval e X.env) :: starEach es X.env := by rfl)
    (hpl : ((backTo pos (starEach (e :: es) X.env)).any (·.1) || (backToKw pos (keywordEach kws X.env)).any (·.1.isNone)) = false := by rfl) :
    JE J X (.Call (.Name x p) (e :: es) kws pos) (dCallK u sp js das dks) :=
  PE.imp (pe_callGK F hr C.gd hg hm hk hb (passes_call C.tk (fun _ _ _ _ h => h)) ha hkw hall hks hdb he hpl) fun σ H Q h => callK_core hjs h
theorem je_callK0 {l : Nat} (C : Ctx X J) (F : FnG X.prog X.w X.K X.mg X.base k f fd qs (liftSp J.G l u sp)) (hr : Room k X.A) (hm : X.mg x = some (.ref f)) (hk : PySem.W.keepIn X.K (.ref f) = true) (hb : KBn X.K fd qs 0 ks (fun us ws => pickL js (us ++ ws)) (fun vs zs => pickL js (vs ++ zs))) (hg : Gl X x)
    (hjs : ∀ {α : Type} (xs : List α), xs.length = 0 + ks.length → (pickL js xs).length = l) (hkw : JK J X kws ks.length (dArgs dks)) (hall : (backToKw pos (keywordEach kws X.env)).all (·.1.isSome) = true := by rfl) (hks : (backToKw pos (keywordEach kws X.env)).filterMap (·.1) = ks := by rfl)
    (hdb : (x == ("__debug__" : Str)) = false := by decide)
    (hpl : ((backTo pos (starEach [] X.env)).any (·.1) || (backToKw pos (keywordEach kws X.env)).any (·.1.isNone)) = false := by rfl) :
    JE J X (.Call (.Name x p) [] kws pos) (dCallK u sp js [] dks) :=
  PE.imp (pe_callGK0 F hr C.gd hg hm hk hb (passes_call C.tk (fun _ _ _ _ h => h)) hkw hall hks hdb hpl) fun σ H Q h => by
    have z := callK_core (n := 0) (das := []) hjs h
    obtain ⟨W, ρ, S, P, X, hd, hx, k⟩ := z
    exact k [] ρ hd rfl W [] H .rfl' S .nil
end

/-! ### raise -/
section
variable {J : Jc} {X : Cx} {pos p p2 : Pos} {m x : Str} {j c : Nat}
def dRaise (c : Nat) : DS := fun _ N => N.ex c []
/-- the facts of an own error without a body of its own -/
structure ErrT (X : Cx) (G : Gm) (x : Str) (c : Nat) : Prop where
  xP : PySem.W.excIn X.K (G.cA c) [.type "ValueError", .type "Exception", .type "BaseException", .type "object"] "ValueError.__new__" = true
  gP : X.mg x = some (.ref (G.cA c))
  kP : PySem.W.keepIn X.K (.ref (G.cA c)) = true
  bP : PySem.W.subIn X.K (.ref (G.cA c)) (.type "BaseException") = some true
  tP : PySem.W.typeIn X.K (.ref (G.cA c)) = some (.type "type")
  fl : G.fl c = []
theorem js_raise {cpos : Pos} (C : Ctx X J) (T : ErrT X J.G x c) (hg : Gl X x) (hdb : (x == ("__debug__" : Str)) = false := by decide) : JS J X (.Raise (some (.Call (.Name x p) [.Constant (.str m) j p2] [] cpos)) none pos) (dRaise c) :=
  PS.imp (ps_raise C.calm C.tk (pmk_own PySem.F.excBase_ValueError T.xP T.gP T.kP (raises_own T.bP T.tP) hg hdb)) fun E σ H ⟨W, ρ, S, N, q, r⟩ => r.ex c [] W H none q .rfl' S.fin (.e0 T.fl)
end

/-! ### ranges by steps -/
def rngOf3 : List D → Option (List D)
  | [.int i, .int j, .int c] => if (decide (c ≠ 0) && decide (c.natAbs < 1073741824) && Builtin.Range.small i j c) && decide ((Builtin.Range.rangeSize i j c).toNat ≤ sizeLine) && decide (0 ≤ Builtin.Range.rangeSize i j c) then some (rngC i c (Builtin.Range.rangeSize i j c).toNat) else none
  | _ => none
def dRg3 (das : List DB) : DI := fun ρ P X => dArgs das ρ (fun bs ρ1 => ∃ ds c, vals bs = some ds ∧ rngOf3 ds = some c ∧ P c ρ1) X
section
variable {J : Jc} {X : Cx} {pos p : Pos} {tg a b c : Expr}
theorem ji_rg3 {das : List DB} (hg : Gl X "range") (hm : X.mg "range" = none) (ha : JA J X [a, b, c] 3 (dArgs das)) (hs : starEach [a, b, c] X.env = (false, eval a X.env) :: starEach [b, c] X.env := by rfl) (hpl : (backTo pos (starEach [b, c] X.env)).any (·.1) = false := by rfl) :
    JI J X tg (.Call (.Name "range" p) [a, b, c] [] pos) (dRg3 das) := PI.imp (pi_range3 hg hm ha hs hpl) fun σ H R ⟨W, ρ, S, P, X', q, x, k⟩ => by
  refine ⟨W, ρ, S, _, X', q, x, fun bs ρ1 q1 hl W1 vs H1 l1 S1 r1 => ?_⟩
  obtain ⟨ds, c, e1, e2, n⟩ := q1
  have rr := vals_rep r1 e1
  unfold rngOf3 at e2
  split at e2
  · rename_i i j c
    split at e2
    · rename_i hc
      cases e2
      simp only [Bool.and_eq_true, decide_eq_true_eq] at hc
      obtain ⟨⟨⟨⟨h1, h2⟩, h3⟩, h4⟩, h5⟩ := hc
      cases rr with
      | cons ra rr =>
        cases rr with
        | cons rb rr =>
          cases rr with
          | cons rc rr =>
            cases rr
            cases ra
            cases rb
            cases rc
            exact ⟨i, j, c, _, rfl, ⟨h1, h2, h3, by omega⟩, k _ ρ1 n W1 H1 _ l1 S1 itD_rngC (by rw [rngC_len]; exact h4)⟩
    · cases e2
  · cases e2
end
end DL

/-! DL: comprehensions with two fors. -/
namespace DL
open PySem PySem.Spec PyProof.Rows L2

def dCLs (vs : List Nat) (g : TgF) (tt : DT) (te : DE) : List D → List D → Env → (List D → Env → Prop) → Prop
  | [], acc, ρ, P => P acc ρ
  | x :: xs, acc, ρ, P => ∃ ρ2, g x ρ = some ρ2 ∧ tt ρ2 (fun b ρ3 => if b = true then te ρ3 (fun y ρ4 => acc.length < sizeLine ∧ dCLs vs g tt te xs (acc ++ [y]) (wipeE vs ρ4) P) (fun _ _ _ => False) else dCLs vs g tt te xs acc (wipeE vs ρ3) P) (fun _ _ _ => False)
def dCL2 (vs : List Nat) (g : TgF) (tt : DT) (di1 : DI) (vs1 : List Nat) (g1 : TgF) (tt1 : DT) (te : DE) : List D → List D → Env → (List D → Env → Prop) → Prop
  | [], acc, ρ, P => P acc ρ
  | x :: xs, acc, ρ, P => ∃ ρ2, g x ρ = some ρ2 ∧ tt ρ2 (fun b ρ3 => if b = true then di1 ρ3 (fun ys ρ4 => dCLs vs1 g1 tt1 te ys acc (wipeE vs1 ρ4) (fun acc' ρ5 => dCL2 vs g tt di1 vs1 g1 tt1 te xs acc' (wipeE vs ρ5) P)) (fun _ _ _ => False)
      else dCL2 vs g tt di1 vs1 g1 tt1 te xs acc (wipeE vs ρ3) P) (fun _ _ _ => False)
def dComp2 (di : DI) (vs : List Nat) (g : TgF) (tt : DT) (di1 : DI) (vs1 : List Nat) (g1 : TgF) (tt1 : DT) (te : DE) : DF := fun ρ P X => di ρ (fun xs ρ1 => okW vs ρ1 = true ∧ dCL2 vs g tt di1 vs1 g1 tt1 te xs [] (wipeE vs ρ1) (fun acc ρw => P acc (restE vs ρ1 ρw))) X
def tIA (J : Jc) (d : DI) : TI := fun σ H R => ∃ h0, tI (J.at h0) d σ H R
theorem wipe_sub {σ : L2.St} {vs vs1 : List Nat} (h : ∀ i ∈ vs1, i ∈ vs) : wipe (wipe σ vs1) vs = wipe σ vs := by
  apply List.ext_getElem?
  intro i
  rw [wipe_get', wipe_get', wipe_get']
  by_cases h1 : vs1.contains i = true
  · have h2 : vs.contains i = true := by
      simp only [List.contains_iff_mem] at h1 ⊢
      exact h i h1
    rw [h1, h2]
    simp only [if_true]
    cases σ[i]? <;> rfl
  · simp only [h1]
    rfl
section
variable {J : Jc} {X : Cx} {pos : Pos} {tg iter elt tg1 iter1 : Expr} {ifs ifs1 : List Expr} {scope : Scope} {own : List (Str × Nat)} {di di1 : DI} {vs vs1 : List Nat} {g g1 : TgF} {tt tt1 : DT} {te : DE}
theorem lc2_imp {σ : L2.St} {H : Hp} {Q : VK} (hv : ∀ i ∈ vs1, i ∈ vs) (h : tF J (dComp2 di vs g tt di1 vs1 g1 tt1 te) σ H Q) : tLc2 (tI J di) (tGA J vs g) (tTA J tt) (tIA J di1) (tGA J vs1 g1) (tTA J tt1) (tEA J te) vs vs1 σ H Q := by
  obtain ⟨W, ρ, S, P, X', q, x, k⟩ := h
  refine ⟨W, ρ, S, _, X', q, x, fun xs ρ1 q1 W1 H1 T l1 S1 it hz p np => ?_⟩
  obtain ⟨okw, q1⟩ := q1
  obtain ⟨f1, f2, f3⟩ := S1.free np
  have c0 : p ∉ cellsOf J.W0.S := by
    rcases S1.w0.s with z | z
    · rw [z]; exact fun m => nomatch m
    · rw [← z]; exact f2
  have w0 : J.W0.F p = none := by
    cases e : J.W0.F p with
    | none => rfl
    | some u => rw [S1.w0.f _ _ e] at f1; cases f1
  let Fin : List D → Env → Prop := fun acc ρw => P acc (restE vs ρ1 ρw)
  let St' : Nat → Hp → Prop := fun i H => ∃ W2 ρ2 acc ws, W1.le W2 ∧ Sim (J.at (upd J.H0 p (.lst ws))) W2 ρ2 (L2.wipe σ vs) H ∧ RepL J.G W2 ws acc ∧ acc.length ≤ sizeLine ∧ dCL2 vs g tt di1 vs1 g1 tt1 te (xs.drop i) acc ρ2 Fin
  refine ⟨fun i m H => m + i = xs.length ∧ St' i H, ⟨xs.length, rfl, W1, _, [], [], .rfl', (S1.wipe vs).guest np [], .nil, Nat.zero_le _, q1⟩, fun i m H hW => ?_⟩
  obtain ⟨hm, W2, ρ2, acc, ws, l2, S2, rl, hl, hd⟩ := hW
  have gc := S2.guestC c0
  have gf := S2.guestF w0
  by_cases hi : i < xs.length
  · refine .inr ⟨((it W2 H l2 S2.sub i).1 hi).1, St' (i + 1), fun H' n => ⟨m - 1, by omega, by omega, n⟩, fun y H' hy => ?_⟩
    obtain ⟨W3, gr, d, hd', rd'⟩ := ((it W2 H l2 S2.sub i).1 hi).2 y H' hy
    obtain ⟨S3, l3⟩ := S2.grow gr
    have ed : xs.drop i = d :: xs.drop (i + 1) := by
      rw [List.drop_eq_getElem_cons hi]
      rw [List.getElem?_eq_getElem hi] at hd'
      rw [Option.some.inj hd']
    rw [ed] at hd
    obtain ⟨ρ3, eg, ht⟩ := hd
    refine ⟨upd J.H0 p (.lst ws), W3, ρ2, d, ρ3, S3, rd', eg, fun σ2 S4 w4 => ?_⟩
    have w4' : L2.wipe σ2 vs = L2.wipe σ vs := w4.trans (wipe_idem σ vs)
    refine ⟨w4', upd J.H0 p (.lst ws), W3, ρ3, S4, _, _, ht, XOk.no, fun b ρ4 q4 W5 H5 l5 S5 => ?_⟩
    cases b with
    | false =>
      rw [if_neg Bool.false_ne_true] at q4 ⊢
      have S6 := S5.wipe vs
      rw [w4'] at S6
      exact ⟨W5, _, acc, ws, (l2.trans l3).trans l5, S6, rl.mono (l3.trans l5), hl, q4⟩
    | true =>
      rw [if_pos rfl] at q4 ⊢
      refine ⟨upd J.H0 p (.lst ws), W5, ρ4, S5, _, _, q4, XOk.no, fun ys ρ5 q5 W6 H6 T1 l6 S6 it1 hz1 => ?_⟩
      have l26 := ((l2.trans l3).trans l5).trans l6
      have rl6 := rl.mono ((l3.trans l5).trans l6)
      let Out1 : List D → Env → Prop := fun acc' ρ5 => dCL2 vs g tt di1 vs1 g1 tt1 te (xs.drop (i + 1)) acc' (wipeE vs ρ5) Fin
      let St1 : Nat → Hp → Prop := fun j H => ∃ W7 ρ7 acc ws, W6.le W7 ∧ Sim (J.at (upd J.H0 p (.lst ws))) W7 ρ7 (L2.wipe σ2 vs1) H ∧ RepL J.G W7 ws acc ∧ acc.length ≤ sizeLine ∧ dCLs vs1 g1 tt1 te (ys.drop j) acc ρ7 Out1
      refine ⟨fun j k H => k + j = ys.length ∧ St1 j H, ⟨ys.length, rfl, W6, _, acc, ws, .rfl', S6.wipe vs1, rl6, hl, q5⟩, fun j k' H hW1 => ?_⟩
      obtain ⟨hm1, W7, ρ7, acc1, ws1, l7, S7, rl7, hl7, hd7⟩ := hW1
      by_cases hj : j < ys.length
      · refine .inr ⟨((it1 W7 H l7 S7.sub j).1 hj).1, St1 (j + 1), fun H' n => ⟨k' - 1, by omega, by omega, n⟩, fun y1 H' hy1 => ?_⟩
        obtain ⟨W8, gr8, d8, hd8, rd8⟩ := ((it1 W7 H l7 S7.sub j).1 hj).2 y1 H' hy1
        obtain ⟨S8, l8⟩ := S7.grow gr8
        have ed8 : ys.drop j = d8 :: ys.drop (j + 1) := by
          rw [List.drop_eq_getElem_cons hj]
          rw [List.getElem?_eq_getElem hj] at hd8
          rw [Option.some.inj hd8]
        rw [ed8] at hd7
        obtain ⟨ρ8, eg8, ht8⟩ := hd7
        refine ⟨upd J.H0 p (.lst ws1), W8, ρ7, d8, ρ8, S8, rd8, eg8, fun σ3 S9 w9 => ?_⟩
        have w9' : L2.wipe σ3 vs1 = L2.wipe σ2 vs1 := w9.trans (wipe_idem σ2 vs1)
        refine ⟨w9', upd J.H0 p (.lst ws1), W8, ρ8, S9, _, _, ht8, XOk.no, fun b ρ9 q9 W10 H10 l10 S10 => ?_⟩
        cases b with
        | false =>
          rw [if_neg Bool.false_ne_true] at q9 ⊢
          have S11 := S10.wipe vs1
          rw [w9'] at S11
          exact ⟨W10, _, acc1, ws1, (l7.trans l8).trans l10, S11, rl7.mono (l8.trans l10), hl7, q9⟩
        | true =>
          rw [if_pos rfl] at q9 ⊢
          refine ⟨upd J.H0 p (.lst ws1), W10, ρ9, S10, _, _, q9, XOk.no, fun y5 ρ11 q11 W11 v11 H11 l11 S11 r11 => ?_⟩
          obtain ⟨hlt, q11⟩ := q11
          have gc11 := S11.guestC c0
          have gf11 := S11.guestF w0
          refine ⟨ws1, S11.guest_is gc11, by rw [rl7.len]; exact hlt, ?_⟩
          have S12 := (S11.guest_up (ws := ws1 ++ [v11]) gc11 gf11).wipe vs1
          rw [w9'] at S12
          exact ⟨W11, _, acc1 ++ [y5], ws1 ++ [v11], ((l7.trans l8).trans l10).trans l11, S12, (rl7.mono ((l8.trans l10).trans l11)).app (.cons r11 .nil), by rw [List.length_append, List.length_singleton]; omega, q11⟩
      · refine .inl ⟨(it1 W7 H l7 S7.sub j).2 (Nat.le_of_not_lt hj) (by omega), ?_⟩
        rw [List.drop_eq_nil_of_le (Nat.le_of_not_lt hj)] at hd7
        have S13 := S7.wipe vs
        rw [wipe_sub hv, w4'] at S13
        exact ⟨W7, _, acc1, ws1, l26.trans l7, S13, rl7, hl7, hd7⟩
  · refine .inl ⟨(it W2 H l2 S2.sub i).2 (Nat.le_of_not_lt hi) (by omega), ?_⟩
    rw [List.drop_eq_nil_of_le (Nat.le_of_not_lt hi)] at hd
    obtain ⟨H', rfl, n', S'⟩ := S2.unguest gc gf f3
    exact k acc _ hd W2 p ws H' (l1.trans l2) (sim_rest S1 S' l2 okw) n' rl hl
/-- [elt for tg in iter if .. for tg1 in iter1 if ..] -/
theorem jf_lc2 (C : Ctx X J) (hi : JI J X tg iter di) (ok : BlkOk X.N X.env.scope scope own) (hv : ∀ i ∈ vs1, i ∈ own.map (·.2))
    (hg : ∀ (s : Shared) (H : Hp) (A : Addr) (cl : List (Str × Addr)) (fp : List Addr) (h0 : Hp), PG (X.blk s H scope (compEnvC scope cl A X.env) fp) tg (tG (J.at h0) (own.map (·.2)) g))
    (ht : ∀ (s : Shared) (H : Hp) (A : Addr) (cl : List (Str × Addr)) (fp : List Addr) (h0 : Hp), PTs (X.blk s H scope (compEnvC scope cl A X.env) fp) ifs (tTs (J.at h0) tt))
    (hi1 : ∀ (s : Shared) (H : Hp) (A : Addr) (cl : List (Str × Addr)) (fp : List Addr) (h0 : Hp), JI (J.at h0) (X.blk s H scope (compEnvC scope cl A X.env) fp) tg1 iter1 di1)
    (hg1 : ∀ (s : Shared) (H : Hp) (A : Addr) (cl : List (Str × Addr)) (fp : List Addr) (h0 : Hp), PG (X.blk s H scope (compEnvC scope cl A X.env) fp) tg1 (tG (J.at h0) vs1 g1))
    (ht1 : ∀ (s : Shared) (H : Hp) (A : Addr) (cl : List (Str × Addr)) (fp : List Addr) (h0 : Hp), PTs (X.blk s H scope (compEnvC scope cl A X.env) fp) ifs1 (tTs (J.at h0) tt1))
    (he : ∀ (s : Shared) (H : Hp) (A : Addr) (cl : List (Str × Addr)) (fp : List Addr) (h0 : Hp), PE (X.blk s H scope (compEnvC scope cl A X.env) fp) elt (tE (J.at h0) te))
    (hs : ∀ x, foldedSetIterable iter X.env x = pure x := by intro _; rfl) (hs1 : ∀ env x, foldedSetIterable iter1 env x = pure x := by intro _ _; rfl) :
    JF J X (.ListComp elt [⟨tg, iter, ifs, 0⟩, ⟨tg1, iter1, ifs1, 0⟩] scope pos) (dComp2 di (own.map (·.2)) g tt di1 vs1 g1 tt1 te) :=
  PE.imp (pe_lc2 C.calm C.nd hi ok hv (fun s H A cl fp => ⟨fun pins s2 σ H v w Q I r ⟨h0, q⟩ => (hg s _ A cl fp h0).run pins s2 σ H v w Q I r q⟩) (fun s H A cl fp => ⟨fun pins s2 σ H Q I ⟨h0, q⟩ => (ht s _ A cl fp h0).run pins s2 σ H Q I q⟩)
    (fun s H A cl fp => ⟨fun pins s2 σ H R I ⟨h0, q⟩ => (hi1 s _ A cl fp h0).run pins s2 σ H R I q⟩)
    (fun s H A cl fp => ⟨fun pins s2 σ H v w Q I r ⟨h0, q⟩ => (hg1 s _ A cl fp h0).run pins s2 σ H v w Q I r q⟩) (fun s H A cl fp => ⟨fun pins s2 σ H Q I ⟨h0, q⟩ => (ht1 s _ A cl fp h0).run pins s2 σ H Q I q⟩)
    (fun s H A cl fp => ⟨fun pins s2 σ H Q I ⟨h0, q⟩ => (he s _ A cl fp h0).run pins s2 σ H Q I q⟩) hs hs1) fun σ H Q h => lc2_imp hv h
end
end DL

/-! DL: the law's catcher of errors, with a lambda. -/
namespace DL
open PySem PySem.Spec PyProof.Rows L2

/-! ### an exception that is caught and kept -/
theorem excH_ok {P : Program} {w : World} {H : Hp} {h : Heap} {cls : Value} {d : Option Addr} {a : Addr} {oe : Obj} {vs : Array Value} (he : h.get? a = some oe) (hz : Zc cls d oe) (hd : oe.data = .fields vs) : ObjOk P w H h a (ExcH cls d a) :=
  ⟨⟨oe, vs, he, hz, hd⟩, ⟨_, he⟩, fun h1 h2 z k => by
    obtain ⟨o, v, q1, q2, q3⟩ := z
    exact ⟨o, v, k _ q1, q2, q3⟩⟩
section
variable {X : Cx} {pins : List (Addr × Obj)} {σ : L2.St} {H : Hp} {sI s s' : Shared} {B : Heap}
/-- back on the ground, the exception known from now on -/
theorem landedX {a : Addr} {cls : Value} {d : Option Addr} {oe : Obj} {vs : Array Value} (I : L2.Inv X pins σ H sI) (nb : ∀ b o, sI.heap.get? b = some o → b ∉ frs X.stack → B.get? b = some o) (st : B.StaysIn s'.heap) (up : sI.heap.UpToSlots s'.heap) (os : s'.os = sI.os) (ag : AllBare s'.gens)
    (na : H a = none) (nB : B.get? a = none) (nf : a ∉ frs X.stack) (he : s'.heap.get? a = some oe) (hz : Zc cls d oe) (hd : oe.data = .fields vs) : L2.Inv X pins σ (upd H a (ExcH cls d a)) s' := by
  have nI : sI.heap.get? a = none := by
    cases e : sI.heap.get? a with
    | none => rfl
    | some o => rw [nb a o e nf] at nB; cases nB
  have ne : ∀ b o, sI.heap.get? b = some o → b ≠ a := fun b o e z => by rw [z, nI] at e; cases e
  have nfr : ∀ b ∈ frs X.stack, ∀ o, sI.heap.get? b = some o → ∃ sl, s'.heap.get? b = some { o with slots := sl } := fun b hb o e => by
    obtain ⟨_, o', e', hd⟩ := I.stack.mem hb
    rw [e] at e'; cases e'
    exact up b o e hd
  have hk := (I.inGround nb).kept st
  refine I.call' (ch := []) os
    ⟨fun b o e _ hb _ => st b o (nb b o e hb), fun b o e _ hb _ => nfr b hb o e, fun b o e n _ => by rw [upd_ne (ne b o e)]; exact n, fun b o e _ => by
      by_cases hb : b ∈ frs X.stack
      · obtain ⟨sl, q⟩ := nfr b hb o e
        exact ⟨_, q⟩
      · exact ⟨o, st b o (nb b o e hb)⟩, fun b xs e => by rw [upd_ne (ne_of_none e na)]; exact e, fun b o u e => by rw [upd_ne (ne_of_none e na)]; exact e, fun b ps e => ⟨#[], by rw [upd_ne (ne_of_none e na), e]; simp⟩⟩
    (fun b u e => ?_) ag (fun _ z => nomatch z)
  by_cases hb : b = a
  · subst hb
    rw [upd_same] at e
    cases e
    exact excH_ok he hz hd
  · rw [upd_ne hb] at e
    exact (hk b u e).stay (fun c v _ q => q) (fun c q => by rw [upd_ne (ne_of_none q na)]; exact q) fun c xs q => by rw [upd_ne (ne_of_none q na)]; exact q
theorem suiteX {a : Addr} (I : L2.Inv X pins σ H s) : L2.Inv (X.suite a (X.pn ++ pins)) [] σ H s :=
  ⟨I.ok.suite _ _, I.os, I.bare, I.base, I.loc, I.cell, I.free, I.freeC, fun p hp => I.pin p (by rw [List.append_nil] at hp; exact hp), I.hok, I.len⟩
theorem unsuiteX {a : Addr} {pn' : List (Addr × Obj)} (I : L2.Inv (X.suite a (X.pn ++ pins)) pn' σ H s) (ok : X.Ok) : L2.Inv X pins σ H s :=
  ⟨ok, I.os, I.bare, I.base, I.loc, I.cell, I.free, I.freeC, fun p hp => I.pin p (List.mem_append_left _ hp), I.hok, I.len⟩
end
/-- what the clause 'except x as n' wishes: the exception is one of x's, it is known from now on -/
def wKeep (K : PySem.W.Frag) (c : Value) (i : Nat) (ts : Addr → Value → Option Addr → TS) (D : Ends) : WX := fun cls d σ H =>
  PySem.W.exmOne K cls c = some true ∧ ∀ a, H a = none → ts a cls d { nx := fun σ' H' => D.nx (σ'.set i none) H', rt := D.rt, bk := fun σ' H' => D.bk (σ'.set i none) H', ct := fun σ' H' => D.ct (σ'.set i none) H' } (σ.set i (some (.ref a))) (upd H a (ExcH cls d a))
section
variable {X : Cx} {x n : Str} {c : Value} {i : Nat} {body suite : List Stmt} {b₀ : Stmt} {np pos pos' : Pos} {tb : WX → TS} {ts : Addr → Value → Option Addr → TS}
theorem ps_try_keep (hs : X.stack = X.env :: X.outer) (hf : X.env.frame = some X.env.locals) (hN : X.N.Nodup) (hi : X.N[i]? = some n) (hln : X.env.kindOf n = some .local) (hc : Names X x c)
    (hb : ∀ (W : WX) (pn : List (Addr × Obj)) (xe : Value → Shared → Prop), Takes (X.tr pn xe) W → PassesOwn (model X.prog X.w) X.A X.env xe → PSs (X.tr pn xe) body (tb W))
    (hsu : ∀ (a : Addr) (cls : Value) (d : Option Addr) (pn : List (Addr × Obj)), PSs (X.suite a pn) (b₀ :: suite) (ts a cls d)) :
    PS X (.Try body [.ExceptHandler (some (.Name x np)) (some n) (b₀ :: suite) pos'] [] [] pos) (fun D σ H => tb (wKeep X.K c i ts D) D σ H) := by
  refine ⟨fun pins s σ H D I h => ?_⟩
  have ok := I.ok
  have hfr : X.A.frames = some (X.env :: X.outer) := by rw [ok.frames, hs]
  have hloc : Loc X.env.scope n := .inl hln
  refine wpAny_Try_except ?_
  refine wpAny_mono ((hb (wKeep X.K c i ts D) (X.pn ++ pins) (fun e s₁ => wpAny (model X.prog X.w) X.A (noteFrame e X.env) (fun _ s₂ => wpAny (model X.prog X.w) X.A (setFlight e none) (fun _ s₃ =>
    wpAny (model X.prog X.w) X.A (handleBy e X.env [.ExceptHandler (some (.Name x np)) (some n) (b₀ :: suite) pos']) (SP X pins D) X.xe s₃) X.xe s₂) X.xe s₁) (fun u s' xx => ?_) PassesOwn.looking).run [] s σ H D (I.toTry _) h) (fun f s1 hsp => ?_) (fun e s1 he => he)
  · obtain ⟨a, B, sI, pins', σ', H', cls, d, rfl, J', nb, up, sky, na, os, ag, hb1, hyes⟩ := xx
    have J : L2.Inv X pins σ' H' sI := J'.ofTry ok
    have sky' : Sky B (X.env :: X.outer) a (Zc cls d) X.env.locals s'.heap := by rw [← hs]; exact sky
    show wpAny (model X.prog X.w) X.A (noteFrame (.ref a) X.env) _ _ _
    refine Sky.land Zc.steady hfr hf sky' fun h3 fl3 up3 => ?_
    have J3 : L2.Inv X pins σ' H' { s' with heap := h3 } := J.landed nb fl3.1 (up.trans up3) os ag
    obtain ⟨oe3, vs3, he3, hz3, hd3⟩ := fl3.there
    have notFr : ∀ {h : Heap} {o : Obj} {vs : Array Value}, h.FunFrames B (X.env :: X.outer) → h.get? a = some o → o.data = .fields vs → a ∉ frs (X.env :: X.outer) := fun {h o vs} ff e dd hm => by
      obtain ⟨_, o', e', hnf⟩ := ff.mem hm
      rw [e] at e'; cases e'
      exact hnf _ dd
    have nfr := notFr fl3.2.2.1 he3 hd3
    have nL : a ≠ X.env.locals := fun z => nfr (List.mem_filterMap.mpr ⟨X.env, List.mem_cons_self, by rw [hf, z]⟩)
    have nF : a ∉ X.fs := fun hm => by
      obtain ⟨e, he, q⟩ := List.mem_filterMap.mp hm
      exact nfr (List.mem_filterMap.mpr ⟨e, List.mem_cons_of_mem _ he, q⟩)
    have S3 := J3.suite he3 hd3 na nL nF
    refine wpAny_handleBy_cons (codeAny_handlers_test ?_) (by intro q; cases q)
    have LT : PySem.W.Looks (model X.prog X.w) h3 (typeOf (.ref a)) cls := fun A Q E s k q => wpAny_typeOf_ref (k _ _ he3) (by rw [hz3.1]; exact q)
    have LM := PySem.W.exm_one (M := model X.prog X.w) (J3.kIn) LT hb1
    have test : ∀ {Q : Value → Shared → Prop} {E : Value → Shared → Prop}, Q c { s' with heap := h3 } → wpAny (model X.prog X.w) (X.A.mark (some (.ref a))) (eval (.Name x np) X.env) Q E { s' with heap := h3 } := fun {Q E} q => by
      obtain ⟨hg, hdbg, hm | ⟨hm, hv, hnn⟩⟩ := hc
      · exact ld_glob (X := X.suite a ((a, oe3) :: (X.pn ++ pins))) S3 hg hm q hdbg
      · exact ld_blt (X := X.suite a ((a, oe3) :: (X.pn ++ pins))) S3 hg hm hv q hnn hdbg
    refine test (LM.here ?_)
    refine codeAny_handlers_suite_as ?_
    refine HandSPX.lands_againZ fl3 fun h4 fl4 up4 => ?_
    obtain ⟨oe4, vs4, he4, hz4, hd4⟩ := fl4.there
    have J4 : L2.Inv X pins σ' (upd H' a (ExcH cls d a)) { s' with heap := h4 } := landedX (s' := { s' with heap := h4 }) J nb fl4.1 ((up.trans up3).trans up4) os ag na fl4.2.1 (by rw [hs]; exact nfr) he4 hz4 hd4
    have S4 := suiteX (a := a) J4
    refine store_ok (X := X.suite a (X.pn ++ pins)) (v := .ref a) S4 hN hi hloc rfl (fun s5 S5 => ?_) (.inr hln)
    refine wpAny_mono ((hsu a cls d (X.pn ++ pins)).run [] s5 _ _ _ S5 (hyes a na)) (fun f s6 hsp => ?_) (fun _ _ z => False.elim z)
    have end_ : ∀ {σ6 : L2.St} {H6 : Hp} {Q : Shared → Prop}, L2.Inv (X.suite a (X.pn ++ pins)) [] σ6 H6 s6 → (∀ s7, L2.Inv X pins (σ6.set i none) H6 s7 → Q s7) →
        wpAny (model X.prog X.w) X.A (do bindName X.env n .none; unbindBehindTheSuite X.env n pos') (fun _ s7 => Q s7) X.xe s6 := fun {σ6 H6 Q} S6 hq => gone_ok (unsuiteX S6 ok) hN hi hln hq
    cases f with
    | next =>
      obtain ⟨σ6, H6, S6, q6⟩ := hsp
      exact end_ S6 fun s7 J7 => ⟨_, _, J7, q6⟩
    | brk =>
      obtain ⟨σ6, H6, S6, q6⟩ := hsp
      exact end_ S6 fun s7 J7 => ⟨_, _, J7, q6⟩
    | cont =>
      obtain ⟨σ6, H6, S6, q6⟩ := hsp
      exact end_ S6 fun s7 J7 => ⟨_, _, J7, q6⟩
    | ret u =>
      obtain ⟨v6, σ6, H6, S6, r6, q6⟩ := hsp
      exact end_ S6 fun s7 J7 => ⟨_, _, _, J7, r6, q6⟩
  · cases f with
    | next =>
      obtain ⟨σ', H', J', q⟩ := hsp
      exact wpAny_execs_nil ⟨σ', H', J'.ofTry ok, q⟩
    | brk =>
      obtain ⟨σ', H', J', q⟩ := hsp
      exact ⟨σ', H', J'.ofTry ok, q⟩
    | cont =>
      obtain ⟨σ', H', J', q⟩ := hsp
      exact ⟨σ', H', J'.ofTry ok, q⟩
    | ret u =>
      obtain ⟨v, σ', H', J', r, q⟩ := hsp
      exact ⟨v, σ', H', J'.ofTry ok, r, q⟩
end
end DL

/-! DL: the law's catcher of errors called with a lambda. -/
namespace DL
open PySem PySem.Spec PyProof.Rows L2 LamX

/-! ### the text of the catcher -/
structure CaughtP where
  p1 : Pos
  p2 : Pos
  p3 : Pos
  p4 : Pos
  p5 : Pos
  p6 : Pos
  p7 : Pos
  p8 : Pos
  p9 : Pos
  p10 : Pos
  p11 : Pos
  p12 : Pos
  p13 : Pos
  p14 : Pos
  j : Nat
def caughtB (P : CaughtP) : List Stmt :=
  [.Assign [.Name "found" P.p1] (.Constant .none P.j P.p2) P.p3,
   .Try [.Expr (.Call (.Name "action" P.p4) [] [] P.p5) P.p6] [.ExceptHandler (some (.Name "RhythmError" P.p7)) (some "error") [.Assign [.Name "found" P.p8] (.Name "error" P.p9) P.p10] P.p11] [] [] P.p12,
   .Return (some (.Name "found" P.p13)) P.p14]
def caughtN : List Str := ["action", "found", "error"]
def caughtSc : Scope := { kind := .function, names := [("action", .local), ("found", .local), ("error", .local), ("RhythmError", .globalImplicit)], isGenerator := false, isCoroutine := false, more := [] }
theorem caughtFS : FnScope caughtN ["action"] caughtSc := ⟨rfl, rfl, rfl, by decide, rfl, fun x hx => by
  rw [List.mem_singleton.mp hx]; exact .inl rfl, by decide⟩
theorem caughtNd : caughtN.Nodup := by decide

section
variable {X : Cx} {pins : List (Addr × Obj)} {σ : L2.St} {H : Hp} {s : Shared}
/-- x(), in the def that got the lambda -/
theorem pe_actG {CXg : CXT} {Eg : XK} {Ng : List Str} {qg : Str} {sg : Scope} {g f c' : Addr} {cdg pm ctv : Value} {params : Arguments} {body : Expr} {scope : Scope} {k i : Nat} {a : Str} {pn : List (Addr × Obj)} {xe : Value → Shared → Prop} {W : WX} {E : XK} {tb : TE} {p1 p2 : Pos}
    (I : L2.Inv X pins σ H s) (L : LamS X.env.scope scope) (hf : s.heap.get? f = some (PySem.W.kla_obj "<lambda>" (X.env.qual ++ "<lambda>") params body scope (cloFrom X.env.cells scope.names []) pm c' ctv)) (hfn : H f = none) (hfr : f ∉ frs X.stack) (hgd : X.A.guards = some [])
    (hbind : bindArgs (PySem.W.kla_fn "<lambda>" (X.env.qual ++ "<lambda>") params body scope (cloFrom X.env.cells scope.names []) pm (.ref c') ctv) ⟨[], []⟩ = pure [])
    (tk : Takes ((cxOf CXg X.prog X.w X.K X.mg X.base Ng qg sg g cdg X.A X.stack s H Eg).tr pn xe) W) (hr : Room (k + 1) (X.A.deeper (envOfC qg sg s.heap.objs.size g cdg)))
    (hbody : ∀ (A : Around) (outer : List PySem.Env) (s : Shared) (H : Hp), A.guards = some [] → Room k (A.deeper (lamEnv X scope s.heap.objs.size f c')) → PE (lamCx X A outer s H E scope f c') body tb)
    (hN : Ng[i]? = some a) (hv : Vis sg a) (hd : (a == ("__debug__" : Str)) = false := by decide) (hcd : (a == ("__classdict__" : Str)) = false := by decide) :
    PE ((cxOf CXg X.prog X.w X.K X.mg X.base Ng qg sg g cdg X.A X.stack s H Eg).tr pn xe) (.Call (.Name a p1) [] [] p2)
      (fun σZ HZ Q => σZ[i]? = some (some (.ref f)) ∧ HZ c' = some (CodeO c' (X.env.qual ++ "<lambda>")) ∧ (∀ cls d H', E cls d H' → W cls d σZ H') ∧ tb σ HZ Q) := by
  refine ⟨fun pinsZ sZ σZ HZ Q IZ h => ?_⟩
  obtain ⟨hs, hc, hW, ht⟩ := h
  refine wpAny_Call_Name_kw (thn ((pe_var (pos := p1) (i := i) hN hv hd hcd).run pinsZ sZ σZ HZ (fun v H1 => v = .ref f ∧ H1 = HZ) IZ ⟨.ref f, hs, rfl, rfl⟩) fun u s1 ⟨v, H1, I1, r1, q1⟩ => ?_)
  obtain ⟨ev, eH⟩ := q1
  subst ev
  rw [eH] at I1
  obtain rfl : u = Value.ref f := r1
  have of1 : s1.heap.get? f = some (PySem.W.kla_obj "<lambda>" (X.env.qual ++ "<lambda>") params body scope (cloFrom X.env.cells scope.names []) pm c' ctv) := I1.base.keep f _ hf hfn hfr (fun z => nomatch (show f ∈ ([] : List Addr) from z))
  refine PySem.W.callWith_F0 ⟨_, _, _, _, of1⟩ ?_
  have un : Un (frs X.stack) [] H HZ s.heap s1.heap := I1.base
  obtain ⟨⟨oc, vs, t, hoc, hdc, hvc⟩, _, _⟩ := I1.hok c' _ hc
  have rc : codeAny (model X.prog X.w) (X.A.deeper (envOfC qg sg s.heap.objs.size g cdg)) (.call (.ref f) ⟨[], []⟩) (CR (L2.CX X.prog X.w) (envOfC qg sg s.heap.objs.size g cdg :: X.stack) X.prog X.w HZ s1 Q E) s1 := by
    refine PySem.W.kla_callFunE hr.depth of1 rfl L.co L.gen rfl ⟨c', oc, vs, t, rfl, hoc, hdc, hvc⟩ ?_
    rw [hbind]
    refine wpAny_pure (wpAny_newFunctionEnv (fun y hy => (L.own y hy).2) (fun y hy => absurd hy (by simp)) (fun h₁ hns hsb => ⟨I1.nolimit.fresh _ hsb, ?_⟩) L.kind)
    show codeAny _ _ (.expr body (lamEnv X scope s1.heap.objs.size f c')) _ _
    have kp : ∀ b o, s1.heap.get? b = some o → h₁.get? b = some o := fun b o e => hsb.extBut b o (Nat.ne_of_lt (Heap.lt_size e)) (Heap.get?_push_of_some _ e)
    have J : L2.Inv (lamCx X (X.A.deeper (envOfC qg sg s.heap.objs.size g cdg)) (envOfC qg sg s.heap.objs.size g cdg :: X.stack) s1 HZ E scope f c') [] σ HZ { s1 with heap := h₁, toks := s1.toks + ([] : List (Str × Value)).length } :=
      lam_start2 I L I1.env0 hr.hd un hns kp
    refine PySem.W.kla_codeExpr (wpAny_mono ((hbody (X.A.deeper (envOfC qg sg s.heap.objs.size g cdg)) _ s1 HZ hgd (hr.deeper _)).run [] _ _ HZ Q J ht) (fun v s' hq => ?_) fun e s' hq => hq)
    obtain ⟨w', H', J', rv, q⟩ := hq
    exact ⟨w', H', J'.os, J'.bare, J'.base, J'.hok, rv, q⟩
  refine wpAny_call (codeAny_mono rc fun r s' hq => ?_)
  cases r with
  | error e => exact tk e s' (XE.of_call I1 (fun cls d H' h => hW cls d H' h) hq)
  | ok fl =>
    cases fl with
    | ret u => exact I1.after hq
    | next => exact False.elim hq
    | brk => exact False.elim hq
    | cont => exact False.elim hq
def tCaught (K : PySem.W.Frag) (CS : Addr) (T : List (Addr × Str)) (t : XK → TE) : TE := fun σ H Q => Tabs T H ∧ ∀ H1, ExtN H H1 → Tabs T H1 → t (fun cls d H' => PySem.W.exmOne K cls (.ref CS) = some true ∧ ∀ a, H' a = none → Q (.ref a) (upd H' a (ExcH cls d a))) σ H1 (fun _ H2 => Q .non H2)
/-- the catcher at fg -/
structure CatchT (K : PySem.W.Frag) (mg : Str → Option Value) (fg CS : Addr) : Prop where
  gm : mg "_law_caught" = some (.ref fg)
  kp : PySem.W.keepIn K (.ref fg) = true
  er : mg "RhythmError" = some (.ref CS)
  ex : ∃ (oc : Value) (od : Option Addr) (dV kV doc pm : Value) (an : Option Addr) (cdv ct : Value) (osl : Array (Option Value)) (P : CaughtP) (pg : Arguments),
    K.lookup fg = some ⟨oc, od, .func (PySem.W.fnOf "_law_caught" "_law_caught" pg (caughtB P) caughtSc dV kV doc pm an cdv ct), osl⟩ ∧ PySem.W.codeIn K cdv "_law_caught" = true ∧
      L2.Binds K (PySem.W.fnOf "_law_caught" "_law_caught" pg (caughtB P) caughtSc dV kV doc pm an cdv ct) ["action"] []
theorem pe_caught {T : List (Addr × Str)} {g CS c P : Addr} {k : Nat} {params : Arguments} {body : Expr} {scope : Scope} {t : XK → TE} {p lpos pos : Pos} (G : CatchT X.K X.mg g CS) (hg : Gl X "_law_caught") (hgd : X.A.guards = some [])
    (TB : TabB X.base X.mg c P) (hcode : X.env.code = .ref c) (hmT : (P, X.env.qual ++ "<lambda>") ∈ T) (hu : ∀ p ∈ T, p.1 = P → p.2 = X.env.qual ++ "<lambda>") (hr : Room (k + 2) X.A) (L : LamS X.env.scope scope) (hdef : defaultsOf params X.env = ([], []))
    (hbind : ∀ (q : Str) (cl : List (Str × Addr)) (pm cv ctv : Value), bindArgs (PySem.W.kla_fn "<lambda>" q params body scope cl pm cv ctv) ⟨[], []⟩ = pure [])
    (hbody : ∀ (A : Around) (outer : List PySem.Env) (s : Shared) (H : Hp) (E : XK) (f c' : Addr), A.guards = some [] → Room k (A.deeper (lamEnv X scope s.heap.objs.size f c')) → PE (lamCx X A outer s H E scope f c') body (t E)) :
    PE X (.Call (.Name "_law_caught" p) [.Lambda params body scope lpos] [] pos) (tCaught X.K CS T t) := by
  refine ⟨fun pins s σ H Q I h => ?_⟩
  obtain ⟨hT, h⟩ := h
  obtain ⟨oc, od, dV, kV, doc, pm, an, cdv, ct, osl, CP, pg, lk, hcg, hb⟩ := G.ex
  refine wpAny_Call_Name_kw (ld_glob I hg G.gm ?_ (by decide))
  refine PySem.W.callWith_K (h₀ := X.base) I.ok.mod.kin G.kp ?_ (by rfl) (by rfl)
  show wpAny _ _ (spliced ((false, eval (.Lambda params body scope lpos) X.env) :: backTo pos (starEach [] X.env))) _ _ s
  refine Calls.spliced_cons (lam_make2 I TB hcode hmT hu hT hdef (L.has I.ok) fun f c' pm' ctv H1 s' I1 eN T1 hf hfn hfr hco => ?_)
  refine Calls.spliced_nil ⟨I1.kIn, ?_⟩
  have rc : codeAny (model X.prog X.w) X.A (.call (.ref g) ⟨[.ref f], []⟩) (CR C8.CX0 X.stack X.prog X.w H1 s' Q C8.E0) s' := by
    refine run_ofS (N := caughtN) (ps := ["action"]) (us := [.ref f]) (vs := [.ref f]) lk hcg caughtFS hr I1.env0 (hb s' [.ref f] I1.kIn rfl) (.cons rfl .nil) rfl fun hr' => ?_
    refine ⟨_, (pss_cons (ps_set (i := 1) (x := "found") caughtNd rfl (.inl rfl) pe_non (by rfl) (.inr rfl))
      (pss_cons (ps_try_keep (X := (cxOf C8.CX0 X.prog X.w X.K X.mg X.base caughtN "_law_caught" caughtSc g cdv X.A X.stack s' H1 C8.E0)) (x := "RhythmError") (n := "error") (c := .ref CS) (i := 2)
        (tb := fun W D σZ H => ∃ Ech : XK, (∀ cls d H', Ech cls d H' → W cls d σZ H') ∧ σZ[0]? = some (some (.ref f)) ∧ H c' = some (CodeO c' (X.env.qual ++ "<lambda>")) ∧ t Ech σ H (fun v H' => D.nx σZ H'))
        (ts := fun a cls d => tAsg (tVar 2) (gName 1))
        rfl rfl caughtNd rfl rfl ⟨rfl, rfl, .inl G.er⟩ (fun W pn xe tk _ => ?_) (fun a cls d pn => pss_one (ps_set (i := 1) (x := "found") caughtNd rfl (.inl rfl) (pv 2) (by rfl) (.inr rfl))))
      (pss_one (ps_ret (pv 1))))), ?_⟩
    · refine ⟨fun pinsZ s2 σZ HZ D IZ h' => ?_⟩
      obtain ⟨Ech, hW, h1, h2, h3⟩ := h'
      have hp := pe_actG (W := W) (E := Ech) (pn := pn) (xe := xe) (i := 0) (p1 := CP.p4) (p2 := CP.p5) I1 L hf hfn hfr hgd (hbind _ _ _ _ _) tk hr' (fun A outer s H hg2 hr2 => hbody A outer s H Ech f c' hg2 hr2) (a := "action") rfl (.inl rfl)
      exact (pss_one (ps_expr hp (by rfl))).run pinsZ s2 σZ HZ D IZ ⟨h1, h2, hW, h3⟩
    · have q := h H1 eN T1
      have e : (fun (_ : V) (H2 : Hp) => Q .non H2) = fun (_ : V) (H2 : Hp) => tVar 1 (L2.start caughtN [V.ref f] |>.set 1 (some .non)) H2 Q := by
        funext v H2
        apply propext
        constructor
        · exact fun h => ⟨.non, rfl, h⟩
        · rintro ⟨x, e, h⟩
          cases e
          exact h
      rw [e] at q
      exact ⟨_, fun cls d H' ⟨e1, e2⟩ => ⟨e1, fun a na => ⟨.ref a, rfl, .ref a, rfl, e2 a na⟩⟩, rfl, hco, q⟩
  refine wpAny_call (codeAny_mono rc fun r s2 hq => ?_)
  cases r with
  | error e => exact (show False from hq).elim
  | ok fl =>
    cases fl with
    | ret u => exact I1.after hq
    | next => exact False.elim hq
    | brk => exact False.elim hq
    | cont => exact False.elim hq
end
end DL

/-! DL: the catcher as a rule; repr. -/
namespace DL
open PySem PySem.Spec PyProof.Rows L2 LamX

section
variable {J : Jc} {X : Cx} {W W' : Wd} {ρ : Env} {σ : L2.St} {H H1 : Hp}
theorem Sim.extN (h : Sim J W ρ σ H) (e : ExtN H H1) (t : Tabs W.T H1) : Sim J W ρ σ H1 := by
  have k : ∀ a o, H a = some o → nTb o = true → H1 a = some o := fun a o q n => e a o q fun ps z => by rw [z] at n; cases n
  refine ⟨fun a o q => k a o (h.sub a o q) (W.nt a o q), h.len, fun i s q => ?_, h.dist, ⟨fun a g c q => ?_, t⟩, fun a o q m => k a o (h.out a o q m) (h.h0 a o q), h.new, h.fr, h.w0, h.h0, ?_⟩
  · have z := h.slot i s q
    cases s with
    | un => trivial
    | val d => exact z
    | ml ds =>
      obtain ⟨a, vs, q1, q2, q3⟩ := z
      exact ⟨a, vs, q1, k _ _ q2 rfl, q3⟩
    | md ds =>
      obtain ⟨a, vs, q1, q2, q3⟩ := z
      exact ⟨a, vs, q1, k _ _ q2 rfl, q3⟩
    | lam n =>
      obtain ⟨f, φ, q1, q2, q3⟩ := z
      exact ⟨f, φ, q1, k _ _ q2 (by rw [q3]; rfl), q3⟩
    | fuel n => trivial
  · have z := h.st.cl a g c q
    obtain ⟨gs, r, u, h1, h2, h3⟩ := z.ok
    exact ⟨⟨gs, r, u, k _ _ h1 rfl, k _ _ h2 rfl, h3⟩, z.cs, z.fa, z.fg⟩
  · obtain ⟨B, h1, h2, h3⟩ := h.bud
    refine ⟨B, fun a g c q => ?_, h2, h3⟩
    obtain ⟨r, u, q1, q2⟩ := h1 a g c q
    exact ⟨r, u, k _ _ q1 rfl, q2⟩
theorem nTb_exc {cls : Value} {d : Option Addr} {a : Addr} : nTb (ExcH cls d a) = true := rfl
theorem rep_exc {a : Addr} {c : Nat} {ds : List D} {d : Option Addr} (n : W.F a = none) (e : ExRep J.G W c ds d) : Rep J.G (W.add a (ExcH (.ref (J.G.cA c)) d a)) (.ref a) (.exc c ds) := by
  have le := Wd.le_add (o := ExcH (.ref (J.G.cA c)) d a) n
  have at' : (W.add a (ExcH (.ref (J.G.cA c)) d a)).F a = some (ExcH (.ref (J.G.cA c)) d a) := by
    have e : (W.add a (ExcH (.ref (J.G.cA c)) d a)).F = addF W.F a (ExcH (.ref (J.G.cA c)) d a) := rfl
    rw [e, addF_yes nTb_exc, upd_same]
  cases e with
  | e0 h => exact .exc0 at' h
  | e1 h hd r => exact .exc1 at' h (le.f _ _ hd) (r.mono le)
abbrev Jc.wE (J : Jc) (E : XK) : Jc := { J with E := E }
def dCaught (isR : Nat → Bool) (d : DE) : DE := fun ρ P _ => d ρ (fun _ ρ' => P .non ρ') (fun c ds ρ' => isR c = true ∧ P (.exc c ds) ρ')
theorem caught_core {isR : Nat → Bool} {d : DE} {CS : Addr} {Q : VK} (hR : ∀ c, isR c = true → PySem.W.exmOne J.G.K (.ref (J.G.cA c)) (.ref CS) = some true) (h : tE J (dCaught isR d) σ H Q) : tCaught J.G.K CS J.W0.T (fun E => tE (J.wE E) d) σ H Q := by
  obtain ⟨W, ρ, S, P, X', q, x, k⟩ := h
  have eT : J.W0.T = W.T := S.w0.t.symm
  rw [eT]
  refine ⟨S.st.tab, fun H1 eN T1 => ?_⟩
  refine ⟨W, ρ, (S.extN eN T1).reE _, _, _, q, fun c ds ρ' ⟨hc, p⟩ W' H' d l s e => ⟨hR c hc, fun a na => ?_⟩, fun r ρ' p W' v H' l s rp => k .non ρ' p W' .non H' l (s.reE J.E) .non⟩
  have s' : Sim J W' ρ' σ H' := s.reE J.E
  exact k _ ρ' p (W'.add a _) (.ref a) _ (l.trans (Wd.le_add (s'.free na).1)) (s'.newF na) (rep_exc (s'.free na).1 e)
theorem ctx_lam (C : Ctx X J) {A : Around} {outer : List PySem.Env} {s : Shared} {H : Hp} {E : XK} {scope : Scope} {f c' : Addr} {k : Nat} (hgd : A.guards = some []) (hr : Room k (A.deeper (lamEnv X scope s.heap.objs.size f c'))) : Ctx (lamCx X A outer s H E scope f c') (J.wE E) :=
  ⟨C.K, rfl, by
    have := hr.un
    show (A.deeper (lamEnv X scope s.heap.objs.size f c')).units + 100 < cLine
    omega, takes_of rfl rfl rfl rfl, passes_of rfl, C.nd, hgd⟩
/-- what the catcher's rule asks of the def that makes the lambda -/
structure LamT (X : Cx) (J : Jc) (g CS c P : Addr) (isR : Nat → Bool) : Prop where
  ct : CatchT X.K X.mg g CS
  tb : TabB X.base X.mg c P
  cd : X.env.code = .ref c
  mT : (P, X.env.qual ++ "<lambda>") ∈ J.W0.T
  un : ∀ p ∈ J.W0.T, p.1 = P → p.2 = X.env.qual ++ "<lambda>"
  hR : ∀ c, isR c = true → PySem.W.exmOne J.G.K (.ref (J.G.cA c)) (.ref CS) = some true
theorem je_caught {g CS c P : Addr} {isR : Nat → Bool} {k : Nat} {params : Arguments} {body : Expr} {scope : Scope} {d : DE} {p lpos pos : Pos} (C : Ctx X J) (G : LamT X J g CS c P isR) (hg : Gl X "_law_caught") (hr : Room (k + 2) X.A) (L : LamS X.env.scope scope)
    (hbody : ∀ (A : Around) (outer : List PySem.Env) (s : Shared) (H : Hp) (E : XK) (f c' : Addr), Room k (A.deeper (lamEnv X scope s.heap.objs.size f c')) → Ctx (lamCx X A outer s H E scope f c') (J.wE E) → JE (J.wE E) (lamCx X A outer s H E scope f c') body d)
    (hdef : defaultsOf params X.env = ([], []) := by rfl) (hbind : ∀ (q : Str) (cl : List (Str × Addr)) (pm cv ctv : Value), bindArgs (PySem.W.kla_fn "<lambda>" q params body scope cl pm cv ctv) ⟨[], []⟩ = pure [] := by intros; rfl) :
    JE J X (.Call (.Name "_law_caught" p) [.Lambda params body scope lpos] [] pos) (dCaught isR d) :=
  PE.imp (pe_caught G.ct hg C.gd G.tb G.cd G.mT G.un hr L hdef hbind fun A outer s H E f c' hg2 hr2 => hbody A outer s H E f c' hr2 (ctx_lam C hg2 hr2)) fun σ H Q h => by
    have z := caught_core (CS := CS) G.hR h
    rw [C.K]
    exact z

/-! ### the field of an error -/
def oFld (n : Str) (fl : Nat → List Str) : D → Option D
  | .exc c [x] => if fl c = [n] then some x else none
  | _ => none
structure FldT (G : Gm) (n : Str) : Prop where
  at' : ∀ c, G.fl c = [n] → XfC G.K (G.cA c) ∧ PySem.W.findIn G.K (.ref (G.cA c)) n = some none
theorem je_fld {e : Expr} {d : DB} {n : Str} {pos : Pos} (C : Ctx X J) (T : FldT J.G n) (he : JB J X e d) (hb : attributeBase e n X.env (eval e X.env) = eval e X.env := by rfl) : JE J X (.Attribute e n pos) (dUn (oFld n J.G.fl) d) := by
  refine ⟨fun pins s σ H Q I ⟨W, ρ, S, P, X', q, x, k⟩ => ?_⟩
  refine attr_of hb (thn (he.run pins s σ H (fun v H1 => ∃ W1 ρ1 y z, W.le W1 ∧ Sim J W1 ρ1 σ H1 ∧ RepH J.G W1 H1 v y ∧ oFld n J.G.fl y = some z ∧ P z ρ1) I ⟨W, ρ, S, _, X', q, x, fun b ρ1 q1 W1 v H1 l1 S1 r1 => by
    obtain ⟨y, z, e1, e2, p⟩ := q1
    exact ⟨W1, ρ1, y, z, l1, S1, S1.rdH r1 e1, e2, p⟩⟩) fun u s1 hh => ?_)
  obtain ⟨v, H1, I1, rv, W1, ρ1, y, z, l1, S1, rh, e2, p⟩ := hh
  unfold oFld at e2
  split at e2
  · rename_i c w
    split at e2
    · rename_i hf
      cases e2
      obtain ⟨T1, hno⟩ := T.at' c hf
      rw [← C.K] at T1 hno
      cases rh with
      | rep r =>
        cases r with
        | exc1 h1 h2 h3 h4 =>
          rw [hf] at h2
          cases h2
          cases rv
          obtain ⟨⟨oe, vs, ho, hz, hd⟩, _⟩ := I1.hok _ _ (S1.sub _ _ h1)
          have hx : ObjOk X.prog X.w H1 s1.heap _ (.xd _) := I1.hok _ _ (S1.sub _ _ h3)
          obtain ⟨mA, hns, hr⟩ := hx
          obtain ⟨od, ho2, hl⟩ := lookIn_ns hns
          have hn := hr n
          rw [show ∀ w : V, List.lookup n [(n, w)] = some w from fun w => by simp [List.lookup]] at hn
          obtain ⟨u, hu, ru⟩ := RelO.some_of (o := mA n) hn
          have Jx : PySem.W.InstAt s1.heap _ oe (J.G.cA c) (some od) := ⟨ho, hz.1, by unfold PySem.W.notCls; rw [hd] <;> rfl, by rw [hz.2]; exact ho2⟩
          exact PySem.HandSPX.exc_get I1.kIn Jx T1.ga T1.gg T1.exC (PySem.W.findObj_own T1.hdC hno rfl (by rw [hl, hu])) (handed_of ru) ⟨_, H1, I1.tok _, ru, k _ ρ1 p W1 _ H1 l1 S1 h4⟩
    · cases e2
  · cases e2
end
end DL

/-! DL: errors with a field, raised. -/
namespace DL
open PySem PySem.Spec PyProof.Rows L2

structure InitP where
  p1 : Pos
  p2 : Pos
  p3 : Pos
  p4 : Pos
  p5 : Pos
  p6 : Pos
  p7 : Pos
  p8 : Pos
  p9 : Pos
  p10 : Pos
  j : Nat
def initB (m fld : Str) (P : InitP) : List Stmt :=
  [.Expr (.Call (.Attribute (.Name "RhythmError" P.p1) "__init__" P.p2) [.Name "self" P.p3, .Constant (.str m) P.j P.p4] [] P.p5) P.p6,
   .Assign [.Attribute (.Name "self" P.p7) fld P.p8] (.Name fld P.p9) P.p10]
def initSc (fld : Str) : Scope := { kind := .function, names := [("self", .local), (fld, .local), ("RhythmError", .globalImplicit)], isGenerator := false, isCoroutine := false, more := [] }
/-- RhythmError, the base of the errors -/
structure BaseT (K : PySem.W.Frag) (mg : Str → Option Value) (CS : Addr) : Prop where
  gm : mg "RhythmError" = some (.ref CS)
  ga : PySem.W.specialIn K (.ref CS) "__getattribute__" = some (some (.builtin "type.__getattribute__"))
  rd : PySem.W.readsIn K CS (.type "type") = true
  fi : PySem.W.findCls K (.ref CS) (.type "type") "__init__" = some (.val (.builtin "ValueError.__init__"))
section
variable {X : Cx} {e : Expr} {es : List Expr} {ta : TA} {p1 p2 pos : Pos}
theorem pe_reinit {CS : Addr} {pl : Sem Bool} (hg : Gl X "RhythmError") (T : BaseT X.K X.mg CS) (ha : PA X (e :: es) ta)
    (hc : eval (.Call (.Attribute (.Name "RhythmError" p1) "__init__" p2) (e :: es) [] pos) X.env = (do
      let ov ← eval (.Name "RhythmError" p1) X.env
      standAt p2.atName
      let (f, first) ← holding [ov] (getMethod ov "__init__" pl)
      callWith pos f first (backTo pos (starEach (e :: es) X.env)) (backToKw pos (keywordEach [] X.env))) := by rfl)
    (he : starEach (e :: es) X.env = (false, eval e X.env) :: starEach es X.env := by rfl) (hpl : (backTo pos (starEach es X.env)).any (·.1) = false := by rfl) :
    PE X (.Call (.Attribute (.Name "RhythmError" p1) "__init__" p2) (e :: es) [] pos) (tVeI X.K ta) := by
  refine ⟨fun pins s σ H Q I h => ?_⟩
  refine PySem.W.methodCall_KW (ld_glob I hg T.gm ?_ (by decide)) hc
  refine PySem.W.method_cls I.kIn T.ga (PySem.W.cls_value I.kIn T.rd T.fi (by decide +kernel) ?_)
  show wpAny _ _ (callWith pos (Value.builtin "ValueError.__init__") [] (backTo pos (starEach (e :: es) X.env)) []) _ _ _
  refine PyProof.Rows.callWith_method1 (thn (ha.run pos pins _ σ H _ (I.tok _) h) fun us s1 ⟨vs, H1, I1, r1, a, C, ws, ev, hl, T, ea, q⟩ => ?_) he hpl
  subst ev
  cases r1 with
  | @cons _ u0 _ ur ra rw' =>
    obtain rfl : u0 = Value.ref a := ra
    have hlen : ur.length ≤ sizeLine := by
      rw [← Paired.length rw', sizeLine_eq]
      omega
    exact oinit_ok T I1 ea hlen fun s' J => ⟨.non, H1, J, rfl, q⟩
/-- the promise of such an __init__ -/
def spInit (K : PySem.W.Frag) (fld : Str) : Sp := fun vs H Q _ => ∃ a C y, vs = [.ref a, y] ∧ OexC K C ∧ PySem.W.findIn K (.ref C) fld = some none ∧ H a = some (exo a C none) ∧ ∀ dx, H dx = none → dx ≠ a → Q .non (upd (upd H dx (exd dx [(fld, y)])) a (exo a C (some dx)))
theorem ok_init {P : Program} {w : World} {K : PySem.W.Frag} {mg : Str → Option Value} {base : Heap} {f CS : Addr} {qual m fld : Str} {pg : Arguments} {IP : InitP} {dV kV doc pm cdv ct oc : Value} {an od : Option Addr} {osl : Array (Option Value)} (T : BaseT K mg CS)
    (lk : K.lookup f = some ⟨oc, od, .func (PySem.W.fnOf "__init__" qual pg (initB m fld IP) (initSc fld) dV kV doc pm an cdv ct), osl⟩) (hcd : PySem.W.codeIn K cdv qual = true)
    (hc : ∀ env : PySem.Env, ∃ pl : Sem Bool, eval (.Call (.Attribute (.Name "RhythmError" IP.p1) "__init__" IP.p2) [.Name "self" IP.p3, .Constant (.str m) IP.j IP.p4] [] IP.p5) env = (do
      let ov ← eval (.Name "RhythmError" IP.p1) env
      standAt IP.p2.atName
      let (f, first) ← holding [ov] (getMethod ov "__init__" pl)
      callWith IP.p5 f first (backTo IP.p5 (starEach [.Name "self" IP.p3, .Constant (.str m) IP.j IP.p4] env)) (backToKw IP.p5 (keywordEach [] env))))
    (hf : fld ≠ ("self" : Str)) (hf2 : fld ≠ ("RhythmError" : Str)) (hdb : (fld == ("__debug__" : Str)) = false) (hcl : (fld == ("__classdict__" : Str)) = false) :
    FnOk P w K mg base (L2.CX P w) 3 f (PySem.W.fnOf "__init__" qual pg (initB m fld IP) (initSc fld) dV kV doc pm an cdv ct) ["self", fld] (spInit K fld) := by
  have lf : (initSc fld).names.lookup fld = some .local := by
    show List.lookup fld [(("self" : Str), NameKind.local), (fld, .local), ("RhythmError", .globalImplicit)] = _
    have : (fld == ("self" : Str)) = false := by simpa using hf
    simp [List.lookup, this]
  have lr : (initSc fld).names.lookup ("RhythmError" : Str) = some .globalImplicit := by
    show List.lookup ("RhythmError" : Str) [(("self" : Str), NameKind.local), (fld, .local), ("RhythmError", .globalImplicit)] = _
    have h1 : (("RhythmError" : Str) == fld) = false := by simpa using fun z => hf2 z.symm
    have h2 : (("RhythmError" : Str) == ("self" : Str)) = false := by decide
    simp [List.lookup, h1, h2]
  refine fn_of (N := ["self", fld]) lk hcd ⟨rfl, rfl, rfl, ?_, rfl, fun x hx => ?_, ?_⟩ (fun vs H Q E ⟨a, C, y, h, _⟩ => by rw [h]; rfl) fun A outer s H vs Q E hr h => ?_
  · simpa using fun z => hf z.symm
  · rcases List.mem_cons.mp hx with rfl | hx
    · exact .inl rfl
    · rw [List.mem_singleton.mp hx]; exact .inl lf
  · intro y hy
    simp only [initSc, List.mem_cons, List.not_mem_nil, or_false] at hy
    rcases hy with rfl | rfl | rfl <;> exact fun z => nomatch z
  · obtain ⟨a, C, y, rfl, hC, hno, ha, k⟩ := h
    obtain ⟨pl, hc⟩ := hc (envOfC qual (initSc fld) s.heap.objs.size f cdv)
    refine ⟨_, pss_cons (ps_expr (pe_reinit (X := cxOf (L2.CX P w) P w K mg base ["self", fld] qual (initSc fld) f cdv A outer s H E) lr T (pa_cons (pv 0 rfl (.inl rfl)) (pa_cons pe_str pa_nil)) hc) (by rfl)) (pss_one (ps_ost (pv 0 rfl (.inl rfl)) (pv 1 rfl (.inl lf) hdb hcl) (by rfl))), ?_⟩
    refine ⟨.ref a, rfl, a, C, [.str m], rfl, by show 1 ≤ 1000; decide, hC, ha, ?_⟩
    exact ⟨y, rfl, .ref a, rfl, a, C, rfl, hC, hno, .inl ⟨ha, fun dx n ne => k dx n ne⟩⟩
end

section
variable {J : Jc} {X : Cx} {pos p cpos : Pos} {x : Str} {c : Nat} {e : Expr}
def dRaise1 (c : Nat) (d : DE) : DS := fun ρ N => d ρ (fun r _ => N.ex c [r]) N.x
/-- the facts of an own error with a field -/
structure ErrI (X : Cx) (G : Gm) (x fld : Str) (c : Nat) (fI : Addr) (fd : FuncData) : Prop where
  ox : OexC X.K (G.cA c)
  no : PySem.W.findIn X.K (.ref (G.cA c)) fld = some none
  iC : PySem.W.findIn X.K (.ref (G.cA c)) "__init__" = some (some (.ref fI))
  tI : PySem.W.typeIn X.K (.ref fI) = some (.type "function")
  gm : X.mg x = some (.ref (G.cA c))
  ok : FnOk X.prog X.w X.K X.mg X.base (L2.CX X.prog X.w) 3 fI fd ["self", fld] (spInit X.K fld)
  bd : Binds X.K fd ["self", fld] []
  fl : G.fl c = [fld]
theorem js_raise1 {fld : Str} {fI : Addr} {fd : FuncData} {d : DE} (C : Ctx X J) (T : ErrI X J.G x fld c fI fd) (hr : Room 4 X.A) (hg : Gl X x) (he : JE J X e d) (hdb : (x == ("__debug__" : Str)) = false := by decide) (hs : starEach [e] X.env = (false, eval e X.env) :: starEach [] X.env := by rfl) (hpl : (backTo pos (starEach [] X.env)).any (·.1) = false := by rfl) :
    JS J X (.Raise (some (.Call (.Name x p) [e] [] cpos)) none pos) (dRaise1 c d) :=
  PS.imp (ps_raise C.calm C.tk (pmk_oex T.ox T.iC T.tI T.ok hr T.bd .nil passL hg T.gm (pa_cons he pa_nil hs) hdb hs hpl)) fun E σ H ⟨W, ρ, S, N, q, r⟩ => by
    refine ⟨W, ρ, S, _, N.x, q, r.x, fun y ρ1 q1 W1 v H1 l1 S1 r1 => ⟨by show 1 ≤ 1000; decide, fun a na => ?_⟩⟩
    refine ⟨a, J.G.cA c, v, rfl, T.ox, T.no, upd_same, fun dx n ne => ⟨rfl, dx, [(fld, v)], upd_same, ?_, ?_, ?_⟩⟩
    · rw [upd_ne ne, upd_same]
    · rw [upd_ne ne] at n
      exact n
    · rw [upd_ne ne] at n
      have eH : upd (del (upd (upd (upd H1 a (exo a (J.G.cA c) none)) dx (exd dx [(fld, v)])) a (exo a (J.G.cA c) (some dx))) a) dx (.xd [(fld, v)]) = upd H1 dx (.xd [(fld, v)]) := by
        funext b
        by_cases hb : b = dx
        · subst hb
          rw [upd_same, upd_same]
        · rw [upd_ne hb, upd_ne hb]
          by_cases hba : b = a
          · subst hba
            rw [del_same, na]
          · rw [del_ne hba, upd_ne hba, upd_ne hb, upd_ne hba]
      rw [eH]
      have S2 := S1.newF (o := .xd [(fld, v)]) n
      have l2 : W1.le (W1.add dx (.xd [(fld, v)])) := Wd.le_add (S1.free n).1
      exact r.ex c [y] _ _ (some dx) q1 (l1.trans l2) S2.fin (.e1 T.fl (show upd W1.F dx (.xd [(fld, v)]) dx = _ from upd_same) (r1.mono l2))
end
end DL

/-! DL: the law's state: read, written, drawn from. -/
namespace DL
open PySem PySem.Spec PyProof.Rows L2

section
variable {J : Jc} {X : Cx} {W : Wd} {ρ : Env} {σ : L2.St} {H : Hp} {a g c : Addr}
theorem low_slot {m : Nat} {j : Nat} {x : SV} (e : (lowF m ρ)[j]? = some x) : ρ[j]? = some x ∨ ∃ n, x = .fuel n := by
  cases m with
  | zero => exact .inl e
  | succ m =>
    have e : (ρ.set (ρ.length - 1) (.fuel (fuelOf ρ - (m + 1))))[j]? = some x := e
    by_cases q : ρ.length - 1 = j
    · subst q
      exact .inr ⟨_, get_set_eq e⟩
    · rw [get_set_ne q] at e
      exact .inl e
theorem low_own {m : Nat} {j : Nat} {a : Addr} (o : OwnAt (lowF m ρ) σ j a) : OwnAt ρ σ j a := by
  obtain ⟨⟨x, e1, e2⟩, e3⟩ := o
  rcases low_slot e1 with z | ⟨n, rfl⟩
  · exact ⟨⟨x, z, e2⟩, e3⟩
  · cases e2
theorem Sim.cellW {m : Nat} {x : Addr} {u o : HO} (h : Sim J W ρ σ H) (hx : x ∈ cellsOf W.S) (hF : W.F x = none) (hu : H x = some u) (hk : (∃ vs, u = .lst vs) ∨ ∃ vs, u = .dK vs) (st : ∀ a g c, W.S = some (a, g, c) → StAt W (upd H x o) a g c) (bud : Bud J W (upd H x o) (fuelOf (lowF m ρ))) : Sim J W (lowF m ρ) σ (upd H x o) := by
  refine ⟨fun b v e => by rw [upd_ne (fun z => by rw [z, hF] at e; cases e)]; exact h.sub b v e, by rw [lowF_len]; exact h.len, fun j s e => ?_, fun i j b hij oi oj => h.dist i j b hij (low_own oi) (low_own oj), ⟨st, tabs_up h.st.tab fun b v e n1 n2 => ?_⟩, fun b v e q => by rw [upd_ne (fun z => q (by rw [z]; exact hx))]; exact h.out b v e q, h.new, h.fr, h.w0, h.h0, bud⟩
  · rcases low_slot e with e | ⟨n, rfl⟩
    case inr => trivial
    have z := h.slot j s e
    cases s with
    | un => trivial
    | fuel n => trivial
    | val d => exact z
    | ml ds =>
      obtain ⟨b, vs, q1, q2, q3, q4, q5⟩ := z
      exact ⟨b, vs, q1, by rw [upd_ne (fun z => q5.2.2 (by rw [z]; exact hx))]; exact q2, q3, q4, q5⟩
    | md ds =>
      obtain ⟨b, vs, q1, q2, q3, q4, q5⟩ := z
      exact ⟨b, vs, q1, by rw [upd_ne (fun z => q5.2.2 (by rw [z]; exact hx))]; exact q2, q3, q4, q5⟩
    | lam n =>
      obtain ⟨f, φ, q1, q2, q3⟩ := z
      refine ⟨f, φ, q1, ?_, q3⟩
      rw [upd_ne]
      · exact q2
      · rintro rfl
        rw [hu] at q2
        rw [q3] at q2
        rcases hk with ⟨_, rfl⟩ | ⟨_, rfl⟩ <;> cases q2
  · rw [upd_ne]
    · exact e
    · rintro rfl
      rw [hu] at e
      cases e
      rcases hk with ⟨v, z⟩ | ⟨v, z⟩
      · exact n1 v z
      · exact n2 v z
theorem Sim.stTurn (h : Sim J W ρ σ H) (e : W.S = some (a, g, c)) : ∃ (gs : List Int) (r t : Int), H a = some (stO g c r t) ∧ H g = some (.lst (gs.map .int)) ∧ 0 ≤ r ∧ (∀ x ∈ gs, 0 ≤ x) ∧ gs.length ≤ 63 ∧ 0 ≤ t ∧ t + fuelOf ρ ≤ J.big ∧ J.big ≤ BIG := by
  obtain ⟨gs, r, t, h1, h2, h3, h4, h5, h6⟩ := (h.st.cl a g c e).ok
  obtain ⟨B, b1, b2, b3⟩ := h.bud
  obtain ⟨r', t', q1, q2⟩ := b1 a g c e
  rw [h1] at q1
  have q1 := Option.some.inj q1
  unfold stO at q1
  have q5 : t = t' := by
    injection q1 with q1
    injection q1 with _ q1
    injection q1 with _ q1
    injection q1 with _ q1
    injection q1 with q1 _
    injection q1 with _ q1
    injection q1
  exact ⟨gs, r, t, h1, h2, h3, h4, h5, h6, by omega, b3⟩
theorem stO_ag {gs : List Int} {r t : Int} (h1 : H a = some (stO g c r t)) (h2 : H g = some (.lst (gs.map .int))) : g ≠ a := fun z => by
  rw [z, h1] at h2
  cases h2
theorem turn_up {r t : Int} {B : Nat} (e : W.S = some (a, g, c)) (ht : t ≤ B) : TurnLe W (upd H a (stO g c r t)) B := fun a' g' c' q => by
  rw [e] at q
  cases q
  exact ⟨r, t, upd_same, ht⟩
/-- state['rest'] = r -/
theorem Sim.rest (h : Sim J W ρ σ H) (e : W.S = some (a, g, c)) {r t r' : Int} (h1 : H a = some (stO g c r t)) (hr : 0 ≤ r') : Sim J W ρ σ (upd H a (stO g c r' t)) := by
  have z := h.st.cl a g c e
  obtain ⟨gs, r0, t0, q1, q2, q3, q4, q5, q6, q7, q8⟩ := h.stTurn e
  have eq : t = t0 := by
    rw [h1] at q1
    have q1 := Option.some.inj q1
    unfold stO at q1
    injection q1 with q1
    injection q1 with _ q1
    injection q1 with _ q1
    injection q1 with _ q1
    injection q1 with q1 _
    injection q1 with _ q1
    injection q1
  subst eq
  have ag := stO_ag q1 q2
  refine h.cellW (m := 0) (by rw [e]; exact List.mem_cons_self) z.fa h1 (.inr ⟨_, rfl⟩) (fun a' g' c' q => ?_) ⟨t.toNat, turn_up e (by omega), by show t.toNat + fuelOf ρ ≤ _; omega, q8⟩
  rw [e] at q
  cases q
  exact ⟨⟨gs, r', t, upd_same, by rw [upd_ne ag]; exact q2, hr, q4, q5, q6⟩, z.cs, z.fa, z.fg⟩
/-- state['turn'] = t -/
theorem Sim.turn (h : Sim J W ρ σ H) (e : W.S = some (a, g, c)) {r t t' : Int} (h1 : H a = some (stO g c r t)) (ht : 0 ≤ t') (hb : t' + fuelOf (lowF 1 ρ) ≤ J.big) : Sim J W (lowF 1 ρ) σ (upd H a (stO g c r t')) := by
  have z := h.st.cl a g c e
  obtain ⟨gs, r0, t0, q1, q2, q3, q4, q5, q6, q7, q8⟩ := h.stTurn e
  have eq : r = r0 := by
    rw [h1] at q1
    have q1 := Option.some.inj q1
    unfold stO at q1
    injection q1 with q1
    injection q1 with _ q1
    injection q1 with _ q1
    injection q1 with q1 _
    injection q1 with _ q1
    injection q1
  subst eq
  have ag := stO_ag q1 q2
  refine h.cellW (m := 1) (by rw [e]; exact List.mem_cons_self) z.fa h1 (.inr ⟨_, rfl⟩) (fun a' g' c' q => ?_) ⟨t'.toNat, turn_up e (by omega), by omega, q8⟩
  rw [e] at q
  cases q
  exact ⟨⟨gs, r, t', upd_same, by rw [upd_ne ag]; exact q2, q3, q4, q5, ht⟩, z.cs, z.fa, z.fg⟩
/-- state['great'].pop(0) -/
theorem Sim.great (h : Sim J W ρ σ H) (e : W.S = some (a, g, c)) {gs : List Int} (hg : ∀ x ∈ gs, 0 ≤ x) (hl : gs.length ≤ 63) : Sim J W ρ σ (upd H g (.lst (gs.map .int))) := by
  have z := h.st.cl a g c e
  obtain ⟨gs0, r, t, q1, q2, q3, q4, q5, q6, q7, q8⟩ := h.stTurn e
  have ag := stO_ag q1 q2
  refine h.cellW (m := 0) (by rw [e]; exact List.mem_cons_of_mem _ List.mem_cons_self) z.fg q2 (.inl ⟨_, rfl⟩) (fun a' g' c' q => ?_) ⟨t.toNat, fun a' g' c' q => ?_, by show t.toNat + fuelOf ρ ≤ _; omega, q8⟩
  · rw [e] at q
    cases q
    exact ⟨⟨gs, r, t, by rw [upd_ne (Ne.symm ag)]; exact q1, upd_same, q3, hg, hl, q6⟩, z.cs, z.fa, z.fg⟩
  · rw [e] at q
    cases q
    exact ⟨r, t, by rw [upd_ne (Ne.symm ag)]; exact q1, by omega⟩
end

/-! ### rules -/
section
variable {J : Jc} {X : Cx} {pos kp cpos apos : Pos} {j : Nat} {o e : Expr} {d : DE}
def sR : Str := "rest"
def sT : Str := "turn"
def sG : Str := "great"
def sC : Str := "cells"
theorem noSl_str {x : Str} {j : Nat} {p : Pos} : NoSl (.Constant (.str x) j p) := fun _ _ => rfl
/-- state['rest'], state['turn']: any number from 0 on; turn is within what is left -/
def dStG (d : DE) : DE := fun ρ P X => d ρ (fun r ρ' => r = .st ∧ ∀ n : Int, 0 ≤ n → P (.int n) ρ') X
def dStT (big : Nat) (d : DE) : DE := fun ρ P X => d ρ (fun r ρ' => r = .st ∧ ∀ n : Int, 0 ≤ n → n + fuelOf ρ' ≤ big → big ≤ BIG → P (.int n) ρ') X
def dStC (d : DE) : DE := fun ρ P X => d ρ (fun r ρ' => r = .st ∧ ∀ ns : List Int, ns.length ≤ 63 → P (.lst (ns.map .int)) ρ') X
theorem st_of {W : Wd} {v : V} (r : Rep J.G W v .st) : ∃ a g c, v = .ref a ∧ W.S = some (a, g, c) := by
  cases r with
  | st h => exact ⟨_, _, _, rfl, h⟩
theorem un1 (C : Ctx X J) : X.A.units + 1 < cLine := by have := C.un; omega
theorem je_stR (C : Ctx X J) (h : JE J X o d) : JE J X (.Subscript o (.Constant (.str "rest") j kp) pos) (dStG d) := PE.imp (pe_dget (un1 C) h pe_str noSl_str) fun σ H Q ⟨W, ρ, S, P, X', q, x, k⟩ => by
  refine ⟨W, ρ, S, _, X', q, x, fun r ρ1 q1 W1 v H1 l1 S1 r1 => ?_⟩
  obtain ⟨rfl, q1⟩ := q1
  obtain ⟨a, g, c, rfl, e⟩ := st_of r1
  obtain ⟨gs, r, t, h1, h2, h3, h4, h5, h6, _⟩ := S1.stTurn e
  exact ⟨a, .int r, rfl, DGet.k (k := .inr (Str.ofString "rest")) h1, k _ ρ1 (q1 r h3) W1 _ H1 l1 S1 (.int r)⟩
theorem je_stT (C : Ctx X J) (h : JE J X o d) : JE J X (.Subscript o (.Constant (.str "turn") j kp) pos) (dStT J.big d) := PE.imp (pe_dget (un1 C) h pe_str noSl_str) fun σ H Q ⟨W, ρ, S, P, X', q, x, k⟩ => by
  refine ⟨W, ρ, S, _, X', q, x, fun r ρ1 q1 W1 v H1 l1 S1 r1 => ?_⟩
  obtain ⟨rfl, q1⟩ := q1
  obtain ⟨a, g, c, rfl, e⟩ := st_of r1
  obtain ⟨gs, r, t, h1, h2, h3, h4, h5, h6, h7, h8⟩ := S1.stTurn e
  exact ⟨a, .int t, rfl, DGet.k (k := .inr (Str.ofString "turn")) h1, k _ ρ1 (q1 t h6 h7 h8) W1 _ H1 l1 S1 (.int t)⟩
theorem je_stC (C : Ctx X J) (h : JE J X o d) : JE J X (.Subscript o (.Constant (.str "cells") j kp) pos) (dStC d) := PE.imp (pe_dget (un1 C) h pe_str noSl_str) fun σ H Q ⟨W, ρ, S, P, X', q, x, k⟩ => by
  refine ⟨W, ρ, S, _, X', q, x, fun r ρ1 q1 W1 v H1 l1 S1 r1 => ?_⟩
  obtain ⟨rfl, q1⟩ := q1
  obtain ⟨a, g, c, rfl, e⟩ := st_of r1
  obtain ⟨gs, r, t, h1, h2, h3, h4, h5, h6, _⟩ := S1.stTurn e
  obtain ⟨ns, h8, h9⟩ := (S1.st.cl a g c e).cs
  exact ⟨a, .ref c, rfl, DGet.k (k := .inr (Str.ofString "cells")) h1, k _ ρ1 (q1 ns h9) W1 _ H1 l1 S1 (.lst h8 (RepL.of_ints ns) (by rw [List.length_map, sizeLine_eq]; omega))⟩
/-- state['rest'] = e -/
def dStSR (dv d : DE) : DS := fun ρ N => dv ρ (fun y ρ1 => (∃ n : Int, y = .int n ∧ 0 ≤ n) ∧ d ρ1 (fun r ρ2 => r = .st ∧ N.nx ρ2) N.x) N.x
def dStST (big : Nat) (dv d : DE) : DS := fun ρ N => dv ρ (fun y ρ1 => d ρ1 (fun r ρ2 => r = .st ∧ (∃ n : Int, y = .int n ∧ 0 ≤ n ∧ n + fuelOf (lowF 1 ρ2) ≤ big) ∧ N.nx (lowF 1 ρ2)) N.x) N.x
theorem js_stSR {dv : DE} {pos' : Pos} (C : Ctx X J) (hv : JE J X e dv) (h : JE J X o d)
    (hs : swapsWith e (some (.Subscript o (.Constant (.str "rest") j kp) pos')) pos.line X.env = pure false := by rfl) : JS J X (.Assign [.Subscript o (.Constant (.str "rest") j kp) pos'] e pos) (dStSR dv d) := PS.imp (ps_dput (un1 C) h pe_str hv hs) fun E σ H ⟨W, ρ, S, N, q, r⟩ => by
  refine ⟨W, ρ, S, _, N.x, q, r.x, fun y ρ1 q1 W1 v H1 l1 S1 r1 => ?_⟩
  obtain ⟨⟨n, rfl, hn⟩, q1⟩ := q1
  cases r1
  refine ⟨W1, ρ1, S1, _, N.x, q1, (r.mono l1).x, fun s ρ2 q2 W2 w H2 l2 S2 r2 => ?_⟩
  obtain ⟨rfl, q2⟩ := q2
  obtain ⟨a, g, c, rfl, e⟩ := st_of r2
  obtain ⟨gs, r0, t, h1, h2, h3, h4, h5, h6, h7, h8⟩ := S2.stTurn e
  exact ⟨a, _, rfl, DPut.k (k := .inr (Str.ofString "rest")) h1 (by show 4 < sizeLine; decide), r.nx ρ2 W2 σ _ q2 (l1.trans l2) (S2.rest e h1 hn)⟩
theorem js_stST {dv : DE} {pos' : Pos} (C : Ctx X J) (hv : JE J X e dv) (h : JE J X o d)
    (hs : swapsWith e (some (.Subscript o (.Constant (.str "turn") j kp) pos')) pos.line X.env = pure false := by rfl) : JS J X (.Assign [.Subscript o (.Constant (.str "turn") j kp) pos'] e pos) (dStST J.big dv d) := PS.imp (ps_dput (un1 C) h pe_str hv hs) fun E σ H ⟨W, ρ, S, N, q, r⟩ => by
  refine ⟨W, ρ, S, _, N.x, q, r.x, fun y ρ1 q1 W1 v H1 l1 S1 r1 => ?_⟩
  refine ⟨W1, ρ1, S1, _, N.x, q1, (r.mono l1).x, fun s ρ2 q2 W2 w H2 l2 S2 r2 => ?_⟩
  obtain ⟨rfl, ⟨n, rfl, hn, hb⟩, q2⟩ := q2
  cases r1
  obtain ⟨a, g, c, rfl, e⟩ := st_of r2
  obtain ⟨gs, r0, t, h1, h2, h3, h4, h5, h6, h7, h8⟩ := S2.stTurn e
  exact ⟨a, _, rfl, DPut.k (k := .inr (Str.ofString "turn")) h1 (by show 4 < sizeLine; decide), r.nx _ W2 σ _ q2 (l1.trans l2) (S2.turn e h1 hn hb)⟩
theorem ints_pls : ∀ gs : List Int, D.pls (gs.map .int) = true
  | [] => rfl
  | g :: gs => by
    show (D.pl (.int g) && D.pls (gs.map .int)) = true
    rw [ints_pls gs]; rfl
theorem ints_deps : ∀ gs : List Int, D.deps (gs.map .int) = 0
  | [] => rfl
  | g :: gs => by
    show max (D.dep (.int g)) (D.deps (gs.map .int)) = 0
    rw [ints_deps gs]; rfl
theorem ints_ok (gs : List Int) : D.ok (.lst (gs.map .int)) = true := by
  unfold D.ok
  have h1 : D.pl (.lst (gs.map .int)) = true := ints_pls gs
  have h2 : D.dep (.lst (gs.map .int)) = 1 := by
    show D.deps (gs.map .int) + 1 = 1
    rw [ints_deps]
  rw [h1, h2]; rfl
theorem ints_ne (gs : List Int) : oNe (.lst (gs.map .int)) (.lst []) = some (.bl (!gs.isEmpty)) := by
  unfold oNe
  rw [if_pos ⟨ints_ok gs, rfl⟩]
  cases gs with
  | nil => rfl
  | cons g gs => rfl
/-- state['great'].pop(0) if state['great'] != [] else e -/
def dStP (i : Nat) (dm : DE) : DE := fun ρ P X => rdv i ρ = some .st ∧ (∀ n : Int, 0 ≤ n → P (.int n) ρ) ∧ dm ρ P X
theorem je_stP {dm : DE} {i : Nat} {o1 o2 em : Expr} {p1 p2 p3 p4 p5 p6 : Pos} {j1 j2 : Nat} (C : Ctx X J) (h1 : PE X o1 (tVar i)) (h2 : PE X o2 (tVar i)) (hm : JE J X em dm)
    (hbase : attributeBase (.Subscript o2 (.Constant (.str "great") j2 p4) p5) "pop" X.env (eval (.Subscript o2 (.Constant (.str "great") j2 p4) p5) X.env) = eval (.Subscript o2 (.Constant (.str "great") j2 p4) p5) X.env := by rfl)
    (hfew : ((backTo cpos (starEach [.Constant (.int 0) j p6] X.env)).all (fun x => !x.1) && (backToKw cpos (keywordEach [] X.env)).all (fun x => x.1.isSome) && decide (([.Constant (.int 0) j p6] : List Expr).length + ([] : List Keyword).length + (if ([] : List Keyword).isEmpty then 0 else 1) < 30)) = true := by rfl)
    (hline : (apos.endLine == cpos.line) = true := by rfl) :
    JE J X (.IfExp (.Compare (.Subscript o1 (.Constant (.str "great") j1 p1) p2) [.NotEq] [.List [] p3] kp) (.Call (.Attribute (.Subscript o2 (.Constant (.str "great") j2 p4) p5) "pop" apos) [.Constant (.int 0) j p6] [] cpos) em pos) (dStP i dm) :=
  PE.imp (pe_ifExp (pt_cmpR (op_neD (by have := C.un; omega)) (pe_dget (un1 C) h1 pe_str noSl_str) (pe_lst pa_nil) (nomark _)) (pe_bm PySem.F.plainAttrs_list PySem.F.slot_list_pop PySem.F.type_list_pop mt_popAt (pe_dget (un1 C) h2 pe_str noSl_str) (pa_cons pe_int pa_nil) hbase hfew hline (by rfl) (by rfl)) hm) fun σ H Q ⟨W, ρ, S, P, X', ⟨q0, q1, q2⟩, x, k⟩ => by
    unfold rdv at q0
    split at q0
    case h_2 => cases q0
    rename_i z hz
    cases q0
    obtain ⟨v, e1, e2⟩ := S.slot i _ hz
    obtain ⟨a, g, c, rfl, e⟩ := st_of e2
    obtain ⟨gs, r, t, g1, g2, g3, g4, g5, g6, g7, g8⟩ := S.stTurn e
    refine ⟨.ref a, e1, a, .ref g, rfl, DGet.k (k := .inr (Str.ofString "great")) g1, by show 0 ≤ sizeLine; exact Nat.zero_le _, fun p np => ?_⟩
    have S1 := S.newH (o := .lst []) np
    have g1' : upd H p (.lst []) a = some (stO g c r t) := by rw [upd_ne (ne_of_none g1 np)]; exact g1
    have g2' : upd H p (.lst []) g = some (.lst (gs.map .int)) := by rw [upd_ne (ne_of_none g2 np)]; exact g2
    have hl : (gs.map D.int).length ≤ sizeLine := by rw [List.length_map, sizeLine_eq]; omega
    rw [C.K]
    refine ok_ne W _ _ _ (.lst (gs.map .int)) (.lst []) _ _ S1.sub (.lst g2' (RepL.of_ints gs) hl) (.lst upd_same .nil (Nat.zero_le _)) (ints_ne gs) fun W' v H' gr rv => ?_
    obtain ⟨S2, l2⟩ := S1.grow gr
    cases rv
    refine ⟨_, rfl, ?_⟩
    cases gs with
    | nil =>
      rw [show (!([] : List Int).isEmpty) = false from rfl, if_neg Bool.false_ne_true]
      exact ⟨W', ρ, S2, P, X', q2, x.mono l2, fun r ρ' p W2 v H2 l s rp => k r ρ' p W2 v H2 (l2.trans l) s rp⟩
    | cons n gs =>
      rw [show (!(n :: gs).isEmpty) = true from rfl, if_pos rfl]
      have e' : W'.S = some (a, g, c) := by
        rcases gr with ⟨rfl, rfl⟩ | ⟨_, _, _, rfl, rfl⟩
        · exact e
        · exact e
      obtain ⟨gs', r', t', k1, k2, k3, k4, k5, k6, k7, k8⟩ := S2.stTurn e'
      have kk1 : H' a = some (stO g c r t) ∧ H' g = some (.lst ((n :: gs).map .int)) := by
        rcases gr with ⟨rfl, rfl⟩ | ⟨b, _, nb, rfl, rfl⟩
        · exact ⟨g1', g2'⟩
        · exact ⟨by rw [upd_ne (ne_of_none g1' nb)]; exact g1', by rw [upd_ne (ne_of_none g2' nb)]; exact g2'⟩
      obtain ⟨kk1, kk2⟩ := kk1
      refine ⟨.ref a, e1, a, .ref g, rfl, DGet.k (k := .inr (Str.ofString "great")) kk1, .inl ⟨rfl, _, .inl (.inl kk2)⟩, ?_⟩
      refine ⟨g, (n :: gs).map .int, 0, 0, .int n, rfl, rfl, kk2, by decide, by decide, (seqIndex_of (Int.le_refl 0) (by rw [List.length_map, List.length_cons]; omega)), rfl, ?_⟩
      have hg := g4
      exact k (.int n) ρ (q1 n (hg n List.mem_cons_self)) W' (.int n) _ l2 (S2.great e' (gs := gs) (fun z hz => hg z (List.mem_cons_of_mem _ hz)) (by simp at g5; omega)) (.int n)
end
end DL

/-! DL: short words for a law's walk. -/
namespace DL
open PySem PySem.Spec PyProof.Rows L2

/-! ### names that the top does not bind -/
def BT (mg : Str → Option Value) (L : List Str) : Prop := ∀ x ∈ L, mg x = none
theorem BT.get {mg : Str → Option Value} {L : List Str} (B : BT mg L) {x : Str} (h : x ∈ L := by decide) : mg x = none := B x h
def BltOk (X : Cx) (J : Jc) (x : Str) (op : List D → Option D) : Prop := ∃ r, Blt X x r ∧ CallOk J.G r op
def BltOkF (X : Cx) (J : Jc) (x : Str) (op : List D → Option (List D)) : Prop := ∃ r, Blt X x r ∧ CallF J.G r op
section
variable {X : Cx} {J : Jc} {L : List Str}
theorem bo_len (C : Ctx X J) (B : BT X.mg L) (h : ("len" : Str) ∈ L := by decide) : BltOk X J "len" bLen := ⟨_, .fn _ cr_len (B.get h) PySem.boot_len, by rw [C.K]; exact ok_len⟩
theorem bo_all (C : Ctx X J) (B : BT X.mg L) (h : ("all" : Str) ∈ L := by decide) : BltOk X J "all" bAll := ⟨_, .fn _ (cr_all C.calm) (B.get h) PyProof.Rows.boot_all, by rw [C.K]; exact ok_all⟩
theorem bo_any (C : Ctx X J) (B : BT X.mg L) (h : ("any" : Str) ∈ L := by decide) : BltOk X J "any" bAny := ⟨_, .fn _ (cr_any C.calm) (B.get h) PyProof.Rows.boot_any, by rw [C.K]; exact ok_any⟩
theorem bo_sum (C : Ctx X J) (B : BT X.mg L) (h : ("sum" : Str) ∈ L := by decide) : BltOk X J "sum" bSum := ⟨_, .fn _ (cr_sum C.calm) (B.get h) PyProof.Rows.boot_sum, by rw [C.K]; exact ok_sum⟩
theorem bo_min (C : Ctx X J) (B : BT X.mg L) (h : ("min" : Str) ∈ L := by decide) : BltOk X J "min" bMin := ⟨_, .fn _ (cr_minA C.calm) (B.get h) PyProof.Rows.boot_min, by rw [C.K]; exact ok_min⟩
theorem bo_max (C : Ctx X J) (B : BT X.mg L) (h : ("max" : Str) ∈ L := by decide) : BltOk X J "max" bMax := ⟨_, .fn _ (cr_maxA C.calm) (B.get h) PyProof.Rows.boot_max, by rw [C.K]; exact ok_max⟩
theorem bo_abs (C : Ctx X J) (B : BT X.mg L) (h : ("abs" : Str) ∈ L := by decide) : BltOk X J "abs" bAbs := ⟨_, .fn _ call_abs (B.get h) PyProof.Rows.boot_abs, ok_abs⟩
theorem bo_int (C : Ctx X J) (B : BT X.mg L) (h : ("int" : Str) ∈ L := by decide) : BltOk X J "int" bInt := ⟨_, .ty _ call_int1 (B.get h) PyProof.Rows.boot_int, ok_int⟩
theorem bo_tuple (C : Ctx X J) (B : BT X.mg L) (h : ("tuple" : Str) ∈ L := by decide) : BltOk X J "tuple" bTuple := ⟨_, .ty _ call_tuple_of (B.get h) PyProof.Rows.boot_tuple, by rw [C.K]; exact ok_tuple⟩
theorem bo_list (C : Ctx X J) (B : BT X.mg L) (h : ("list" : Str) ∈ L := by decide) : BltOkF X J "list" bList := ⟨_, .ty _ call_list_of (B.get h) PyProof.Rows.boot_list, by rw [C.K]; exact ok_list⟩
theorem bo_sorted (C : Ctx X J) (B : BT X.mg L) (h : ("sorted" : Str) ∈ L := by decide) : BltOkF X J "sorted" bSorted := ⟨_, .fn _ cr_sortedI (B.get h) PyProof.Rows.boot_sorted, by rw [C.K]; exact ok_sorted⟩
variable {pos p : Pos} {e : Expr} {es : List Expr} {n : Nat} {x : Str}
theorem je_bO {op : List D → Option D} {das : List DB} (b : BltOk X J x op) (hg : Gl X x) (ha : JA J X (e :: es) n (dArgs das)) (hn : x ≠ "__name__" := by decide) (hdb : (x == ("__debug__" : Str)) = false := by decide)
    (he : starEach (e :: es) X.env = (false, eval e X.env) :: starEach es X.env := by rfl) (hpl : (backTo pos (starEach es X.env)).any (·.1) = false := by rfl) : JE J X (.Call (.Name x p) (e :: es) [] pos) (dCb op das) := by
  obtain ⟨r, h1, h2⟩ := b
  exact je_b h1 h2 hg ha hn hdb he hpl
theorem je_bOP {op : List D → Option D} {fs : List PuF} (b : BltOk X J x op) (hg : Gl X x) (ha : JA J X (e :: es) n (dArgs (fs.map pb))) (hn : x ≠ "__name__" := by decide) (hdb : (x == ("__debug__" : Str)) = false := by decide)
    (he : starEach (e :: es) X.env = (false, eval e X.env) :: starEach es X.env := by rfl) (hpl : (backTo pos (starEach es X.env)).any (·.1) = false := by rfl) : JE J X (.Call (.Name x p) (e :: es) [] pos) (pu (pC op fs)) := by
  obtain ⟨r, h1, h2⟩ := b
  exact je_bP h1 h2 hg ha hn hdb he hpl
theorem jf_bO {op : List D → Option (List D)} {das : List DB} (b : BltOkF X J x op) (hg : Gl X x) (ha : JA J X (e :: es) n (dArgs das)) (hn : x ≠ "__name__" := by decide) (hdb : (x == ("__debug__" : Str)) = false := by decide)
    (he : starEach (e :: es) X.env = (false, eval e X.env) :: starEach es X.env := by rfl) (hpl : (backTo pos (starEach es X.env)).any (·.1) = false := by rfl) : JF J X (.Call (.Name x p) (e :: es) [] pos) (dCbF op das) := by
  obtain ⟨r, h1, h2⟩ := b
  exact jf_b h1 h2 hg ha hn hdb he hpl
theorem jf_bOP {op : List D → Option (List D)} {fs : List PuF} (b : BltOkF X J x op) (hg : Gl X x) (ha : JA J X (e :: es) n (dArgs (fs.map pb))) (hn : x ≠ "__name__" := by decide) (hdb : (x == ("__debug__" : Str)) = false := by decide)
    (he : starEach (e :: es) X.env = (false, eval e X.env) :: starEach es X.env := by rfl) (hpl : (backTo pos (starEach es X.env)).any (·.1) = false := by rfl) : JF J X (.Call (.Name x p) (e :: es) [] pos) (pf (pCF op fs)) := by
  obtain ⟨r, h1, h2⟩ := b
  exact jf_bP h1 h2 hg ha hn hdb he hpl

/-! ### a slot, whatever it holds, handed on -/
def dVF (i : Nat) : DE := fun ρ P _ => (∃ d, ρ[i]? = some (.val d) ∧ P d ρ) ∨ ∃ ds, ρ[i]? = some (.ml ds) ∧ P (.lst ds) (ρ.set i (.val (.lst ds)))
theorem je_vf {i : Nat} (h : PE X e (tVar i)) : JE J X e (dVF i) := PE.imp h fun σ H Q ⟨W, ρ, S, P, X, q, x, k⟩ => by
  rcases q with ⟨d, e, p⟩ | ⟨ds, e, p⟩
  · obtain ⟨v, e1, e2⟩ := S.slot i _ e
    exact ⟨v, e1, k d ρ p W v H .rfl' S e2⟩
  · obtain ⟨a, W', e1, le, r, S'⟩ := S.freeze e
    exact ⟨.ref a, e1, k _ _ p W' _ H le S' r⟩
/-- {} -/
theorem je_dict0 : JE J X (.Dict [] [] pos) (pu fun _ => some (.dct [])) := PE.imp pe_dnewK fun σ H Q ⟨W, ρ, S, P, X, ⟨d, e, p⟩, x, k⟩ q nq => by
  cases e
  have l : W.le (W.add q (.dK [])) := Wd.le_add (S.free nq).1
  exact k _ ρ p (W.add q (.dK [])) (.ref q) _ l (S.newF nq) (.dct (show upd W.F q (.dK []) q = _ from upd_same) .nil (Nat.zero_le _))

/-! ### a def that keeps its promise -/
structure FT (P : Program) (w : World) (K : PySem.W.Frag) (mg : Str → Option Value) (base : Heap) (G : Gm) (x : Str) (ps : List Str) (k m : Nat) (sp : DSp) (kws : List (Nat × List Str × List Nat)) : Prop where
  ex : ∃ (a : Addr) (fd : FuncData), FnG P w K mg base k a fd ps (liftSp G ps.length m sp) ∧ mg x = some (.ref a) ∧ PySem.W.keepIn K (.ref a) = true ∧ Binds K fd ps [] ∧ ∀ q ∈ kws, KBn K fd ps q.1 q.2.1 (fun us ws => pickL q.2.2 (us ++ ws)) (fun vs zs => pickL q.2.2 (vs ++ zs))
section
variable {ps : List Str} {k m : Nat} {sp : DSp} {kws : List (Nat × List Str × List Nat)} {das dks : List DB}
theorem je_ct {l : Nat} (C : Ctx X J) (T : FT X.prog X.w X.K X.mg X.base J.G x ps k m sp kws) (hr : Room k X.A) (hg : Gl X x) (ha : JA J X (e :: es) l (dArgs das)) (hl : ps.length = l := by rfl) (hdb : (x == ("__debug__" : Str)) = false := by decide)
    (he : starEach (e :: es) X.env = (false, eval e X.env) :: starEach es X.env := by rfl) (hpl : (backTo pos (starEach es X.env)).any (·.1) = false := by rfl) : JE J X (.Call (.Name x p) (e :: es) [] pos) (dCall m sp das) := by
  obtain ⟨a, fd, h1, h2, h3, h4, _⟩ := T.ex
  subst hl
  exact je_call C h1 hr h2 h3 h4 hg ha hdb he hpl
theorem je_ct0 (C : Ctx X J) (T : FT X.prog X.w X.K X.mg X.base J.G x [] k m sp kws) (hr : Room k X.A) (hg : Gl X x) (hdb : (x == ("__debug__" : Str)) = false := by decide) : JE J X (.Call (.Name x p) [] [] pos) (dCall m sp []) := by
  obtain ⟨a, fd, h1, h2, h3, h4, _⟩ := T.ex
  exact je_call0 C h1 hr h2 h3 h4 hg hdb
theorem je_ctK {kw : List Keyword} {ks : List Str} {js : List Nat} (C : Ctx X J) (T : FT X.prog X.w X.K X.mg X.base J.G x ps k m sp kws) (hr : Room k X.A) (hg : Gl X x) (hq : (n, ks, js) ∈ kws) (hjs : ∀ {α : Type} (xs : List α), xs.length = n + ks.length → (pickL js xs).length = ps.length) (ha : JA J X (e :: es) n (dArgs das)) (hkw : JK J X kw ks.length (dArgs dks))
    (hall : (backToKw pos (keywordEach kw X.env)).all (·.1.isSome) = true := by rfl) (hks : (backToKw pos (keywordEach kw X.env)).filterMap (·.1) = ks := by rfl) (hdb : (x == ("__debug__" : Str)) = false := by decide)
    (he : starEach (e :: es) X.env = (false, eval e X.env) :: starEach es X.env := by rfl) (hpl : ((backTo pos (starEach (e :: es) X.env)).any (·.1) || (backToKw pos (keywordEach kw X.env)).any (·.1.isNone)) = false := by rfl) :
    JE J X (.Call (.Name x p) (e :: es) kw pos) (dCallK m sp js das dks) := by
  obtain ⟨a, fd, h1, h2, h3, _, h4⟩ := T.ex
  exact je_callK C h1 hr h2 h3 (h4 _ hq) hg hjs ha hkw hall hks hdb he hpl
theorem je_ctK0 {kw : List Keyword} {ks : List Str} {js : List Nat} (C : Ctx X J) (T : FT X.prog X.w X.K X.mg X.base J.G x ps k m sp kws) (hr : Room k X.A) (hg : Gl X x) (hq : (0, ks, js) ∈ kws) (hjs : ∀ {α : Type} (xs : List α), xs.length = 0 + ks.length → (pickL js xs).length = ps.length) (hkw : JK J X kw ks.length (dArgs dks))
    (hall : (backToKw pos (keywordEach kw X.env)).all (·.1.isSome) = true := by rfl) (hks : (backToKw pos (keywordEach kw X.env)).filterMap (·.1) = ks := by rfl) (hdb : (x == ("__debug__" : Str)) = false := by decide)
    (hpl : ((backTo pos (starEach [] X.env)).any (·.1) || (backToKw pos (keywordEach kw X.env)).any (·.1.isNone)) = false := by rfl) :
    JE J X (.Call (.Name x p) [] kw pos) (dCallK m sp js [] dks) := by
  obtain ⟨a, fd, h1, h2, h3, _, h4⟩ := T.ex
  exact je_callK0 C h1 hr h2 h3 (h4 _ hq) hg hjs hkw hall hks hdb hpl
end

/-! ### constants of the top, built-in classes as values -/
theorem je_gint {n : Int} (T : ∃ t, X.mg x = some (.int n t)) (hg : Gl X x) (hd : (x == ("__debug__" : Str)) = false := by decide) : JE J X (.Name x pos) (pu fun _ => some (.int n)) := by
  obtain ⟨t, h⟩ := T
  exact je_gl (v := .int n) hg h ⟨t, rfl⟩ (fun W => .int n) hd
theorem pe_bty {T : String} (hm : X.mg (Str.ofString T) = none) (hg : Gl X (Str.ofString T)) (hv : bootBuiltins (Str.ofString T) = some (.type T) := by decide +kernel) (hn : Str.ofString T ≠ "__name__" := by decide) (hd : (Str.ofString T == ("__debug__" : Str)) = false := by decide) : PE X (.Name (Str.ofString T) pos) (tC (.ty T)) := pe_bltn hg hm hv rfl hn hd
theorem uu (C : Ctx X J) (n : Nat) (h : n ≤ 100 := by decide) : X.A.units + n < cLine := by
  have := C.un
  omega
theorem pick_some {α : Type} : ∀ {js : List Nat} {xs : List α}, (∀ j ∈ js, j < xs.length) → (pickL js xs).length = js.length
  | [], _, _ => rfl
  | j :: js, xs, h => by
    unfold pickL
    rw [List.getElem?_eq_getElem (h j List.mem_cons_self)]
    show (pickL js xs).length + 1 = js.length + 1
    rw [pick_some fun k hk => h k (List.mem_cons_of_mem _ hk)]
theorem pick_len {α : Type} {js : List Nat} {n l : Nat} (xs : List α) (h : xs.length = n) (hj : (js.all (fun j => decide (j < n)) && decide (js.length = l)) = true) : (pickL js xs).length = l := by
  simp only [Bool.and_eq_true, List.all_eq_true, decide_eq_true_eq] at hj
  rw [pick_some (fun j m => by rw [h]; exact hj.1 j m), hj.2]
/-- name = [.. for .. for ..] on one line -/
theorem js_lc2 {i : Nat} {y : Str} {py spos : Pos} {tg iter elt tg1 iter1 : Expr} {ifs ifs1 : List Expr} {scope : Scope} {own : List (Str × Nat)} {vs1 : List Nat} {di di1 : DI} {g g1 : TgF} {tt tt1 : DT} {te : DE} (C : Ctx X J) (hy : X.N[i]? = some y) (hyl : X.env.scope.names.lookup y = some .local)
    (hsw : swapsWith (.ListComp elt [⟨tg, iter, ifs, 0⟩, ⟨tg1, iter1, ifs1, 0⟩] scope pos) (some (.Name y py)) spos.line X.env = pure true) (hi : JI J X tg iter di) (ok : BlkOk X.N X.env.scope scope own) (hv : ∀ i ∈ vs1, i ∈ own.map (·.2))
    (hg : ∀ (s : Shared) (H : Hp) (A : Addr) (cl : List (Str × Addr)) (fp : List Addr) (h0 : Hp), PG (X.blk s H scope (compEnvC scope cl A X.env) fp) tg (tG (J.at h0) (own.map (·.2)) g))
    (ht : ∀ (s : Shared) (H : Hp) (A : Addr) (cl : List (Str × Addr)) (fp : List Addr) (h0 : Hp), PTs (X.blk s H scope (compEnvC scope cl A X.env) fp) ifs (tTs (J.at h0) tt))
    (hi1 : ∀ (s : Shared) (H : Hp) (A : Addr) (cl : List (Str × Addr)) (fp : List Addr) (h0 : Hp), JI (J.at h0) (X.blk s H scope (compEnvC scope cl A X.env) fp) tg1 iter1 di1)
    (hg1 : ∀ (s : Shared) (H : Hp) (A : Addr) (cl : List (Str × Addr)) (fp : List Addr) (h0 : Hp), PG (X.blk s H scope (compEnvC scope cl A X.env) fp) tg1 (tG (J.at h0) vs1 g1))
    (ht1 : ∀ (s : Shared) (H : Hp) (A : Addr) (cl : List (Str × Addr)) (fp : List Addr) (h0 : Hp), PTs (X.blk s H scope (compEnvC scope cl A X.env) fp) ifs1 (tTs (J.at h0) tt1))
    (he : ∀ (s : Shared) (H : Hp) (A : Addr) (cl : List (Str × Addr)) (fp : List Addr) (h0 : Hp), PE (X.blk s H scope (compEnvC scope cl A X.env) fp) elt (tE (J.at h0) te))
    (hs : ∀ x, foldedSetIterable iter X.env x = pure x := by intro _; rfl) (hs1 : ∀ env x, foldedSetIterable iter1 env x = pure x := by intro _ _; rfl) :
    PS X (.Assign [.Name y py] (.ListComp elt [⟨tg, iter, ifs, 0⟩, ⟨tg1, iter1, ifs1, 0⟩] scope pos) spos) (fun E σ H => tF J (dComp2 di (own.map (·.2)) g tt di1 vs1 g1 tt1 te) σ H fun x H1 => gName i x σ H1 E.nx) :=
  PS.imp (ps_setLc2 C.calm C.nd hy hyl hsw hi ok hv (fun s H A cl fp => ⟨fun pins s2 σ H v w Q I r ⟨h0, q⟩ => (hg s _ A cl fp h0).run pins s2 σ H v w Q I r q⟩) (fun s H A cl fp => ⟨fun pins s2 σ H Q I ⟨h0, q⟩ => (ht s _ A cl fp h0).run pins s2 σ H Q I q⟩)
    (fun s H A cl fp => ⟨fun pins s2 σ H R I ⟨h0, q⟩ => (hi1 s _ A cl fp h0).run pins s2 σ H R I q⟩)
    (fun s H A cl fp => ⟨fun pins s2 σ H v w Q I r ⟨h0, q⟩ => (hg1 s _ A cl fp h0).run pins s2 σ H v w Q I r q⟩) (fun s H A cl fp => ⟨fun pins s2 σ H Q I ⟨h0, q⟩ => (ht1 s _ A cl fp h0).run pins s2 σ H Q I q⟩)
    (fun s H A cl fp => ⟨fun pins s2 σ H Q I ⟨h0, q⟩ => (he s _ A cl fp h0).run pins s2 σ H Q I q⟩) hs hs1) fun E σ H h => lc2_imp hv h
/-! ### a, b = x, y where new lists stand -/
theorem Ctx.at (C : Ctx X J) {h0 : Hp} : Ctx X (J.at h0) := ⟨C.K, C.calm, C.un, L2.takes0, C.po, C.nd, C.gd⟩
def noX : DX := fun _ _ _ => False
def dParMM (i j : Nat) (d1 d2 : DF) : DS := fun ρ N => d1 ρ (fun r1 ρ1 => d2 ρ1 (fun r2 ρ2 => N.nx ((ρ2.set i (.ml r1)).set j (.ml r2))) noX) N.x
def dParMV (i j : Nat) (d1 : DF) (d2 : DE) : DS := fun ρ N => d1 ρ (fun r1 ρ1 => d2 ρ1 (fun r2 ρ2 => N.nx ((ρ2.set i (.ml r1)).set j (.val r2))) noX) N.x
def dParVM (i j : Nat) (d1 : DE) (d2 : DF) : DS := fun ρ N => d1 ρ (fun r1 ρ1 => d2 ρ1 (fun r2 ρ2 => N.nx ((ρ2.set i (.val r1)).set j (.ml r2))) N.x) N.x
def tFAt (J : Jc) (d : DF) : TE := fun σ H Q => ∃ h0, tF (J.at h0) d σ H Q
def tEAt (J : Jc) (d : DE) : TE := fun σ H Q => ∃ h0, tE (J.at h0) d σ H Q
theorem w0c {W : Wd} {ρ : Env} {σ : L2.St} {H : Hp} {p : Addr} (S : Sim J W ρ σ H) (n : H p = none) : p ∉ cellsOf J.W0.S ∧ J.W0.F p = none := by
  obtain ⟨f1, f2, f3⟩ := S.free n
  refine ⟨?_, ?_⟩
  · rcases S.w0.s with z | z
    · rw [z]; exact fun m => nomatch m
    · rw [← z]; exact f2
  · cases e : J.W0.F p with
    | none => rfl
    | some u => rw [S.w0.f _ _ e] at f1; cases f1
section
variable {i j : Nat} {a b : Expr} {y : Str} {px py pt pt2 : Pos} {kt k2 : Nat}
theorem js_parMM {d1 d2 : DF} (C : Ctx X J) (ha : JF J X a d1) (hb : ∀ h0, JF (J.at h0) X b d2) (hi : X.N[i]? = some x) (hj : X.N[j]? = some y) (hij : i ≠ j) (hx : X.env.scope.names.lookup x = some .local) (hy : X.env.scope.names.lookup y = some .local)
    (hw : swappedStores [.Tuple [.Name x px, .Name y py] kt pt] (.Tuple [a, b] k2 pt2) X.env = pure (some [x, y])) (hs : swapsWithSole [.Tuple [.Name x px, .Name y py] kt pt] (.Tuple [a, b] k2 pt2) pos.line X.env = pure false := by rfl)
    (he1 : starEach [a, b] X.env = (false, eval a X.env) :: starEach [b] X.env := by rfl) (he2 : starEach [b] X.env = (false, eval b X.env) :: starEach [] X.env := by rfl) : JS J X (.Assign [.Tuple [.Name x px, .Name y py] kt pt] (.Tuple [a, b] k2 pt2) pos) (dParMM i j d1 d2) :=
  PS.imp (ps_par C.calm C.nd hi hj hij hx hy (pa_cons ha (pa_cons (te := tFAt J d2) ⟨fun pins s σ H Q I ⟨h0, q⟩ => (hb h0).run pins s σ H Q I q⟩ pa_nil he2) he1) hw hs) fun E σ H ⟨W, ρ, S, N, q, r⟩ => by
    refine ⟨W, ρ, S, _, N.x, q, r.x, fun r1 ρ1 q1 W1 p1 vs1 H1 l1 S1 n1 rl1 z1 => ?_⟩
    obtain ⟨g1, g2⟩ := w0c S1 n1
    refine ⟨upd J.H0 p1 (.lst vs1), W1, ρ1, S1.guest n1 vs1, _, noX, q1, XOk.no, fun r2 ρ2 q2 W2 p2 vs2 H2 l2 S2 n2 rl2 z2 => ?_⟩
    have gc := S2.guestC g1
    have gf := S2.guestF g2
    obtain ⟨H', rfl, n', S'⟩ := S2.unguest gc gf (S1.free n1).2.2
    refine ⟨.ref p1, .ref p2, rfl, ?_⟩
    exact r.nx _ W2 _ _ q2 (l1.trans l2) ((S'.setm n' (rl1.mono l2) z1).setm n2 rl2 z2)
theorem js_parMV {d1 : DF} {d2 : DE} (C : Ctx X J) (ha : JF J X a d1) (hb : ∀ h0, JE (J.at h0) X b d2) (hi : X.N[i]? = some x) (hj : X.N[j]? = some y) (hij : i ≠ j) (hx : X.env.scope.names.lookup x = some .local) (hy : X.env.scope.names.lookup y = some .local)
    (hw : swappedStores [.Tuple [.Name x px, .Name y py] kt pt] (.Tuple [a, b] k2 pt2) X.env = pure (some [x, y])) (hs : swapsWithSole [.Tuple [.Name x px, .Name y py] kt pt] (.Tuple [a, b] k2 pt2) pos.line X.env = pure false := by rfl)
    (he1 : starEach [a, b] X.env = (false, eval a X.env) :: starEach [b] X.env := by rfl) (he2 : starEach [b] X.env = (false, eval b X.env) :: starEach [] X.env := by rfl) : JS J X (.Assign [.Tuple [.Name x px, .Name y py] kt pt] (.Tuple [a, b] k2 pt2) pos) (dParMV i j d1 d2) :=
  PS.imp (ps_par C.calm C.nd hi hj hij hx hy (pa_cons ha (pa_cons (te := tEAt J d2) ⟨fun pins s σ H Q I ⟨h0, q⟩ => (hb h0).run pins s σ H Q I q⟩ pa_nil he2) he1) hw hs) fun E σ H ⟨W, ρ, S, N, q, r⟩ => by
    refine ⟨W, ρ, S, _, N.x, q, r.x, fun r1 ρ1 q1 W1 p1 vs1 H1 l1 S1 n1 rl1 z1 => ?_⟩
    obtain ⟨g1, g2⟩ := w0c S1 n1
    refine ⟨upd J.H0 p1 (.lst vs1), W1, ρ1, S1.guest n1 vs1, _, noX, q1, XOk.no, fun r2 ρ2 q2 W2 v2 H2 l2 S2 rp2 => ?_⟩
    have gc := S2.guestC g1
    have gf := S2.guestF g2
    obtain ⟨H', rfl, n', S'⟩ := S2.unguest gc gf (S1.free n1).2.2
    refine ⟨.ref p1, v2, rfl, ?_⟩
    exact r.nx _ W2 _ _ q2 (l1.trans l2) ((S'.setm n' (rl1.mono l2) z1).setv rp2)
theorem js_parVM {d1 : DE} {d2 : DF} (C : Ctx X J) (ha : JE J X a d1) (hb : JF J X b d2) (hi : X.N[i]? = some x) (hj : X.N[j]? = some y) (hij : i ≠ j) (hx : X.env.scope.names.lookup x = some .local) (hy : X.env.scope.names.lookup y = some .local)
    (hw : swappedStores [.Tuple [.Name x px, .Name y py] kt pt] (.Tuple [a, b] k2 pt2) X.env = pure (some [x, y])) (hs : swapsWithSole [.Tuple [.Name x px, .Name y py] kt pt] (.Tuple [a, b] k2 pt2) pos.line X.env = pure false := by rfl)
    (he1 : starEach [a, b] X.env = (false, eval a X.env) :: starEach [b] X.env := by rfl) (he2 : starEach [b] X.env = (false, eval b X.env) :: starEach [] X.env := by rfl) : JS J X (.Assign [.Tuple [.Name x px, .Name y py] kt pt] (.Tuple [a, b] k2 pt2) pos) (dParVM i j d1 d2) :=
  PS.imp (ps_par C.calm C.nd hi hj hij hx hy (pa_cons ha (pa_cons hb pa_nil he2) he1) hw hs) fun E σ H ⟨W, ρ, S, N, q, r⟩ => by
    refine ⟨W, ρ, S, _, N.x, q, r.x, fun r1 ρ1 q1 W1 v1 H1 l1 S1 rp1 => ?_⟩
    refine ⟨W1, ρ1, S1, _, N.x, q1, (r.mono l1).x, fun r2 ρ2 q2 W2 p2 vs2 H2 l2 S2 n2 rl2 z2 => ?_⟩
    exact ⟨v1, .ref p2, rfl, r.nx _ W2 _ _ q2 (l1.trans l2) ((S2.setv (rp1.mono l2)).setm n2 rl2 z2)⟩
end
/-! ### own errors, by their numbers -/
structure ErrTT (K : PySem.W.Frag) (mg : Str → Option Value) (G : Gm) (x : Str) (c : Nat) : Prop where
  xP : PySem.W.excIn K (G.cA c) [.type "ValueError", .type "Exception", .type "BaseException", .type "object"] "ValueError.__new__" = true
  gP : mg x = some (.ref (G.cA c))
  kP : PySem.W.keepIn K (.ref (G.cA c)) = true
  bP : PySem.W.subIn K (.ref (G.cA c)) (.type "BaseException") = some true
  tP : PySem.W.typeIn K (.ref (G.cA c)) = some (.type "type")
  fl : G.fl c = []
theorem js_raiseT {p2 cpos : Pos} {m : Str} {j c : Nat} (C : Ctx X J) (T : ErrTT X.K X.mg J.G x c) (hg : Gl X x) (hdb : (x == ("__debug__" : Str)) = false := by decide) : JS J X (.Raise (some (.Call (.Name x p) [.Constant (.str m) j p2] [] cpos)) none pos) (dRaise c) :=
  js_raise C ⟨T.xP, T.gP, T.kP, T.bP, T.tP, T.fl⟩ hg hdb
structure ErrIT (P : Program) (w : World) (K : PySem.W.Frag) (mg : Str → Option Value) (base : Heap) (G : Gm) (x fld : Str) (c : Nat) : Prop where
  ox : OexC K (G.cA c)
  no : PySem.W.findIn K (.ref (G.cA c)) fld = some none
  gm : mg x = some (.ref (G.cA c))
  fl : G.fl c = [fld]
  ex : ∃ fI fd, PySem.W.findIn K (.ref (G.cA c)) "__init__" = some (some (.ref fI)) ∧ PySem.W.typeIn K (.ref fI) = some (.type "function") ∧ FnOk P w K mg base (L2.CX P w) 3 fI fd ["self", fld] (spInit K fld) ∧ Binds K fd ["self", fld] []
theorem js_raise1T {cpos : Pos} {fld : Str} {c : Nat} {d : DE} (C : Ctx X J) (T : ErrIT X.prog X.w X.K X.mg X.base J.G x fld c) (hr : Room 4 X.A) (hg : Gl X x) (he : JE J X e d) (hdb : (x == ("__debug__" : Str)) = false := by decide) (hs : starEach [e] X.env = (false, eval e X.env) :: starEach [] X.env := by rfl) (hpl : (backTo pos (starEach [] X.env)).any (·.1) = false := by rfl) :
    JS J X (.Raise (some (.Call (.Name x p) [e] [] cpos)) none pos) (dRaise1 c d) := by
  obtain ⟨fI, fd, h1, h2, h3, h4⟩ := T.ex
  exact js_raise1 C ⟨T.ox, T.no, h1, h2, T.gm, h3, h4, T.fl⟩ hr hg he hdb hs (by rfl)
/-! ### repr(a) == repr(b) -/
def rpOk (d : D) : Bool := d.ok && d.py.showable && decide (d.py.shown.length ≤ sizeLine)
def rRepr (K : PySem.W.Frag) : List V → Hp → VK → Prop := fun xs H Q => ∃ v d, xs = [v] ∧ Dp K H v d ∧ d.canLay0 = true ∧ d.depth ≤ 64 ∧ d.showable = true ∧ d.shown.length ≤ sizeLine ∧ Q (.str d.shown) H
theorem call_reprD (hu : X.A.units + 66 < cLine) (hg : X.A.guards = some []) : CallR X (.builtin "repr") (rRepr X.K) := by
  intro pins s σ H xs us Q I r h
  obtain ⟨v, d, rfl, hd, hl, hdp, hs, hz, q⟩ := h
  obtain ⟨u, rfl, ru⟩ := vals1 r
  obtain ⟨as, rd⟩ := Dp.reads I d v u hd ru
  have hnd := PyData.hasDict_of_canLay d hl
  have fin : ∀ h' (t : Tok) tk, (∀ b o, s.heap.get? b = some o → h'.get? b = some o) → EP X pins σ Q (.str d.shown t) { s with heap := h', toks := tk } := fun h' t tk k => ⟨.str d.shown, H, I.kept k, ⟨t, rfl⟩, q⟩
  have one : ∀ t, EP X pins σ Q (.str d.shown t) { s with toks := s.toks + 1 } := fun t => ⟨.str d.shown, H, I.tok _, ⟨t, rfl⟩, q⟩
  cases hd with
  | non =>
    cases ru
    simp only [PyData.shown] at one
    exact PySem.P.repr_of_none (one _)
  | bl b =>
    cases ru
    simp only [PyData.shown] at one
    cases b
    · exact PySem.P.repr_of_bool (one _)
    · exact PySem.P.repr_of_bool (one _)
  | int i =>
    obtain ⟨t, rfl⟩ := ru
    simp only [PyData.shown] at one
    exact PySem.P.repr_of_int (by simpa [PyData.showable] using hs) (one _)
  | str x =>
    obtain ⟨t, rfl⟩ := ru
    simp only [PyData.shown] at one hz
    exact PySem.P.repr_of_str (one _) hz
  | lst h1 h2 =>
    cases ru
    exact repr_of_reads' rd hs (fun z => by rw [hnd] at z; cases z) hg (by omega) (fun _ _ e => e) (fun h' u tk k => fin h' u tk k) hz
  | tup h1 h2 =>
    cases ru
    exact repr_of_reads' rd hs (fun z => by rw [hnd] at z; cases z) hg (by omega) (fun _ _ e => e) (fun h' u tk k => fin h' u tk k) hz
def oReprEq (x y : D) : Option D := if rpOk x = true ∧ rpOk y = true then some (.bl (decide (x.py.shown = y.py.shown))) else none
theorem rp_dp {G : Gm} {W : Wd} {H : Hp} {v : V} {d : D} (s : Sub W H) (r : RepH G W H v d) (h : rpOk d = true) : Dp G.K H v d.py ∧ d.py.canLay0 = true ∧ d.py.depth ≤ 64 ∧ d.py.showable = true ∧ d.py.shown.length ≤ sizeLine := by
  unfold rpOk at h
  simp only [Bool.and_eq_true, decide_eq_true_eq] at h
  obtain ⟨⟨h1, h2⟩, h3⟩ := h
  obtain ⟨d1, l1⟩ := r.dp s (ok_pl h1)
  refine ⟨d1, l1, ?_, h2, h3⟩
  rw [dep_py]
  unfold D.ok at h1
  simp only [Bool.and_eq_true, decide_eq_true_eq] at h1
  exact h1.2
def dReprEq (d1 d2 : DB) : DE := fun ρ P X => d1 ρ (fun b1 ρ1 => ∃ x, deref ρ1 b1 = some x ∧ rpOk x = true ∧ d2 ρ1 (fun b2 ρ2 => ∃ y, deref ρ2 b2 = some y ∧ rpOk y = true ∧ P (.bl (decide (x.py.shown = y.py.shown))) ρ2) X) X
theorem je_reprEq {q1 q2 q3 q4 : Pos} {a b : Expr} {d1 d2 : DB} (C : Ctx X J) (B : BT X.mg L) (hu : X.A.units + 66 < cLine) (hg : Gl X "repr") (ha : JB J X a d1) (hb : JB J X b d2) (hm : ("repr" : Str) ∈ L := by decide)
    (he : starEach [a] X.env = (false, eval a X.env) :: starEach [] X.env := by rfl) (he2 : starEach [b] X.env = (false, eval b X.env) :: starEach [] X.env := by rfl) (hpl : (backTo q2 (starEach [] X.env)).any (·.1) = false := by rfl) (hpl2 : (backTo q4 (starEach [] X.env)).any (·.1) = false := by rfl) :
    JE J X (.Compare (.Call (.Name "repr" q1) [a] [] q2) [.Eq] [.Call (.Name "repr" q3) [b] [] q4] pos) (dReprEq d1 d2) :=
  PE.imp (pe_cmpR op_eq (pe_callB (call_reprD hu C.gd) hg (B.get hm) PyProof.Rows.boot_repr (pa_cons ha pa_nil he) (by decide) (by decide) he hpl) (pe_callB (call_reprD hu C.gd) hg (B.get hm) PyProof.Rows.boot_repr (pa_cons hb pa_nil he2) (by decide) (by decide) he2 hpl2) (nomark _)) fun σ H Q ⟨W, ρ, S, P, X', q, x, k⟩ => by
    refine ⟨W, ρ, S, _, X', q, x, fun b1 ρ1 q1 W1 v1 H1 l1 S1 r1 => ?_⟩
    obtain ⟨y1, e1, o1, q1⟩ := q1
    obtain ⟨d1', c1, c2, c3, c4⟩ := rp_dp S1.sub (S1.rdH r1 e1) o1
    rw [← C.K] at d1'
    refine ⟨v1, _, rfl, d1', c1, c2, c3, c4, W1, ρ1, S1, _, X', q1, x.mono l1, fun b2 ρ2 q2 W2 v2 H2 l2 S2 r2 => ?_⟩
    obtain ⟨y2, e2, o2, p⟩ := q2
    obtain ⟨d2', g1, g2, g3, g4⟩ := rp_dp S2.sub (S2.rdH r2 e2) o2
    rw [← C.K] at d2'
    refine ⟨v2, _, rfl, d2', g1, g2, g3, g4, rfl, ?_⟩
    have := k _ ρ2 p W2 _ H2 (l1.trans l2) S2 (.bl _)
    have e : decide (V.str y1.py.shown = V.str y2.py.shown) = decide (y1.py.shown = y2.py.shown) := by
      by_cases h : y1.py.shown = y2.py.shown
      · rw [h]; simp
      · rw [decide_eq_false h, decide_eq_false (fun z => h (V.str.inj z))]
    rw [e]
    exact this
theorem je_reprEqP {q1 q2 q3 q4 : Pos} {a b : Expr} {f g : PuF} (C : Ctx X J) (B : BT X.mg L) (hu : X.A.units + 66 < cLine) (hg : Gl X "repr") (ha : JB J X a (pb f)) (hb : JB J X b (pb g)) (hm : ("repr" : Str) ∈ L := by decide)
    (he : starEach [a] X.env = (false, eval a X.env) :: starEach [] X.env := by rfl) (he2 : starEach [b] X.env = (false, eval b X.env) :: starEach [] X.env := by rfl) (hpl : (backTo q2 (starEach [] X.env)).any (·.1) = false := by rfl) (hpl2 : (backTo q4 (starEach [] X.env)).any (·.1) = false := by rfl) :
    JE J X (.Compare (.Call (.Name "repr" q1) [a] [] q2) [.Eq] [.Call (.Name "repr" q3) [b] [] q4] pos) (pu (p2 oReprEq f g)) := JE.imp (je_reprEq C B hu hg ha hb hm he he2 hpl hpl2) fun ρ P X' ⟨c, e, p⟩ => by
  obtain ⟨x, y, e1, e2, e3⟩ := p2_some e
  unfold oReprEq at e3
  split at e3
  · rename_i h
    cases e3
    exact ⟨⟨x, e1⟩, fun b1 h1 => ⟨x, h1.trans e1, h.1, ⟨y, e2⟩, fun b2 h2 => ⟨y, h2.trans e2, h.2, p⟩⟩⟩
  · cases e3
end
end DL

/-! DL: the state is made. -/
namespace DL
open PySem PySem.Spec PyProof.Rows L2

section
variable {J : Jc} {W : Wd} {ρ : Env} {σ : L2.St} {H : Hp} {p : Addr}
/-- any object of the block's own beside -/
theorem Sim.guestO (h : Sim J W ρ σ H) (n : H p = none) (o : HO) (ho : nTb o = true) : Sim (J.at (upd J.H0 p o)) W ρ σ (upd H p o) := by
  have g := h.newH (o := o) n
  obtain ⟨f1, f2, f3⟩ := h.free n
  have no : ∀ a, (∃ u, H a = some u) → a ≠ p := fun a ⟨u, e⟩ => ne_of_none e n
  have own : ∀ a, (∃ u, H a = some u) → Own1 J W a → Own1 (J.at (upd J.H0 p o)) W a := fun a e ⟨w1, w2, w3⟩ => ⟨w1, by show upd J.H0 p o a = none; rw [upd_ne (no a e)]; exact w2, w3⟩
  refine ⟨g.sub, g.len, fun i s e => ?_, g.dist, g.st, fun a u e m => ?_, fun e a m => ?_, fun a u e => ?_, g.w0, fun a u e => ?_, g.bud⟩
  · have z := g.slot i s e
    have z0 := h.slot i s e
    cases s with
    | un => trivial
    | fuel n => trivial
    | val d => exact z
    | ml ds =>
      obtain ⟨a, ws, q1, q2, q3, q4, q5⟩ := z
      obtain ⟨a', ws', p1, p2, _⟩ := z0
      rw [q1] at p1; cases p1
      exact ⟨a, ws, q1, q2, q3, q4, own a ⟨_, p2⟩ q5⟩
    | md ds =>
      obtain ⟨a, ws, q1, q2, q3, q4, q5⟩ := z
      obtain ⟨a', ws', p1, p2, _⟩ := z0
      rw [q1] at p1; cases p1
      exact ⟨a, ws, q1, q2, q3, q4, own a ⟨_, p2⟩ q5⟩
    | lam k => exact z
  · by_cases ha : a = p
    · subst ha
      have e : upd J.H0 a o a = some u := e
      rw [upd_same] at e ⊢
      exact e
    · have e : upd J.H0 p o a = some u := e
      rw [upd_ne ha] at e
      exact g.out a u e m
  · show upd J.H0 p o a = none
    rw [upd_ne (fun z => by rw [z] at m; exact f2 m)]
    exact g.new e a m
  · by_cases ha : a = p
    · subst ha
      rw [f1] at e; cases e
    · show _ ∨ upd J.H0 p o a = none
      rw [upd_ne ha]
      exact g.fr a u e
  · have e : upd J.H0 p o a = some u := e
    by_cases ha : a = p
    · subst ha
      rw [upd_same] at e
      cases e; exact ho
    · rw [upd_ne ha] at e
      exact h.h0 a u e
end
/-- the promise of _law_begun -/
def liftB (G : Gm) : Sp := fun vs H Q _ => vs.length = 1 ∧ ∃ W ns, W.S = none ∧ Sub W H ∧ StOk W H ∧ RepL G W vs [.scr ns] ∧ (∀ W' v H', KeepC 0 W H W' H' → Rep G W' v .st → Q v H')
section
variable {P : Program} {w : World} {K : PySem.W.Frag} {mg : Str → Option Value} {base : Heap}
theorem begun_ok {cA : Nat → Addr} {fl : Nat → List Str} {qual : Str} {st : Stmt} {f : Addr} {fd : FuncData} {N : List Str} {d1 d2 : DF} {st1 : Stmt} {e2 : Expr} {x1 x2 x3 : Pos} {j1 j2 j3 j4 j5 j6 : Nat} {y1 y2 y3 y4 y5 y6 : Pos} (F : Fun K "_law_begun" qual st f fd) (S : FnScope N ["script"] (defScope st)) (hN : N.length = 3) (hN1 : N[1]? = some ("great" : Str)) (hv : Vis (defScope st) "great")
    (hb : defBody st = [st1, .Return (some (.Dict [some (.Constant (.str "great") j1 y1), some (.Constant (.str "cells") j2 y2), some (.Constant (.str "rest") j3 y3), some (.Constant (.str "turn") j4 y4)] [.Name "great" x1, e2, .Constant (.int 0) j5 y5, .Constant (.int 0) j6 y6] x2)) x3])
    (h1 : ∀ (cdv : Value) (A : Around) (outer : List PySem.Env) (s : Shared) (H : Hp) (E : XK) (W : Wd) (B : Nat), Ctx (cxOf (L2.CX P w) P w K mg base N qual (defScope st) f cdv A outer s H E) ⟨⟨K, cA, fl⟩, W, mask H, fun _ _ => .own 0, E, B⟩ →
      PS (cxOf (L2.CX P w) P w K mg base N qual (defScope st) f cdv A outer s H E) st1 (fun E' σ H' => tF ⟨⟨K, cA, fl⟩, W, mask H, fun _ _ => .own 0, E, B⟩ d1 σ H' fun x H1 => gName 1 x σ H1 E'.nx))
    (h2 : ∀ (cdv : Value) (A : Around) (outer : List PySem.Env) (s : Shared) (H : Hp) (E : XK) (W : Wd) (B : Nat) (h0 : Hp), Ctx (cxOf (L2.CX P w) P w K mg base N qual (defScope st) f cdv A outer s H E) ⟨⟨K, cA, fl⟩, W, h0, fun _ _ => .own 0, fun _ _ _ => False, B⟩ →
      JF ⟨⟨K, cA, fl⟩, W, h0, fun _ _ => .own 0, fun _ _ _ => False, B⟩ (cxOf (L2.CX P w) P w K mg base N qual (defScope st) f cdv A outer s H E) e2 d2)
    (s1 : ∀ ns : List Int, ns.length ≤ 63 → d1 [.val (.scr ns), .un, .un] (fun r ρ' => ρ' = [.val (.scr ns), .un, .un] ∧ ∃ gs : List Int, r = gs.map .int ∧ (∀ x ∈ gs, 0 ≤ x) ∧ gs.length ≤ 63) noX)
    (s2 : ∀ (ns : List Int) (gs : List D), ns.length ≤ 63 → d2 [.val (.scr ns), .ml gs, .un] (fun r ρ' => ρ' = [.val (.scr ns), .ml gs, .un] ∧ ∃ cs : List Int, r = cs.map .int ∧ cs.length ≤ 63) noX) :
    FnG P w K mg base 5 f fd ["script"] (liftB ⟨K, cA, fl⟩) := by
  obtain ⟨oc, od, kV, doc, pm, an, cdv, ct, osl, rfl, lk, hcd⟩ := F.ex
  refine ⟨fun vs H Q E h => h.1, fun A outer s H args us vs Q E hg hr e0 hbd r hsp => ?_⟩
  refine LamX.run_ofS (k := 4) lk hcd S hr e0 hbd r hsp.1 fun hr => ?_
  obtain ⟨hl, W, ns, wS, sb, so, r, k⟩ := hsp
  have hu : (A.deeper (envOfC qual (defScope st) s.heap.objs.size f cdv)).units + 100 < cLine := by
    have := hr.un
    omega
  have C : Ctx (cxOf (L2.CX P w) P w K mg base N qual (defScope st) f cdv A outer s H E) ⟨⟨K, cA, fl⟩, W, mask H, fun _ _ => .own 0, E, 0⟩ := ctx_fn hr hu S.nd hg
  have C0 : ∀ h0, Ctx (cxOf (L2.CX P w) P w K mg base N qual (defScope st) f cdv A outer s H E) ⟨⟨K, cA, fl⟩, W, h0, fun _ _ => .own 0, fun _ _ _ => False, 0⟩ := fun h0 => C.at (h0 := h0)
  rw [hb]
  have hd2 : PE (cxOf (L2.CX P w) P w K mg base N qual (defScope st) f cdv A outer s H E) e2 (tFAt ⟨⟨K, cA, fl⟩, W, mask H, fun _ _ => .own 0, E, 0⟩ d2) := ⟨fun pins s' σ H' Q I ⟨h0, q⟩ => (h2 cdv A outer s H E W 0 h0 (C0 h0)).run pins s' σ H' Q I q⟩
  refine ⟨_, pss_cons (h1 cdv A outer s H E W 0 C) (pss_one (ps_ret (pe_disp (pps_cons pe_str (pe_var (i := 1) hN1 hv (by decide) (by decide)) (pps_cons pe_str hd2 (pps_cons pe_str pe_int (pps_cons pe_str pe_int pps_nil)))) (by rfl) (by rfl) (fun z => nomatch z) (by show 4 ≤ 15; decide)))), ?_⟩
  have hns : ns.length ≤ 63 := by
    cases r with
    | cons h _ => cases h with | scr _ l => exact l
  have sim := sim_start (lo := fun _ _ => .own 0) (E := E) (N := N) (m := 0) (B := 0) sb so r (fun a g c q => by rw [wS] at q; cases q) (Nat.zero_le _) (by rw [hN]; show 1 ≤ 3; decide)
  have hst : startE N.length 0 [.scr ns] = [.val (.scr ns), .un, .un] := by rw [hN]; rfl
  rw [hst] at sim
  refine ⟨W, _, sim, _, noX, s1 ns hns, XOk.no, fun r1 ρ1 q1 W1 p1 vs1 H1 l1 S1 n1 rl1 z1 => ?_⟩
  obtain ⟨rfl, gs, rfl, hg0, hgl⟩ := q1
  have S1' := S1.setm (i := 1) n1 rl1 z1
  intro p np
  obtain ⟨g, vg, e1, eg, rg, zg, og⟩ := S1'.slot 1 _ rfl
  refine ⟨.ref g, e1, ?_⟩
  obtain ⟨f1, f2, f3⟩ := S1'.free np
  refine ⟨upd (mask H) p (.dK []), W1, _, S1'.guestO np (.dK []) rfl, _, noX, s2 ns _ hns, XOk.no, fun r2 ρ2 q2 W2 p2 vs2 H2 l2 S2 n2 rl2 z2 => ?_⟩
  obtain ⟨rfl, cs, rfl, hcl⟩ := q2
  have e12 := l1.trans l2
  have H0p : upd (mask H) p (.dK []) p = some (.dK []) := upd_same
  have ncell : ∀ a o, upd (mask H) p (.dK []) a = some o → a ∉ cellsOf W2.S := fun a o e m => by
    have z : upd (mask H) p (.dK []) a = none := S2.new wS a m
    rw [z] at e; cases e
  have hp2 : H2 p = some (.dK []) := S2.out p _ H0p (ncell p _ H0p)
  have pF : W2.F p = none := by
    cases e : W2.F p with
    | none => rfl
    | some u =>
      rcases S2.fr p u e with z | z
      · have z : W.F p = some u := z
        rw [l1.f _ _ z] at f1; cases f1
      · have z : upd (mask H) p (.dK []) p = none := z
        rw [H0p] at z; cases z
  obtain ⟨g', vg', e1', eg', rg', zg', og'⟩ := S2.slot 1 _ rfl
  rw [e1] at e1'
  cases e1'
  obtain ⟨k1, k2, k3⟩ := S2.free n2
  have vgi := rg'.ints
  have vci := rl2.ints
  have np2 : p ≠ p2 := ne_of_none hp2 n2
  have gp2 : g ≠ p2 := ne_of_none eg' n2
  have gp : g ≠ p := fun z => by rw [z, hp2] at eg'; cases eg'
  have hp3 : upd H2 p2 (.lst vs2) p = some (.dK []) := by rw [upd_ne np2]; exact hp2
  refine ⟨hp3, [(.inr (Str.ofString "great"), .ref g), (.inr (Str.ofString "cells"), .ref p2), (.inr (Str.ofString "rest"), .int 0), (.inr (Str.ofString "turn"), .int 0)], rfl, by show 4 ≤ 15; decide, ?_⟩
  have hm : mergeK [] [((.inr (Str.ofString "great") : Key), V.ref g), (.inr (Str.ofString "cells"), .ref p2), (.inr (Str.ofString "rest"), .int 0), (.inr (Str.ofString "turn"), .int 0)] = [(.inr (Str.ofString "great"), .ref g), (.inr (Str.ofString "cells"), .ref p2), (.inr (Str.ofString "rest"), .int 0), (.inr (Str.ofString "turn"), .int 0)] := rfl
  rw [hm]
  change Q _ (upd (upd H2 p2 (.lst vs2)) p (stO g p2 0 0))
  let W' : Wd := ⟨addF W2.F p2 (.lst vs2), some (p, g, p2), W2.T, fun a u e => by
    rcases addF_some e with ⟨_, rfl, q⟩ | q
    · exact q
    · exact W2.nt a u q⟩
  have at4 : ∀ a, a ≠ p → a ≠ p2 → upd (upd H2 p2 (.lst vs2)) p (stO g p2 0 0) a = H2 a := fun a h1 h2 => by rw [upd_ne h1, upd_ne h2]
  have atp2 : upd (upd H2 p2 (.lst vs2)) p (stO g p2 0 0) p2 = some (.lst vs2) := by rw [upd_ne (Ne.symm np2), upd_same]
  have gF : addF W2.F p2 (.lst vs2) g = none := by rw [addF_ne gp2]; exact og'.1
  have pF' : addF W2.F p2 (.lst vs2) p = none := by rw [addF_ne np2]; exact pF
  have f2F : addF W2.F p2 (.lst vs2) p2 = some (.lst vs2) := by rw [addF_yes rfl, upd_same]
  have hmask : ∀ a, upd (mask H) p (.dK []) a = none → mask H a = none := fun a e => by
    by_cases h : a = p
    · rw [h, H0p] at e; cases e
    · rw [upd_ne h] at e; exact e
  have tab3 : LamX.Tabs W2.T (upd (upd H2 p2 (.lst vs2)) p (stO g p2 0 0)) := tabs_up S2.st.tab fun b u e h1 h2 => by
    rw [at4 b (fun z => by rw [z, hp2] at e; cases e; exact h2 _ rfl) (ne_of_none e n2)]
    exact e
  refine k W' (.ref p) _ ⟨⟨fun a o e => ?_, .inl wS, e12.t⟩, fun a o e => ?_, ⟨fun a' g' c' q => ?_, tab3⟩, fun a o e m => ?_, fun _ a m => ?_, fun a o e => ?_, fun B hB a' g' c' q => ?_⟩ (.st rfl)
  · show addF W2.F p2 (.lst vs2) a = some o
    have z := e12.f a o e
    rw [addF_ne (fun t => by rw [t, k1] at z; cases z)]
    exact z
  · have e : addF W2.F p2 (.lst vs2) a = some o := e
    rcases addF_some e with ⟨rfl, rfl, _⟩ | z
    · exact atp2
    · rw [at4 a (fun t => by rw [t, pF] at z; cases z) (fun t => by rw [t, k1] at z; cases z)]
      exact S2.sub a o z
  · cases q
    refine ⟨⟨gs, 0, 0, upd_same, ?_, Int.le_refl 0, hg0, hgl, Int.le_refl 0⟩, ⟨cs, ?_, hcl⟩, pF', gF⟩
    · rw [at4 g gp gp2, eg', vgi]
    · show addF W2.F p2 (.lst vs2) p2 = _
      rw [f2F, vci]
  · have hap : a ≠ p := fun z => m (by rw [z]; exact List.mem_cons_self)
    have e' : upd (mask H) p (.dK []) a = some o := by rw [upd_ne hap]; exact e
    have z := S2.out a o e' (ncell a o e')
    rw [at4 a hap (ne_of_none z n2)]
    exact z
  · have m : a ∈ [p, g] := m
    simp only [List.mem_cons, List.not_mem_nil, or_false] at m
    rcases m with rfl | rfl
    · exact f3
    · exact hmask _ og'.2.1
  · have e : addF W2.F p2 (.lst vs2) a = some o := e
    rcases addF_some e with ⟨rfl, rfl, _⟩ | z
    · exact .inr (hmask _ k3)
    · rcases S2.fr a o z with t | t
      · exact .inl t
      · exact .inr (hmask _ t)
  · cases q
    exact ⟨0, 0, upd_same, by omega⟩
end
end DL

/-! DL: the law itself; its end. -/
namespace DL
open PySem PySem.Spec PyProof.Rows L2 LamX

/-- the promise of a law: at a heap that tracks the tables, its answer is True -/
def spLaw (K : PySem.W.Frag) (T : List (Addr × Str)) : Sp := fun vs H Q _ => ∃ (a : Addr) (ns : List Int), vs = [.ref a] ∧ SqL K H a (ns.map V.int) ∧ ns.length ≤ 63 ∧ Tabs T H ∧ ∀ H', Q (.bl true) H'
def onlyAt (H : Hp) (a : Addr) : Hp := fun b => if b = a then mask H b else none
theorem onlyAt_sub {H : Hp} {a b : Addr} {o : HO} (h : onlyAt H a b = some o) : H b = some o ∧ nTb o = true := by
  unfold onlyAt at h
  split at h
  · exact mask_some.mp h
  · cases h
theorem onlyAt_seq {K : PySem.W.Frag} {H : Hp} {a : Addr} {xs : List V} (h : SqL K H a xs) : SqL K (onlyAt H a) a xs := by
  have key : ∀ o, H a = some o → nTb o = true → onlyAt H a a = some o := fun o e n => by
    unfold onlyAt
    rw [if_pos rfl]
    exact mask_some.mpr ⟨e, n⟩
  rcases h with (h | ⟨o, h⟩) | h
  · exact .inl (.inl (key _ h rfl))
  · exact .inl (.inr ⟨o, key _ h rfl⟩)
  · exact .inr h
def lawW (H : Hp) (a : Addr) (T : List (Addr × Str)) : Wd := ⟨onlyAt H a, none, T, fun _ _ e => (onlyAt_sub e).2⟩
section
variable {P : Program} {w : World} {K : PySem.W.Frag} {mg : Str → Option Value} {base : Heap}
/-- the law: its first row makes the state -/
theorem law_ok {cA : Nat → Addr} {fl : Nat → List Str} {st : Stmt} {fa fB cc : Addr} {fdB : FuncData} {N : List Str} {k m : Nat} {d : DS} {rest : List Stmt} {T : List (Addr × Str)} {kV doc pm ct oc : Value} {od an : Option Addr} {osl : Array (Option Value)} {p1 p2 p3 p4 p5 : Pos}
    (lk : K.lookup fa = some ⟨oc, od, .func (PySem.W.fnOf "law" "law" (defArgs st) (defBody st) (defScope st) .none kV doc pm an (.ref cc) ct), osl⟩) (hcd : PySem.W.codeIn K (.ref cc) "law" = true) (S : FnScope N ["script"] (defScope st)) (hN : 3 ≤ N.length) (hN1 : N[1]? = some ("state" : Str)) (hm : m ≠ 0) (hm2 : m ≤ BIG)
    (hbd : defBody st = .Assign [.Name "state" p1] (.Call (.Name "_law_begun" p2) [.Name "script" p3] [] p4) p5 :: rest)
    (hl : Loc (defScope st) "state") (hv0 : Vis (defScope st) "script") (hN0 : N[0]? = some ("script" : Str)) (hgl : ∀ (qual : Str) (L : Addr) (f : Addr) (cd : Value), (envOfC qual (defScope st) L f cd).kindOf ("_law_begun" : Str) = some .globalImplicit)
    (FB : FnG P w K mg base 5 fB fdB ["script"] (liftB ⟨K, cA, fl⟩)) (gB : mg "_law_begun" = some (.ref fB)) (kB : PySem.W.keepIn K (.ref fB) = true) (bB : Binds K fdB ["script"] [])
    (body : ∀ (A : Around) (outer : List PySem.Env) (s : Shared) (H : Hp) (E : XK) (W : Wd) (h0 : Hp), Room (k + 5) (A.deeper (envOfC "law" (defScope st) s.heap.objs.size fa (.ref cc))) → W.T = T →
      Ctx (cxOf (L2.CX P w) P w K mg base N "law" (defScope st) fa (.ref cc) A outer s H E) ⟨⟨K, cA, fl⟩, W, h0, fun _ _ => .own 0, E, m⟩ → JSs ⟨⟨K, cA, fl⟩, W, h0, fun _ _ => .own 0, E, m⟩ (cxOf (L2.CX P w) P w K mg base N "law" (defScope st) fa (.ref cc) A outer s H E) rest d)
    (sem : ∀ ns : List Int, ns.length ≤ 63 → d ((startE N.length m [.scr ns]).set 1 (.val .st)) ⟨fun _ => False, fun r => r = .bl true, fun _ => False, fun _ => False, fun _ _ => False⟩) :
    FnG P w K mg base (k + 6) fa (PySem.W.fnOf "law" "law" (defArgs st) (defBody st) (defScope st) .none kV doc pm an (.ref cc) ct) ["script"] (spLaw K T) := by
  refine ⟨fun vs H Q E ⟨a, ns, h, _⟩ => by rw [h]; rfl, fun A outer s H args us vs Q E hg hr e0 hb r hsp => ?_⟩
  obtain ⟨a, ns, rfl, hS, hns, hT, hQ⟩ := hsp
  refine LamX.run_ofS (k := k + 5) lk hcd S hr e0 hb r rfl fun hr => ?_
  have hu : (A.deeper (envOfC "law" (defScope st) s.heap.objs.size fa (.ref cc))).units + 100 < cLine := by
    have := hr.un
    omega
  let W : Wd := lawW H a T
  let J : Jc := ⟨⟨K, cA, fl⟩, W, fun _ => none, fun _ _ => .own 0, E, m⟩
  have C : Ctx (cxOf (L2.CX P w) P w K mg base N "law" (defScope st) fa (.ref cc) A outer s H E) J := ⟨rfl, rfl, hu, takes_of rfl rfl rfl rfl, passes_of rfl, S.nd, hg⟩
  have sb : Sub W H := fun b o e => (onlyAt_sub e).1
  have so : StOk W H := ⟨fun a g c q => (by cases q), hT⟩
  have rp : RepL (⟨K, cA, fl⟩ : Gm) W [.ref a] [.scr ns] := .cons (.scr (onlyAt_seq hS) hns) .nil
  have sim0 := sim_start (G := ⟨K, cA, fl⟩) (lo := fun _ _ => .own 0) (E := E) (N := N) (m := m) (B := 0) sb so rp (fun a g c q => (by cases q)) (by omega) (by show 1 + _ ≤ N.length; rw [if_neg hm]; omega)
  have sim : Sim J W (startE N.length m [.scr ns]) (L2.start N [.ref a]) H := by
    refine ⟨sim0.sub, sim0.len, fun i s e => ?_, sim0.dist, sim0.st, fun a o e => (by cases e), fun _ _ _ => rfl, fun a o e => .inl e, .rfl', fun a o e => (by cases e), ?_⟩
    · have z := sim0.slot i s e
      cases s with
      | un => trivial
      | fuel n => trivial
      | val d => exact z
      | ml ds =>
        obtain ⟨b, ws, q1, q2, q3, q4, q5, q6, q7⟩ := z
        exact ⟨b, ws, q1, q2, q3, q4, q5, rfl, q7⟩
      | md ds =>
        obtain ⟨b, ws, q1, q2, q3, q4, q5, q6, q7⟩ := z
        exact ⟨b, ws, q1, q2, q3, q4, q5, rfl, q7⟩
      | lam k => exact z
    · obtain ⟨B, h1, h2, h3⟩ := sim0.bud
      have h2 : B + fuelOf (startE N.length m [.scr ns]) ≤ 0 + m := h2
      exact ⟨B, h1, by show _ ≤ m; omega, hm2⟩
  rw [hbd]
  refine ⟨_, pss_cons (ps_set (i := 1) S.nd hN1 hl (pe_callG FB (hr.mono (by omega)) hg (hgl _ _ _ _) gB kB bB passL (pa_cons (pe_var (i := 0) hN0 hv0 (by decide) (by decide)) pa_nil)) (by rfl) (.inl rfl)) (body A outer s H E W (fun _ => none) hr rfl C), ?_⟩
  refine ⟨.ref a, start_get rfl, rfl, W, ns, rfl, sb, so, rp, fun W' v H' kc rv => ?_⟩
  refine ⟨W', _, (sim.call (m := 0) kc (Nat.zero_le _)).setv rv, _, sem ns hns, ?_⟩
  refine ⟨fun _ _ _ _ n => n.elim, fun r W2 v2 H2 n l o rp2 => ?_, fun _ _ _ _ n => n.elim, fun _ _ _ _ n => n.elim, fun _ _ _ _ _ n => n.elim⟩
  have n : r = .bl true := n
  subst n
  cases rp2
  exact hQ H2
end
end DL

/-! DL: the end of a law whose promise is kept where no repr is under way. -/
namespace DL
open PySem PySem.Spec PyProof.Rows L2 LamX

theorem builtins_tab {K : PySem.W.Frag} {h B : Heap} {mg : Str → Option Value} {c t : Addr} (hns : h.Ns mainGlobals mg) (keep : ∀ {b : Addr} {o : Obj}, h.get? b = some o → (∀ vs n, o.data ≠ .seq vs n) → o.data ≠ .fields #[] → B.get? b = some o) (hP : h.get? t = some { cls := .none, data := .fields #[] }) (C : PySem.W.CodeHd h c t)
    (hbm : ∃ (bm : Addr) (ob : Obj), mg "__builtins__" = some (.ref bm) ∧ bm ≠ builtinsNs ∧ h.get? bm = some ob ∧ ob.cls = .type "module" ∧ ob.dict = some builtinsNs ∧ ob.data = .plain) : TabB B mg c t := by
  obtain ⟨oG, es, ep, eG, dG, _⟩ := hns
  refine ⟨?_, ?_, fun z => ?_⟩
  · obtain ⟨o, us, file, tf, flags, tg, inF, text, tt, q1, q2, q3, q⟩ := C
    refine ⟨o, us, file, tf, flags, tg, inF, text, tt, keep q1 (fun vs n z => by rw [q3] at z; cases z) (fun z => ?_), q2, q3, q⟩
    rw [q3] at z
    cases z
    have := q.1
    simp at this
  · obtain ⟨bm, ob, b1, b2, b3, b4, b5, b6⟩ := hbm
    refine ⟨bm, ob, b1, b2, fun q => ?_, fun q => ?_, keep b3 (fun vs n z => by rw [b6] at z; cases z) (fun z => by rw [b6] at z; cases z), b4, b5, b6⟩
    · rw [q, eG] at b3
      cases b3
      rw [dG] at b6; cases b6
    · rw [q, hP] at b3
      cases b3
      cases b6
  · rw [z, hP] at eG
    cases eG
    cases dG
/-- the law called from the ground -/
theorem law_end {P : Program} {w : World} {K : PySem.W.Frag} {mg mb : Str → Option Value} {k : Nat} {fa a c t : Addr} {fd : FuncData} {x : Str} {sp : Sp} {s : Shared} {vs : List Value} {ns : List Int}
    (KX : K.In s.heap) (hns : s.heap.Ns mainGlobals mg) (hb : s.heap.Ns builtinsNs mb) (hbb : ∀ x : Str, x ≠ "__name__" → mb x = bootBuiltins x) (hlim : s.heap.NoLimit) (hg : s.gens = #[])
    (hT : s.heap.get? t = some { cls := .none, data := .fields #[] }) (nT : K.lookup t = none) (C : PySem.W.CodeHd s.heap c t)
    (hbm : ∃ (bm : Addr) (ob : Obj), mg "__builtins__" = some (.ref bm) ∧ bm ≠ builtinsNs ∧ s.heap.get? bm = some ob ∧ ob.cls = .type "module" ∧ ob.dict = some builtinsNs ∧ ob.data = .plain)
    (ha : s.heap.get? a = some { cls := .type "list", data := .seq vs.toArray }) (hi : IntsAre vs ns) (hl : ns.length ≤ sizeLine) (hr : Room k callerA)
    (F : ∀ base : Heap, K.In base → base.Ns mainGlobals mg → TabB base mg c t → FnG P w K mg base k fa fd [x] sp) (hbind : ∀ (s : Shared) (u : Value), BindsTo s fd ⟨[u], []⟩ [(x, u)])
    (hsp : ∀ H : Hp, H t = some (.tbl #[]) → SqL K H a (ns.map V.int) → sp [.ref a] H (fun v _ => v = .bl true) fun _ _ _ => False) :
    codeAny (model P w) callerA (.call (.ref fa) ⟨[.ref a], []⟩) (fun r s' => r = .ok (.ret (.bool true)) ∧ OldK s.heap s'.heap ∧ s'.os = s.os ∧ AllBare s'.gens) s := by
  have rv := vals_ints hi
  have lenV := hi.length
  have nat_ : a ≠ t := fun z => by
    rw [z, hT] at ha
    have z' : Data.fields #[] = Data.seq vs.toArray _ := congrArg Obj.data (Option.some.inj ha)
    cases z'
  -- what is tracked: the table; the script, unless the written part tells of it
  let scr : Obj := { cls := .type "list", data := .seq vs.toArray }
  let H : Hp := fun b => if b = t then some (.tbl #[]) else if b = a ∧ K.lookup a = none then some (.frz scr (.lst (ns.map V.int))) else none
  have Ht : H t = some (.tbl #[]) := if_pos rfl
  have Hsome : ∀ b u, H b = some u → (b = t ∧ u = .tbl #[]) ∨ (b = a ∧ K.lookup a = none ∧ u = .frz scr (.lst (ns.map V.int))) := fun b u e => by
    have e : (if b = t then some (HO.tbl #[]) else if b = a ∧ K.lookup a = none then some (HO.frz scr (.lst (ns.map V.int))) else none) = some u := e
    split at e
    · rename_i q
      cases e
      exact .inl ⟨q, rfl⟩
    · split at e
      · rename_i q
        cases e
        exact .inr ⟨q.1, q.2, rfl⟩
      · cases e
  have hS : SqL K H a (ns.map V.int) := by
    cases hk : K.lookup a with
    | none =>
      refine .inl (.inr ⟨scr, ?_⟩)
      show (if a = t then some (HO.tbl #[]) else if a = a ∧ K.lookup a = none then some (HO.frz scr (.lst (ns.map V.int))) else none) = _
      rw [if_neg nat_, if_pos ⟨rfl, hk⟩]
    | some o =>
      have e := KX a o hk
      rw [ha] at e
      cases e
      exact .inr ⟨_, vs.toArray, _, hk, rfl, rfl, rfl, by rw [List.size_toArray, lenV]; exact hl, by simpa using rv⟩
  have hok : HOk P w H s.heap := fun b u e => by
    rcases Hsome b u e with ⟨rfl, rfl⟩ | ⟨rfl, _, rfl⟩
    · exact hT
    · exact ⟨ha, by rw [List.length_map]; exact hl, vs, _, rv, ha⟩
  have clear : ∀ {b : Addr} {o : Obj}, s.heap.get? b = some o → (∀ vs n, o.data ≠ .seq vs n) → o.data ≠ .fields #[] → H b = none := fun {b o} e h1 h2 => by
    cases q : H b with
    | none => rfl
    | some u =>
      rcases Hsome b u q with ⟨rfl, _⟩ | ⟨rfl, _⟩
      · rw [hT] at e
        cases e
        exact (h2 rfl).elim
      · rw [ha] at e
        cases e
        exact (h1 _ _ rfl).elim
  have nsK : ∀ {b : Addr} {m : Str → Option Value}, s.heap.Ns b m → (hidT s.heap H).Ns b m := fun {b m} ⟨o, es, ep, e, d, r⟩ =>
    ⟨o, es, ep, hidT_get e (clear e (fun vs n z => by rw [d] at z; cases z) (fun z => by rw [d] at z; cases z)), d, r⟩
  have hKb : K.In (hidT s.heap H) := fun b o e => hidT_get (KX b o e) (by
    cases q : H b with
    | none => rfl
    | some u =>
      rcases Hsome b u q with ⟨rfl, _⟩ | ⟨rfl, hk, _⟩
      · rw [nT] at e; cases e
      · rw [hk] at e; cases e)
  have hM : L2.Mod K mg (hidT s.heap H) := ⟨hKb, nsK hns, ⟨mb, nsK hb, hbb⟩, let ⟨mc, h1, h2⟩ := hlim; ⟨mc, nsK h1, h2⟩⟩
  have TB : TabB (hidT s.heap H) mg c t := builtins_tab (K := K) hns (fun e h1 h2 => hidT_get e (clear e h1 h2)) hT C hbm
  have e0 : Env0 P w K mg (hidT s.heap H) callerA [] s H := ⟨rfl, hM, fun b o e => of_hidT e, Nat.le_of_eq (hidT_size _ _), trivial, fun b hb => absurd (show b ∈ ([] : List Addr) from hb) (by simp), hok, .of_eq hg⟩
  refine codeAny_mono ((F _ hKb (nsK hns) TB).run callerA [] s H ⟨[.ref a], []⟩ [.ref a] [.ref a] _ _ rfl hr e0 (hbind s (.ref a)) (.cons rfl .nil) (hsp H Ht hS)) fun r s' h => ?_
  cases r with
  | error e =>
    obtain ⟨_, _, _, _, _, _, _, _, _, _, _, _, z⟩ := h
    exact z.elim
  | ok fl =>
    cases fl with
    | next => exact False.elim h
    | brk => exact False.elim h
    | cont => exact False.elim h
    | ret u =>
      obtain ⟨v, H', os, bare, un, hok', r', q⟩ := h
      have q' : v = .bl true := q
      subst q'
      obtain rfl : u = Value.bool true := r'
      obtain ⟨more, tm⟩ := un.tbls t #[] Ht
      have tm2 : s'.heap.get? t = some { cls := .none, data := .fields (#[] ++ more) } := hok' t _ tm
      have key : ∀ b o, b ≠ t → s.heap.get? b = some o → s'.heap.get? b = some o := fun b o nb e => by
        cases q : H b with
        | none => exact un.keep b o e q (by intro z; exact absurd (show b ∈ ([] : List Addr) from z) (by simp)) (by simp)
        | some u =>
          rcases Hsome b u q with ⟨z, _⟩ | ⟨rfl, _, rfl⟩
          · exact absurd z nb
          · have z := un.frzs b _ _ q
            obtain ⟨e2, _⟩ := hok' b _ z
            rw [ha] at e
            cases e
            exact e2
      refine ⟨rfl, ⟨fun b o e => ?_, fun b o e => ?_⟩, os, bare⟩
      · by_cases hbt : b = t
        · subst hbt
          rw [hT] at e
          cases e
          exact .inr (.inl ⟨(C.tab hT).isCodeTable, rfl, #[], more, rfl, tm2⟩)
        · exact .inl (key b o hbt e)
      · by_cases hbt : b = t
        · subst hbt
          exact ⟨_, tm2⟩
        · exact ⟨o, key b o hbt e⟩
end DL

namespace DL
open PySem PySem.Spec PyProof.Rows L2 LamX
/-- what is known of the law at the head's heap -/
def LawG (l : PySem.W.OpenLaw) (w : World) (K : PySem.W.Frag) (k n : Nat) (x : Str) (mg : Str → Option Value) (fa : Addr) (h : Heap) : Prop :=
  ∃ (fd : FuncData) (c t : Addr) (sp : Sp), h.get? t = some { cls := .none, data := .fields #[] } ∧ K.lookup t = none ∧ PySem.W.CodeHd h c t ∧ (∀ (s : Shared) (u : Value), BindsTo s fd ⟨[u], []⟩ [(x, u)]) ∧
    (∀ (H : Hp) (a : Addr) (ns : List Int), ns.length ≤ n → H t = some (.tbl #[]) → SqL K H a (ns.map V.int) → sp [.ref a] H (fun v _ => v = .bl true) fun _ _ _ => False) ∧
    ∀ base : Heap, K.In base → base.Ns mainGlobals mg → TabB base mg c t → FnG l.prog w K mg base k fa fd [x] sp
theorem walk_end {l : PySem.W.OpenLaw} {n k : Nat} {q : Program} {loose : List Str} {XP : (Str → Option Value) → Heap → Prop} {YP : World → Heap → Prop} {d : DefRec} {K : Params → PySem.W.Frag} {x : Str}
    (hn : l.most = some n) (hn2 : n ≤ sizeLine) (hdf : d.params.defaults = []) (hr : Room k callerA) (hrec : ((recsOf q).any fun e => e.name == d.name) = true) (hY : ∀ (w : World) (h : Heap), YP w h → (K w.params).In h)
    (F : ∀ (w : World) (mg : Str → Option Value) (fa : Addr) (h : Heap), XP mg h → YP w h → (K w.params).In h → h.Ns mainGlobals mg → mg d.name = some (.ref fa) → OwnTab (K w.params) fa h → LawG l w (K w.params) k n x mg fa h) :
    PySem.W.WalkO q loose XP YP l.row.toRowW d [] (fun f vs => PySem.call f vs) := by
  refine Att.attach_callB hn hdf fun w s₀ s mg mb fa o pm cd doc a vs ns G Y ho hd hcd hmg hobj hints hlen hbits hg => ?_
  have KX := hY w _ Y
  have tab : OwnTab (K w.params) fa s.heap := by
    intro c t o1 fd1 e dd vs1 sl m1 m2 m3 m4 m5
    obtain ⟨dL, hm, hn1⟩ := List.any_eq_true.mp hrec
    obtain ⟨a', o', fd', c', t', t1, t2, t3, t4, t5, t6⟩ := G.T.tab dL hm
    rw [beq_iff_eq.mp hn1, hmg] at t1
    cases t1
    rw [KX _ _ m1] at t2
    cases t2
    rw [m2] at t3
    cases t3
    rw [m3] at t4
    cases t4
    obtain ⟨⟨oc, vc, u1, _, u3, u4⟩, hP⟩ := t6
    rw [KX _ _ m4] at u1
    cases u1
    cases u3
    rw [m5] at u4
    cases u4
    exact hP
  obtain ⟨fd, c, t, sp, hT, nT, C, hb, hsp, hF⟩ := F w mg fa _ G.X Y KX G.T.g hmg tab
  exact law_end KX G.T.g G.T.b G.T.builtins G.T.nolimit hg hT nT C G.T.bmain hobj hints (Nat.le_trans hlen hn2) hr hF hb fun H hH hS => hsp H a ns hlen hH hS
/-! ### small words for the join -/
theorem loose_int {p : Program} {lv : List (Str × PySem.W.WData)} {mg : Str → Option Value} {h : Heap} {n : Str} {i : Int} (x : PySem.W.XL p lv mg h) (hq : (n, PySem.W.WData.int i) ∈ lv) : ∃ t, mg n = some (.int i t) := by
  obtain ⟨v, e, r⟩ := x.2.val _ hq
  cases r
  exact ⟨_, e⟩
theorem bt_nil {mg : Str → Option Value} : BT mg [] := fun _ h => nomatch h
theorem bt_cons {mg : Str → Option Value} {x : Str} {L : List Str} (h : mg x = none) (t : BT mg L) : BT mg (x :: L) := fun y hy => by
  rcases List.mem_cons.mp hy with rfl | hy
  · exact h
  · exact t y hy
abbrev KwOk (K : PySem.W.Frag) (fd : FuncData) (ps : List Str) (kws : List (Nat × List Str × List Nat)) : Prop := ∀ q ∈ kws, KBn K fd ps q.1 q.2.1 (fun us ws => pickL q.2.2 (us ++ ws)) (fun vs zs => pickL q.2.2 (vs ++ zs))
theorem kw_nil {K : PySem.W.Frag} {fd : FuncData} {ps : List Str} : KwOk K fd ps [] := fun _ h => nomatch h
theorem kw_cons {K : PySem.W.Frag} {fd : FuncData} {ps : List Str} {n : Nat} {ks : List Str} {js : List Nat} {r : List (Nat × List Str × List Nat)} (h : KBn K fd ps n ks (fun us ws => pickL js (us ++ ws)) (fun vs zs => pickL js (vs ++ zs))) (t : KwOk K fd ps r) : KwOk K fd ps ((n, ks, js) :: r) := fun q hq => by
  rcases List.mem_cons.mp hq with rfl | hq
  · exact h
  · exact t q hq
theorem ft_mk {P : Program} {w : World} {K : PySem.W.Frag} {mg : Str → Option Value} {base : Heap} {G : Gm} {x : Str} {ps : List Str} {k m : Nat} {sp : DSp} {kws : List (Nat × List Str × List Nat)} {a : Addr} {fd : FuncData} (F : FnG P w K mg base k a fd ps (liftSp G ps.length m sp)) (h1 : mg x = some (.ref a)) (h2 : PySem.W.keepIn K (.ref a) = true) (h3 : Binds K fd ps []) (h4 : KwOk K fd ps kws) : FT P w K mg base G x ps k m sp kws := ⟨a, fd, F, h1, h2, h3, h4⟩
/-- a promise that nobody asks for -/
theorem fn_never {P : Program} {w : World} {K : PySem.W.Frag} {mg : Str → Option Value} {base : Heap} {k n m : Nat} {f : Addr} {fd : FuncData} {ps : List Str} {G : Gm} (hn : n = ps.length) : FnG P w K mg base k f fd ps (liftSp G n m fun _ _ _ => False) :=
  ⟨fun vs H Q E h => by rw [h.1, hn], fun A outer s H args us vs Q E _ _ _ _ _ h => by
    obtain ⟨_, _, _, _, _, _, _, _, _, h, _⟩ := h
    exact h.elim⟩
end DL

/-! DL: the join's words about classes. -/
namespace DL
open PySem PySem.Spec PyProof.Rows L2

def clsInit (s : Stmt) : Stmt := match s with
  | .ClassDef _ _ _ b _ _ _ _ _ _ _ => b.getD 0 (.Pass ⟨0, 0, 0, 0⟩)
  | _ => .Pass ⟨0, 0, 0, 0⟩
section
variable {P : Program} {w : World} {K : PySem.W.Frag} {mg : Str → Option Value} {base : Heap}
theorem errI_mk {cA : Nat → Addr} {fl : Nat → List Str} {x qual m fld : Str} {c : Nat} {C CS fI : Addr} {s : Stmt} {IP : InitP} {kV dc pm cd ct oc : Value} {an od : Option Addr} {osl : Array (Option Value)} (bT : BaseT K mg CS) (hC : cA c = C) (ox : OexC K C) (no : PySem.W.findIn K (.ref C) fld = some none) (gm : mg x = some (.ref C)) (hfl : fl c = [fld])
    (iC : PySem.W.findIn K (.ref C) "__init__" = some (some (.ref fI))) (tI : PySem.W.typeIn K (.ref fI) = some (.type "function")) (l : K.lookup fI = some ⟨oc, od, .func (PySem.W.fnOf "__init__" qual (defArgs s) (defBody s) (defScope s) .none kV dc pm an cd ct), osl⟩) (hcd : PySem.W.codeIn K cd qual = true)
    (hb : defBody s = initB m fld IP) (hs : defScope s = initSc fld)
    (hc : ∀ env : PySem.Env, ∃ pl : Sem Bool, eval (.Call (.Attribute (.Name "RhythmError" IP.p1) "__init__" IP.p2) [.Name "self" IP.p3, .Constant (.str m) IP.j IP.p4] [] IP.p5) env = (do
      let ov ← eval (.Name "RhythmError" IP.p1) env
      standAt IP.p2.atName
      let (f, first) ← holding [ov] (getMethod ov "__init__" pl)
      callWith IP.p5 f first (backTo IP.p5 (starEach [.Name "self" IP.p3, .Constant (.str m) IP.j IP.p4] env)) (backToKw IP.p5 (keywordEach [] env))))
    (h1 : fld ≠ ("self" : Str)) (h2 : fld ≠ ("RhythmError" : Str)) (h3 : (fld == ("__debug__" : Str)) = false) (h4 : (fld == ("__classdict__" : Str)) = false)
    (bd : ∀ us : List Value, us.length = 2 → bindArgs (PySem.W.fnOf "__init__" qual (defArgs s) (defBody s) (defScope s) .none kV dc pm an cd ct) ⟨us, []⟩ = pure ((["self", fld] : List Str).zip us)) : ErrIT P w K mg base ⟨K, cA, fl⟩ x fld c := by
  subst hC
  rw [hb, hs] at l bd
  exact ⟨ox, no, gm, hfl, fI, _, iC, tI, ok_init bT l hcd hc h1 h2 h3 h4, .all bd⟩
def kitEB (K : PySem.W.Frag) (C : Addr) : Bool := (PySem.W.clsIn K C).isSome && decide (PySem.W.findIn K (.ref C) "__getattribute__" = some (some (.builtin "BaseException.__getattribute__"))) && decide (PySem.W.findIn K (.ref C) "__getattr__" = some none) && decide (PySem.W.subIn K (.ref C) (.type "BaseException") = some true) && decide (PySem.W.findIn K (.ref C) "__class__" = some (some (.builtin "object.__class__"))) && decide (PySem.W.mroIn K C (.type "object") = some true)
theorem kitE_of {C : Addr} (h : kitEB K C = true) : KitE K C := by
  unfold kitEB at h
  simp only [Bool.and_eq_true, decide_eq_true_eq] at h
  obtain ⟨⟨⟨⟨⟨h1, h2⟩, h3⟩, h4⟩, h5⟩, h6⟩ := h
  exact ⟨h1, h2, h3, h4, h5, h6⟩
theorem caught_mk {fg CS : Addr} {s : Stmt} {kV dc pm cd ct oc : Value} {an od : Option Addr} {osl : Array (Option Value)} (gm : mg "_law_caught" = some (.ref fg)) (kp : PySem.W.keepIn K (.ref fg) = true) (er : mg "RhythmError" = some (.ref CS))
    (l : K.lookup fg = some ⟨oc, od, .func (PySem.W.fnOf "_law_caught" "_law_caught" (defArgs s) (defBody s) (defScope s) .none kV dc pm an cd ct), osl⟩) (hcd : PySem.W.codeIn K cd "_law_caught" = true) (hb : ∃ P, defBody s = caughtB P) (hs : defScope s = caughtSc)
    (b : Binds K (PySem.W.fnOf "_law_caught" "_law_caught" (defArgs s) (defBody s) (defScope s) .none kV dc pm an cd ct) ["action"] []) : CatchT K mg fg CS := by
  obtain ⟨P, hb⟩ := hb
  rw [hb, hs] at l b
  exact ⟨gm, kp, er, _, _, _, _, _, _, _, _, _, _, P, _, l, hcd, b⟩
end
/-- values of plain classes -/
theorem ty_cases {G : Gm} {f : D → Option Bool} {cv : Value} {d : D} {b : Bool} (hp : ∀ d : D, (∀ c ds, d ≠ .exc c ds) → d ≠ .st → (∀ ns, d ≠ .scr ns) → f d = some false) (hs : f .st = none) (hq : ∀ ns, f (.scr ns) = none)
    (h1 : PySem.W.kitOne G.K (.type "NoneType") cv = some false) (h2 : PySem.W.kitOne G.K (.type "bool") cv = some false) (h3 : PySem.W.kitOne G.K (.type "int") cv = some false) (h4 : PySem.W.kitOne G.K (.type "str") cv = some false) (h5 : PySem.W.kitOne G.K (.type "tuple") cv = some false) (h6 : PySem.W.kitOne G.K (.type "list") cv = some false) (h7 : PySem.W.kitOne G.K (.type "dict") cv = some false)
    (he : ∀ c ds b, f (.exc c ds) = some b → PySem.W.kitOne G.K (.ref (G.cA c)) cv = some b) (h : f d = some b) : PySem.W.kitOne G.K (tyV G d) cv = some b := by
  have pl : (∀ c ds, d ≠ .exc c ds) → d ≠ .st → (∀ ns, d ≠ .scr ns) → b = false := fun a1 a2 a3 => by
    rw [hp d a1 a2 a3] at h
    exact (Option.some.inj h).symm
  cases d with
  | exc c ds => exact he c ds b h
  | st => rw [hs] at h; cases h
  | scr ns => rw [hq ns] at h; cases h
  | non => rw [pl (fun _ _ z => nomatch z) (fun z => nomatch z) (fun _ z => nomatch z)]; exact h1
  | bl _ => rw [pl (fun _ _ z => nomatch z) (fun z => nomatch z) (fun _ z => nomatch z)]; exact h2
  | int _ => rw [pl (fun _ _ z => nomatch z) (fun z => nomatch z) (fun _ z => nomatch z)]; exact h3
  | str _ => rw [pl (fun _ _ z => nomatch z) (fun z => nomatch z) (fun _ z => nomatch z)]; exact h4
  | tup _ => rw [pl (fun _ _ z => nomatch z) (fun z => nomatch z) (fun _ z => nomatch z)]; exact h5
  | lst _ => rw [pl (fun _ _ z => nomatch z) (fun z => nomatch z) (fun _ z => nomatch z)]; exact h6
  | dct _ => rw [pl (fun _ _ z => nomatch z) (fun z => nomatch z) (fun _ z => nomatch z)]; exact h7
end DL

/-! DL: meanings read: loops, comprehensions. -/
namespace DL
open PySem PySem.Spec PyProof.Rows L2

theorem pu_i {f : PuF} {ρ : Env} {P : D → Env → Prop} {X : DX} {d : D} (h : f ρ = some d) (p : P d ρ) : pu f ρ P X := ⟨d, h, p⟩
theorem pb_i {f : PuF} {ρ : Env} {P : B → Env → Prop} {X : DX} {d : D} (h : f ρ = some d) (p : ∀ b, deref ρ b = some d → P b ρ) : pb f ρ P X := ⟨⟨d, h⟩, fun b hb => p b (hb.trans h)⟩
theorem pt_i {f : PuF} {ρ : Env} {P : Bool → Env → Prop} {X : DX} {b : Bool} (h : f ρ = some (.bl b)) (p : P b ρ) : pt f ρ P X := ⟨b, h, p⟩
theorem pf_i {f : Env → Option (List D)} {ρ : Env} {P : List D → Env → Prop} {X : DX} {d : List D} (h : f ρ = some d) (p : P d ρ) : pf f ρ P X := ⟨d, h, p⟩
/-- a for loop, by an invariant; K: what comes next -/
theorem dFL_ind {g : TgF} {b : DS} {N : DN} (I : Nat → Env → Prop) : ∀ (xs : List D) (k : Nat) (ρ : Env), I k ρ → (∀ i x ρ (K : Env → Prop), xs[i]? = some x → I (k + i) ρ → (∀ ρ', I (k + i + 1) ρ' → K ρ') → ∃ ρ2, g x ρ = some ρ2 ∧ b ρ2 { N with nx := K, ct := K, bk := N.nx }) → (∀ ρ', I (k + xs.length) ρ' → N.nx ρ') → dFL g b xs ρ N
  | [], k, ρ, h0, _, he => he ρ h0
  | x :: xs, k, ρ, h0, st, he => by
    obtain ⟨ρ2, e, hb⟩ := st 0 x ρ (fun ρ' => dFL g b xs ρ' N) rfl h0 fun ρ' h => dFL_ind I xs (k + 1) ρ' h (fun i y ρ K hy hi hK => st (i + 1) y ρ K hy (by rw [show k + (i + 1) = k + 1 + i by omega]; exact hi) fun ρ' h => hK ρ' (by rw [show k + 1 + i + 1 = k + (i + 1) + 1 by omega]; exact h)) fun ρ' h => he ρ' (by rw [List.length_cons, show k + (xs.length + 1) = k + 1 + xs.length by omega]; exact h)
    exact ⟨ρ2, e, hb⟩
/-- a comprehension, by an invariant -/
theorem dCL_ind {vs : List Nat} {g : TgF} {tt : DT} {te : DE} {P : List D → Env → Prop} (I : Nat → List D → Env → Prop) : ∀ (xs : List D) (k : Nat) (acc : List D) (ρ : Env), I k acc ρ → (∀ i x acc ρ (K : List D → Env → Prop), xs[i]? = some x → I (k + i) acc ρ → (∀ acc' ρ', I (k + i + 1) acc' ρ' → K acc' ρ') →
      ∃ ρ2, g x ρ = some ρ2 ∧ tt ρ2 (fun b ρ3 => if b = true then te ρ3 (fun y ρ4 => K (acc ++ [y]) (wipeE vs ρ4)) (fun _ _ _ => False) else K acc (wipeE vs ρ3)) (fun _ _ _ => False)) → (∀ acc' ρ', I (k + xs.length) acc' ρ' → P acc' ρ') → dCL vs g tt te xs acc ρ P
  | [], k, acc, ρ, h0, _, he => he acc ρ h0
  | x :: xs, k, acc, ρ, h0, st, he => by
    obtain ⟨ρ2, e, hb⟩ := st 0 x acc ρ (fun acc' ρ' => dCL vs g tt te xs acc' ρ' P) rfl h0 fun acc' ρ' h => dCL_ind I xs (k + 1) acc' ρ' h (fun i y acc ρ K hy hi hK => st (i + 1) y acc ρ K hy (by rw [show k + (i + 1) = k + 1 + i by omega]; exact hi) fun acc' ρ' h => hK acc' ρ' (by rw [show k + 1 + i + 1 = k + (i + 1) + 1 by omega]; exact h)) fun acc' ρ' h => he acc' ρ' (by rw [List.length_cons, show k + (xs.length + 1) = k + 1 + xs.length by omega]; exact h)
    exact ⟨ρ2, e, hb⟩
/-- .. pure: each item gives one value or none, the names stay wiped -/
theorem dCL_pure {vs : List Nat} {g : TgF} {t : PuF} {e : PuF} {ρ : Env} (h : D → Option D) (xs : List D) (acc : List D) {P : List D → Env → Prop}
    (hs : ∀ x ∈ xs, ∃ ρ2, g x ρ = some ρ2 ∧ wipeE vs ρ2 = ρ ∧ ((∃ y, h x = some y ∧ t ρ2 = some (.bl true) ∧ e ρ2 = some y) ∨ (h x = none ∧ t ρ2 = some (.bl false)))) (hp : P (acc ++ xs.filterMap h) ρ) : dCL vs g (pt t) (pu e) xs acc ρ P := by
  induction xs generalizing acc with
  | nil => rw [List.filterMap_nil, List.append_nil] at hp; exact hp
  | cons x xs ih =>
    obtain ⟨ρ2, e1, e2, e3⟩ := hs x List.mem_cons_self
    refine ⟨ρ2, e1, ?_⟩
    rcases e3 with ⟨y, h1, h2, h3⟩ | ⟨h1, h2⟩
    · refine ⟨true, h2, ?_⟩
      show (if true = true then _ else _)
      rw [if_pos rfl]
      refine ⟨y, h3, ?_⟩
      show dCL vs g (pt t) (pu e) xs (acc ++ [y]) (wipeE vs ρ2) P
      rw [e2]
      exact ih (acc ++ [y]) (fun z hz => hs z (List.mem_cons_of_mem _ hz)) (by rw [List.filterMap_cons_some h1] at hp; rw [List.append_assoc]; exact hp)
    · refine ⟨false, h2, ?_⟩
      show (if false = true then _ else dCL vs g (pt t) (pu e) xs acc (wipeE vs ρ2) P)
      rw [if_neg Bool.false_ne_true, e2]
      exact ih acc (fun z hz => hs z (List.mem_cons_of_mem _ hz)) (by rw [List.filterMap_cons_none h1] at hp; exact hp)
/-- .. without a test -/
theorem dCL_map {vs : List Nat} {g : TgF} {e : PuF} {ρ : Env} (h : D → D) (xs : List D) (acc : List D) {P : List D → Env → Prop}
    (hs : ∀ x ∈ xs, ∃ ρ2, g x ρ = some ρ2 ∧ wipeE vs ρ2 = ρ ∧ e ρ2 = some (h x)) (hp : P (acc ++ xs.map h) ρ) : dCL vs g dYes (pu e) xs acc ρ P := by
  induction xs generalizing acc with
  | nil => rw [List.map_nil, List.append_nil] at hp; exact hp
  | cons x xs ih =>
    obtain ⟨ρ2, e1, e2, e3⟩ := hs x List.mem_cons_self
    refine ⟨ρ2, e1, ?_⟩
    show (if true = true then pu e ρ2 (fun y ρ4 => dCL vs g dYes (pu e) xs (acc ++ [y]) (wipeE vs ρ4) P) (fun _ _ _ => False) else dCL vs g dYes (pu e) xs acc (wipeE vs ρ2) P)
    rw [if_pos rfl]
    refine ⟨h x, e3, ?_⟩
    show dCL vs g dYes (pu e) xs (acc ++ [h x]) (wipeE vs ρ2) P
    rw [e2]
    exact ih (acc ++ [h x]) (fun z hz => hs z (List.mem_cons_of_mem _ hz)) (by rw [List.map_cons] at hp; rw [List.append_assoc]; exact hp)
/-- a while loop, by a measure -/
theorem dWhile_i {t : DT} {b : DS} {ρ : Env} {N : DN} (V : Nat → Env → Prop) (n : Nat) (h : V n ρ) (st : ∀ n ρ, V n ρ → t ρ (fun c ρ1 => if c = true then b ρ1 { N with nx := fun ρ2 => ∃ m, m < n ∧ V m ρ2, ct := fun ρ2 => ∃ m, m < n ∧ V m ρ2, bk := N.nx } else N.nx ρ1) N.x) : dWhile t b ρ N := ⟨V, ⟨n, h⟩, st⟩
/-! arithmetic with its bounds -/
theorem oMul_i {i j : Int} (h : i.natAbs.log2 + j.natAbs.log2 < 1000000) : oMul (.int i) (.int j) = some (.int (i * j)) := by
  show (if _ then _ else _) = _
  rw [if_pos h]
theorem oDiv_i {i j : Int} (h : 0 < j) (h2 : j.natAbs.log2 < 9000) : oDiv (.int i) (.int j) = some (.int (i / j)) := by
  show (if _ then _ else _) = _
  rw [if_pos ⟨h, h2⟩]
theorem oMod_i {i j : Int} (h : 0 < j) : oMod (.int i) (.int j) = some (.int (i % j)) := by
  show (if _ then _ else _) = _
  rw [if_pos h]
theorem log2_lt {n k : Nat} (h : n < 2 ^ k) (hk : 0 < k) : n.log2 < k := by
  by_cases h0 : n = 0
  · subst h0
    simpa using hk
  · exact (Nat.log2_lt h0).mpr h
end DL

namespace DL
open PySem PySem.Spec PyProof.Rows L2
end DL

/-! DL: tools for the plain part. -/
namespace DL
open PySem PySem.Spec PyProof.Rows L2
theorem eqv_i (i j : Int) : PyData.eqv (.int i) (.int j) = decide (i = j) := by
  simp only [PyData.eqv]
  by_cases h : i = j
  · subst h; simp
  · simp [h]
theorem oEq_i (i j : Int) : oEq (.int i) (.int j) = some (.bl (decide (i = j))) := by
  show (if _ then _ else _) = _
  rw [if_pos ⟨rfl, rfl⟩, ← eqv_i]; rfl
theorem oNe_i (i j : Int) : oNe (.int i) (.int j) = some (.bl (!decide (i = j))) := by
  show (if _ then _ else _) = _
  rw [if_pos ⟨rfl, rfl⟩, ← eqv_i]; rfl
/-- a statement, by what its rest needs -/
theorem blk_i {d : DS} {ds : List DS} {ρ : DL.Env} {N : DN} (M : DL.Env → Prop) (h : d ρ { N with nx := fun ρ' => dBlk ds ρ' N }) : dBlk (d :: ds) ρ N := h
theorem blk_m {d : DS} {ds : List DS} {ρ : DL.Env} {N : DN} (M : DL.Env → Prop) (h : ∀ ρ', M ρ' → dBlk ds ρ' N) (h2 : ∀ K : DL.Env → Prop, (∀ ρ', M ρ' → K ρ') → d ρ { N with nx := K }) : dBlk (d :: ds) ρ N := h2 _ h
theorem deref_low {m : Nat} {ρ : DL.Env} {b : B} {d : D} (h : deref ρ b = some d) (hf : m ≤ fuelOf ρ) : deref (lowF m ρ) b = some d := by
  cases m with
  | zero => exact h
  | succ m =>
    cases b with
    | v x => exact h
    | own i =>
      have e : ρ.getLast? = ρ[ρ.length - 1]? := List.getLast?_eq_getElem?
      unfold fuelOf at hf
      rw [e] at hf
      show (match (ρ.set (ρ.length - 1) _)[i]? with | some (.val d) => some d | some (.ml ds) => some (.lst ds) | some (.md kvs) => some (.dct kvs) | _ => none) = _
      by_cases hi : ρ.length - 1 = i
      · subst hi
        exfalso
        have h : (match ρ[ρ.length - 1]? with | some (.val d) => some d | some (.ml ds) => some (.lst ds) | some (.md kvs) => some (.dct kvs) | _ => none) = some d := h
        split at hf
        · rename_i n e2
          rw [e2] at h
          cases h
        · cases hf
      · rw [List.getElem?_set_ne hi]
        exact h
theorem le1 {n m : Nat} (h : Nat.ble n m = true) : n ≤ m := Nat.le_of_ble_eq_true h
theorem log2_len {n : Nat} {k : Nat} (h : n ≤ k) (hk : k < 2 ^ 64) : ((n : Int)).natAbs.log2 < 9000 := by
  rw [Int.natAbs_natCast]
  exact Nat.lt_of_lt_of_le (log2_lt (k := 64) (by omega) (by decide)) (by decide)
theorem log2_i {i : Int} (h0 : 0 ≤ i) (h : i < 2 ^ 200) : i.natAbs.log2 < 9000 := by
  have : i.natAbs < 2 ^ 200 := by omega
  exact Nat.lt_trans (log2_lt this (by decide)) (by decide)
theorem oIx_t {ds : List D} {j : Nat} {d : D} (h : ds[j]? = some d) : oIx (.tup ds) (.int (j : Nat)) = some d := L2.atI_nat h
theorem oIx_l {ds : List D} {j : Nat} {d : D} (h : ds[j]? = some d) : oIx (.lst ds) (.int (j : Nat)) = some d := L2.atI_nat h
theorem seq_ix {s : D} {ds : List D} {j : Nat} {d : D} (e : seqOf s = some ds) (h : ds[j]? = some d) : oIx s (.int (j : Nat)) = some d := by
  cases s <;> first | (cases e; exact L2.atI_nat h) | cases e
theorem seq_len {s : D} {ds : List D} (e : seqOf s = some ds) : bLen [s] = some (.int ds.length) := by
  cases s <;> first | (cases e; rfl) | cases e
theorem seq_items {s : D} {ds : List D} (e : seqOf s = some ds) : itemsOf s = some ds := by
  cases s <;> first | (cases e; rfl) | cases e
theorem p2_e {op : D → D → Option D} {f g : PuF} {ρ : DL.Env} {x y z : D} (h1 : f ρ = some x) (h2 : g ρ = some y) (h3 : op x y = some z) : p2 op f g ρ = some z := by
  show ((f ρ).bind fun x => (g ρ).bind fun y => op x y) = _
  rw [h1, h2]; exact h3
theorem p1_e {op : D → Option D} {f : PuF} {ρ : DL.Env} {x z : D} (h1 : f ρ = some x) (h3 : op x = some z) : p1 op f ρ = some z := by
  show ((f ρ).bind op) = _
  rw [h1]; exact h3
theorem evs_e {f : PuF} {fs : List PuF} {ρ : DL.Env} {x : D} {xs : List D} (h1 : f ρ = some x) (h2 : evs fs ρ = some xs) : evs (f :: fs) ρ = some (x :: xs) := by
  show ((f ρ).bind fun x => (evs fs ρ).map fun xs => x :: xs) = _
  rw [h1, h2]; rfl
theorem pC_e {op : List D → Option D} {fs : List PuF} {ρ : DL.Env} {xs : List D} {z : D} (h1 : evs fs ρ = some xs) (h3 : op xs = some z) : pC op fs ρ = some z := by
  show ((evs fs ρ).bind op) = _
  rw [h1]; exact h3
theorem pC_e1 {op : List D → Option D} {f : PuF} {ρ : DL.Env} {x z : D} (h1 : f ρ = some x) (h3 : op [x] = some z) : pC op [f] ρ = some z := pC_e (evs_e h1 rfl) h3
theorem oPow_i {i j : Int} (h1 : 0 ≤ j) (h2 : j ≤ 1000000) (h3 : i.natAbs < 2 ^ 64) : oPow (.int i) (.int j) = some (.int (i ^ j.toNat)) := by
  show (if _ then _ else _) = _
  rw [if_pos ⟨h1, h2, h3⟩]
theorem log2_64 {i : Int} (h : i.natAbs < 2 ^ 250) : i.natAbs.log2 < 250 := log2_lt h (by decide)
theorem mul_i {i j : Int} (h : i.natAbs < 2 ^ 250) (h2 : j.natAbs < 2 ^ 250) : oMul (.int i) (.int j) = some (.int (i * j)) := oMul_i (by have := log2_64 h; have := log2_64 h2; omega)
/-- a for loop over a list, by an invariant that the items keep -/
theorem dFL_all {g : TgF} {b : DS} {N : DN} (I : DL.Env → Prop) {xs : List D} {ρ : DL.Env} (h0 : I ρ) (st : ∀ x ρ (K : DL.Env → Prop), x ∈ xs → I ρ → (∀ ρ', I ρ' → K ρ') → ∃ ρ2, g x ρ = some ρ2 ∧ b ρ2 { N with nx := K, ct := K, bk := N.nx }) (he : ∀ ρ', I ρ' → N.nx ρ') : dFL g b xs ρ N :=
  dFL_ind (fun _ => I) xs 0 ρ h0 (fun i x ρ K hx hi hK => st x ρ K (List.mem_of_getElem? hx) hi hK) he
theorem bInt_i (i : Int) : bInt [.int i] = some (.int i) := rfl
theorem p3_t {o o' : D → D → Option D} {f g h : PuF} {ρ : DL.Env} {x y z w : D} (h1 : f ρ = some x) (h2 : g ρ = some y) (h3 : o x y = some (.bl true)) (h4 : h ρ = some z) (h5 : o' y z = some w) : p3 o o' f g h ρ = some w := by
  unfold p3
  rw [h1, h2]
  show (match o x y with | some (.bl true) => (h ρ).bind fun z => o' y z | some (.bl false) => some (.bl false) | _ => none) = _
  rw [h3, h4]; exact h5
theorem p3_f {o o' : D → D → Option D} {f g h : PuF} {ρ : DL.Env} {x y : D} (h1 : f ρ = some x) (h2 : g ρ = some y) (h3 : o x y = some (.bl false)) : p3 o o' f g h ρ = some (.bl false) := by
  unfold p3
  rw [h1, h2]
  show (match o x y with | some (.bl true) => (h ρ).bind fun z => o' y z | some (.bl false) => some (.bl false) | _ => none) = _
  rw [h3]
theorem p3_le {f g h : PuF} {ρ : DL.Env} {x y z : Int} (h1 : f ρ = some (.int x)) (h2 : g ρ = some (.int y)) (h4 : h ρ = some (.int z)) : p3 oLe oLe f g h ρ = some (.bl (decide (x ≤ y) && decide (y ≤ z))) := by
  by_cases e : x ≤ y
  · exact p3_t h1 h2 (by show some (D.bl (decide (x ≤ y))) = _; rw [decide_eq_true e]) h4 (by rw [decide_eq_true e]; rfl)
  · rw [decide_eq_false e]
    exact p3_f h1 h2 (by show some (D.bl (decide (x ≤ y))) = _; rw [decide_eq_false e])
theorem pNot_e {f : PuF} {ρ : DL.Env} {b : Bool} (h : f ρ = some (.bl b)) : pNot f ρ = some (.bl (!b)) := by
  unfold pNot; rw [h]
theorem pOr_t {f g : PuF} {ρ : DL.Env} (h : f ρ = some (.bl true)) : pOr f g ρ = some (.bl true) := by
  unfold pOr; rw [h]
theorem pOr_f {f g : PuF} {ρ : DL.Env} (h : f ρ = some (.bl false)) : pOr f g ρ = g ρ := by
  unfold pOr; rw [h]
theorem pAnd_t {f g : PuF} {ρ : DL.Env} (h : f ρ = some (.bl true)) : pAnd f g ρ = g ρ := by
  unfold pAnd; rw [h]
theorem pAnd_f {f g : PuF} {ρ : DL.Env} (h : f ρ = some (.bl false)) : pAnd f g ρ = some (.bl false) := by
  unfold pAnd; rw [h]
theorem pTup_e {fs : List PuF} {ρ : DL.Env} {xs : List D} (h1 : evs fs ρ = some xs) : pTup fs ρ = some (.tup xs) := by
  show ((evs fs ρ).map D.tup) = _
  rw [h1]; rfl
theorem map_get {α β : Type} {f : α → β} {xs : List α} {i : Nat} {y : β} (h : (xs.map f)[i]? = some y) : ∃ x, xs[i]? = some x ∧ y = f x := by
  rw [List.getElem?_map] at h
  cases e : xs[i]? with
  | none => rw [e] at h; cases h
  | some x => rw [e] at h; cases h; exact ⟨x, rfl, rfl⟩
theorem pow_nat {a b : Nat} (h : a ≤ b) : 2 ^ a ≤ 2 ^ b := Nat.pow_le_pow_right (by decide) h
/-- a comprehension without a test, the item worked out by steps -/
theorem dCL_mapE {vs : List Nat} {g : TgF} {te : DE} {ρ : DL.Env} (h : D → D) (xs : List D) (acc : List D) {P : List D → DL.Env → Prop}
    (hs : ∀ x ∈ xs, ∃ ρ2, g x ρ = some ρ2 ∧ ∀ K : D → DL.Env → Prop, (∀ ρ3, wipeE vs ρ3 = ρ → K (h x) ρ3) → te ρ2 K (fun _ _ _ => False)) (hp : P (acc ++ xs.map h) ρ) : dCL vs g dYes te xs acc ρ P := by
  induction xs generalizing acc with
  | nil => rw [List.map_nil, List.append_nil] at hp; exact hp
  | cons x xs ih =>
    obtain ⟨ρ2, e1, e2⟩ := hs x List.mem_cons_self
    refine ⟨ρ2, e1, ?_⟩
    show te ρ2 (fun y ρ4 => dCL vs g dYes te xs (acc ++ [y]) (wipeE vs ρ4) P) (fun _ _ _ => False)
    refine e2 _ fun ρ3 e3 => ?_
    rw [e3]
    exact ih (acc ++ [h x]) (fun z hz => hs z (List.mem_cons_of_mem _ hz)) (by rw [List.map_cons] at hp; rw [List.append_assoc]; exact hp)
theorem cutD_from {α : Type} (xs : List α) (k : Nat) : cutD xs (some (k : Int)) none = xs.drop k := by
  unfold cutD
  rw [HT.sIx_nat, HT.sIx_none]
  by_cases h : k ≤ xs.length
  · rw [Nat.min_eq_left h, List.take_of_length_le (by rw [List.length_drop]; exact Nat.le_refl _)]
  · rw [Nat.min_eq_right (by omega), Nat.sub_self, List.take_zero, List.drop_of_length_le (by omega)]
theorem cutD_to {α : Type} (xs : List α) (k : Nat) : cutD xs none (some (k : Int)) = xs.take k := by
  unfold cutD
  rw [HT.sIx_nat, HT.sIx_none, Nat.sub_zero, List.drop_zero]
  by_cases h : k ≤ xs.length
  · rw [Nat.min_eq_left h]
  · rw [Nat.min_eq_right (by omega), List.take_length, List.take_of_length_le (by omega)]
end DL

/-! DL: meanings worked out by rewriting. -/
namespace DL
open PySem PySem.Spec PyProof.Rows L2
/-! words: only the first part is looked into -/
/-- a mark that keeps rewriting out -/
def HT {α : Type _} (_ : α) : Type := Unit
def oe {α : Type} (a : Option α) (k : α → Prop) (_ : HT k := ()) : Prop := ∃ x, a = some x ∧ k x
def oeb (a : Option D) (k : Bool → Prop) (_ : HT k := ()) : Prop := ∃ b, a = some (.bl b) ∧ k b
def oei (a : Option D) (k : Int → Prop) (_ : HT k := ()) : Prop := ∃ b, a = some (.int b) ∧ k b
def ovf (s : Option SV) (k1 : D → Prop) (k2 : List D → Prop) (_ : HT k1 := ()) (_ : HT k2 := ()) : Prop := (∃ d, s = some (.val d) ∧ k1 d) ∨ ∃ ds, s = some (.ml ds) ∧ k2 ds
def oml (s : Option SV) (k : List D → Prop) (_ : HT k := ()) : Prop := ∃ ds, s = some (.ml ds) ∧ k ds
def sd (p k : Prop) (_ : HT k := ()) : Prop := p ∧ k
def wif (c : Bool) (a b : Prop) (_ : HT a := ()) (_ : HT b := ()) : Prop := if c = true then a else b
def isb (d : D) (k : Bool → Prop) (_ : HT k := ()) : Prop := ∃ b, d = .bl b ∧ k b
def isi (d : D) (k : Int → Prop) (_ : HT k := ()) : Prop := ∃ b, d = .int b ∧ k b
theorem oe_some {α : Type} {x : α} {k : α → Prop} : oe (some x) k = k x := propext ⟨fun ⟨y, e, h⟩ => by cases e; exact h, fun h => ⟨x, rfl, h⟩⟩
theorem oeb_some {x : Bool} {k : Bool → Prop} : oeb (some (.bl x)) k = k x := propext ⟨fun ⟨y, e, h⟩ => by cases e; exact h, fun h => ⟨x, rfl, h⟩⟩
theorem oei_some {x : Int} {k : Int → Prop} : oei (some (.int x)) k = k x := propext ⟨fun ⟨y, e, h⟩ => by cases e; exact h, fun h => ⟨x, rfl, h⟩⟩
theorem ovf_v {d : D} {k1 : D → Prop} {k2 : List D → Prop} : ovf (some (.val d)) k1 k2 = k1 d := by
  refine propext ⟨fun h => ?_, fun h => .inl ⟨d, rfl, h⟩⟩
  rcases h with ⟨_, e, h⟩ | ⟨_, e, h⟩
  · cases e; exact h
  · cases e
theorem ovf_m {d : List D} {k1 : D → Prop} {k2 : List D → Prop} : ovf (some (.ml d)) k1 k2 = k2 d := by
  refine propext ⟨fun h => ?_, fun h => .inr ⟨d, rfl, h⟩⟩
  rcases h with ⟨_, e, h⟩ | ⟨_, e, h⟩
  · cases e
  · cases e; exact h
theorem oml_some {d : List D} {k : List D → Prop} : oml (some (.ml d)) k = k d := propext ⟨fun ⟨_, e, h⟩ => by cases e; exact h, fun h => ⟨d, rfl, h⟩⟩
theorem sd_ok {p k : Prop} (h : p) : sd p k = k := propext ⟨fun q => q.2, fun q => ⟨h, q⟩⟩
theorem sd_t {k : Prop} : sd True k = k := sd_ok trivial
theorem wif_t {a b : Prop} : wif true a b = a := if_pos rfl
theorem wif_f {a b : Prop} : wif false a b = b := if_neg Bool.false_ne_true
theorem isb_b {x : Bool} {k : Bool → Prop} : isb (.bl x) k = k x := propext ⟨fun ⟨y, e, h⟩ => by cases e; exact h, fun h => ⟨x, rfl, h⟩⟩
theorem isi_i {x : Int} {k : Int → Prop} : isi (.int x) k = k x := propext ⟨fun ⟨y, e, h⟩ => by cases e; exact h, fun h => ⟨x, rfl, h⟩⟩
theorem wif_i {c : Bool} {a b : Prop} (h : c = true → a) (h2 : c = false → b) : wif c a b := by
  cases c with
  | true => rw [wif_t]; exact h rfl
  | false => rw [wif_f]; exact h2 rfl
theorem oe_i {α : Type} {a : Option α} {x : α} {k : α → Prop} (h : a = some x) (q : k x) : oe a k := ⟨x, h, q⟩
theorem sd_i {p k : Prop} (h : p) (q : k) : sd p k := ⟨h, q⟩

/-! meanings as these words -/
section
variable {ρ : Env} {N : DN} {P : D → Env → Prop} {PB : B → Env → Prop} {PL : List D → Env → Prop} {PT : Bool → Env → Prop} {PA : List B → Env → Prop} {PO : Option Int → Env → Prop} {X : DX} {f g h : PuF}
theorem pu_w : pu f ρ P X = oe (f ρ) fun d => P d ρ := rfl
theorem pt_w : pt f ρ PT X = oeb (f ρ) fun b => PT b ρ := rfl
theorem pf_w {f : Env → Option (List D)} : pf f ρ PL X = oe (f ρ) fun d => PL d ρ := rfl
theorem po0_w : po0 ρ PO X = PO none ρ := rfl
theorem po_w : po f ρ PO X = oei (f ρ) fun i => PO (some i) ρ := rfl
theorem dV_w {d : DE} : dV d ρ PB X = d ρ (fun r ρ' => PB (.v r) ρ') X := rfl
theorem dFz_w {d : DF} : dFz d ρ P X = d ρ (fun r ρ' => P (.lst r) ρ') X := rfl
theorem dArgs_n : dArgs [] ρ PA X = PA [] ρ := rfl
theorem dArgs_c {d : DB} {ds : List DB} : dArgs (d :: ds) ρ PA X = d ρ (fun b ρ1 => dArgs ds ρ1 (fun bs ρ2 => PA (b :: bs) ρ2) X) X := rfl
theorem vals_n : vals [] = some [] := rfl
theorem vals_c {d : D} {bs : List B} : vals (.v d :: bs) = (vals bs).map fun ds => d :: ds := rfl
theorem derefs_n : derefs ρ [] = some [] := rfl
theorem derefs_c {b : B} {bs : List B} : derefs ρ (b :: bs) = (deref ρ b).bind fun d => (derefs ρ bs).map fun ds => d :: ds := rfl
theorem deref_v {d : D} : deref ρ (.v d) = some d := rfl
theorem deref_o {i : Nat} : deref ρ (.own i) = rd i ρ := rfl
theorem ex_oe {α : Type} {a : Option α} {k : α → Prop} : (∃ x, a = some x ∧ k x) = oe a k := rfl
theorem dOp2_w {op : D → D → Option D} {d1 d2 : DB} : dOp2 op d1 d2 ρ P X = d1 ρ (fun b1 ρ1 => d2 ρ1 (fun b2 ρ2 => oe (deref ρ2 b1) fun x => oe (deref ρ2 b2) fun y => oe (op x y) fun c => P c ρ2) X) X := by
  unfold dOp2
  congr 1; funext b1 ρ1; congr 1; funext b2 ρ2
  exact propext ⟨fun ⟨x, y, c, e1, e2, e3, p⟩ => ⟨x, e1, y, e2, c, e3, p⟩, fun ⟨x, e1, y, e2, c, e3, p⟩ => ⟨x, y, c, e1, e2, e3, p⟩⟩
theorem dOpF_w {op : D → D → Option (List D)} {d1 d2 : DB} : dOpF op d1 d2 ρ PL X = d1 ρ (fun b1 ρ1 => d2 ρ1 (fun b2 ρ2 => oe (deref ρ2 b1) fun x => oe (deref ρ2 b2) fun y => oe (op x y) fun c => PL c ρ2) X) X := by
  unfold dOpF
  congr 1; funext b1 ρ1; congr 1; funext b2 ρ2
  exact propext ⟨fun ⟨x, y, c, e1, e2, e3, p⟩ => ⟨x, e1, y, e2, c, e3, p⟩, fun ⟨x, e1, y, e2, c, e3, p⟩ => ⟨x, y, c, e1, e2, e3, p⟩⟩
theorem dUn_w {op : D → Option D} {d1 : DB} : dUn op d1 ρ P X = d1 ρ (fun b1 ρ1 => oe (deref ρ1 b1) fun x => oe (op x) fun c => P c ρ1) X := by
  unfold dUn
  congr 1; funext b1 ρ1
  exact propext ⟨fun ⟨x, c, e1, e3, p⟩ => ⟨x, e1, c, e3, p⟩, fun ⟨x, e1, c, e3, p⟩ => ⟨x, c, e1, e3, p⟩⟩
theorem dTst_w {d : DE} : dTst d ρ PT X = d ρ (fun r ρ' => isb r fun b => PT b ρ') X := rfl
theorem dNot_w {d : DT} : dNot d ρ PT X = d ρ (fun b ρ' => PT (!b) ρ') X := rfl
theorem dAnd_w {d1 d2 : DT} : dAnd d1 d2 ρ PT X = d1 ρ (fun b ρ1 => wif b (d2 ρ1 PT X) (PT false ρ1)) X := rfl
theorem dOr_w {d1 d2 : DT} : dOr d1 d2 ρ PT X = d1 ρ (fun b ρ1 => wif b (PT true ρ1) (d2 ρ1 PT X)) X := rfl
theorem dNotV_w {d : DE} : dNotV d ρ P X = d ρ (fun r ρ' => isb r fun b => P (.bl (!b)) ρ') X := rfl
theorem dAndV_w {d1 d2 : DE} : dAndV d1 d2 ρ P X = d1 ρ (fun r ρ1 => isb r fun b => wif b (d2 ρ1 P X) (P (.bl false) ρ1)) X := rfl
theorem dOrV_w {d1 d2 : DE} : dOrV d1 d2 ρ P X = d1 ρ (fun r ρ1 => isb r fun b => wif b (P (.bl true) ρ1) (d2 ρ1 P X)) X := rfl
theorem dIfE_w {t : DT} {d1 d2 : DE} : dIfE t d1 d2 ρ P X = t ρ (fun b ρ1 => wif b (d1 ρ1 P X) (d2 ρ1 P X)) X := rfl
theorem dCall_w {m : Nat} {sp : DSp} {das : List DB} : dCall m sp das ρ P X = dArgs das ρ (fun bs ρ1 => sd (m ≤ fuelOf ρ1) (oe (vals bs) fun ds => sp ds (fun r => P r (lowF m ρ1)) (fun c es => X c es (lowF m ρ1)))) X := rfl
theorem dCallK_w {m : Nat} {sp : DSp} {js : List Nat} {das dks : List DB} : dCallK m sp js das dks ρ P X = dArgs das ρ (fun bs ρ1 => dArgs dks ρ1 (fun cs ρ2 => sd (m ≤ fuelOf ρ2) (oe (vals bs) fun ds => oe (vals cs) fun es => sp (pickL js (ds ++ es)) (fun r => P r (lowF m ρ2)) (fun c es => X c es (lowF m ρ2)))) X) X := by
  unfold dCallK
  congr 1; funext b1 ρ1; congr 1; funext b2 ρ2
  exact propext ⟨fun ⟨l, x, y, e1, e2, p⟩ => ⟨l, x, e1, y, e2, p⟩, fun ⟨l, x, e1, y, e2, p⟩ => ⟨l, x, y, e1, e2, p⟩⟩
theorem dCb_w {op : List D → Option D} {das : List DB} : dCb op das ρ P X = dArgs das ρ (fun bs ρ1 => oe (derefs ρ1 bs) fun ds => oe (op ds) fun c => P c ρ1) X := by
  unfold dCb
  congr 1; funext b1 ρ1
  exact propext ⟨fun ⟨x, c, e1, e3, p⟩ => ⟨x, e1, c, e3, p⟩, fun ⟨x, e1, c, e3, p⟩ => ⟨x, c, e1, e3, p⟩⟩
theorem dCbF_w {op : List D → Option (List D)} {das : List DB} : dCbF op das ρ PL X = dArgs das ρ (fun bs ρ1 => oe (derefs ρ1 bs) fun ds => oe (op ds) fun c => PL c ρ1) X := by
  unfold dCbF
  congr 1; funext b1 ρ1
  exact propext ⟨fun ⟨x, c, e1, e3, p⟩ => ⟨x, e1, c, e3, p⟩, fun ⟨x, e1, c, e3, p⟩ => ⟨x, c, e1, e3, p⟩⟩
theorem dTup_w {das : List DB} : dTup das ρ P X = dArgs das ρ (fun bs ρ1 => oe (vals bs) fun ds => P (.tup ds) ρ1) X := rfl
theorem dLst_w {das : List DB} : dLst das ρ PL X = dArgs das ρ (fun bs ρ1 => oe (vals bs) fun ds => PL ds ρ1) X := rfl
theorem dVF_w {i : Nat} : dVF i ρ P X = ovf ρ[i]? (fun d => P d ρ) (fun ds => P (.lst ds) (ρ.set i (.val (.lst ds)))) := rfl
theorem dFrz_w {i : Nat} : dFrz i ρ P X = oml ρ[i]? (fun ds => P (.lst ds) (ρ.set i (.val (.lst ds)))) := rfl
theorem dCaught_w {isR : Nat → Bool} {d : DE} : dCaught isR d ρ P X = d ρ (fun _ ρ' => P .non ρ') (fun c ds ρ' => sd (isR c = true) (P (.exc c ds) ρ')) := rfl
theorem dIt_w {d : DE} : dIt d ρ PL X = d ρ (fun r ρ' => oe (itemsOf r) fun ds => PL ds ρ') X := rfl
theorem dRg_w {das : List DB} : dRg das ρ PL X = dArgs das ρ (fun bs ρ1 => oe (vals bs) fun ds => oe (rngOf ds) fun c => PL c ρ1) X := by
  unfold dRg
  congr 1; funext b1 ρ1
  exact propext ⟨fun ⟨x, c, e1, e3, p⟩ => ⟨x, e1, c, e3, p⟩, fun ⟨x, e1, c, e3, p⟩ => ⟨x, c, e1, e3, p⟩⟩
theorem dRg3_w {das : List DB} : dRg3 das ρ PL X = dArgs das ρ (fun bs ρ1 => oe (vals bs) fun ds => oe (rngOf3 ds) fun c => PL c ρ1) X := by
  unfold dRg3
  congr 1; funext b1 ρ1
  exact propext ⟨fun ⟨x, c, e1, e3, p⟩ => ⟨x, e1, c, e3, p⟩, fun ⟨x, e1, c, e3, p⟩ => ⟨x, c, e1, e3, p⟩⟩
theorem dEnum_w {d : DE} : dEnum d ρ PL X = d ρ (fun r ρ' => oe (seqOf r) fun ds => PL (enumD ds) ρ') X := rfl
theorem dZip_w {d1 d2 : DE} : dZip d1 d2 ρ PL X = d1 ρ (fun r1 ρ1 => d2 ρ1 (fun r2 ρ2 => oe (zipOf r1 r2) fun ds => PL ds ρ2) X) X := rfl
theorem dLRg1_w {d : DE} : dLRg1 d ρ PL X = d ρ (fun r ρ' => isi r fun n => sd (inB n = true ∧ n.toNat ≤ sizeLine) (PL (rng 0 n.toNat) ρ')) X := by
  unfold dLRg1
  congr 1; funext r ρ'
  exact propext ⟨fun ⟨x, e1, e3, e4, p⟩ => ⟨x, e1, ⟨e3, e4⟩, p⟩, fun ⟨x, e1, e3, p⟩ => ⟨x, e1, e3.1, e3.2, p⟩⟩
theorem dLRg2_w {d1 d2 : DE} : dLRg2 d1 d2 ρ PL X = d1 ρ (fun r1 ρ1 => d2 ρ1 (fun r2 ρ2 => isi r1 fun i => isi r2 fun j => sd (inB i = true ∧ inB j = true ∧ (j - i).toNat ≤ sizeLine) (PL (rng i (j - i).toNat) ρ2)) X) X := by
  unfold dLRg2
  congr 1; funext r1 ρ1; congr 1; funext r2 ρ2
  exact propext ⟨fun ⟨x, y, e1, e2, e3, e4, e5, p⟩ => ⟨x, e1, y, e2, ⟨e3, e4, e5⟩, p⟩, fun ⟨x, e1, y, e2, e3, p⟩ => ⟨x, y, e1, e2, e3.1, e3.2.1, e3.2.2, p⟩⟩
theorem dComp_w {di : DI} {vs : List Nat} {g : TgF} {tt : DT} {te : DE} : dComp di vs g tt te ρ PL X = di ρ (fun xs ρ1 => sd (okW vs ρ1 = true) (dCL vs g tt te xs [] (wipeE vs ρ1) (fun acc ρw => PL acc (restE vs ρ1 ρw)))) X := rfl
theorem dComp2_w {di di1 : DI} {vs vs1 : List Nat} {g g1 : TgF} {tt tt1 : DT} {te : DE} : dComp2 di vs g tt di1 vs1 g1 tt1 te ρ PL X = di ρ (fun xs ρ1 => sd (okW vs ρ1 = true) (dCL2 vs g tt di1 vs1 g1 tt1 te xs [] (wipeE vs ρ1) (fun acc ρw => PL acc (restE vs ρ1 ρw)))) X := rfl
theorem dSl_w {op : D → Option Int → Option Int → Option D} {d1 : DB} {l h : DO} : dSl op d1 l h ρ P X = d1 ρ (fun b ρ1 => l ρ1 (fun lo ρ2 => h ρ2 (fun hi ρ3 => oe (deref ρ3 b) fun x => oe (op x lo hi) fun c => P c ρ3) X) X) X := by
  unfold dSl
  congr 1; funext b1 ρ1; congr 1; funext b2 ρ2; congr 1; funext b3 ρ3
  exact propext ⟨fun ⟨x, c, e1, e3, p⟩ => ⟨x, e1, c, e3, p⟩, fun ⟨x, e1, c, e3, p⟩ => ⟨x, c, e1, e3, p⟩⟩
theorem dSlF_w {op : D → Option Int → Option Int → Option (List D)} {d1 : DB} {l h : DO} : dSlF op d1 l h ρ PL X = d1 ρ (fun b ρ1 => l ρ1 (fun lo ρ2 => h ρ2 (fun hi ρ3 => oe (deref ρ3 b) fun x => oe (op x lo hi) fun c => PL c ρ3) X) X) X := by
  unfold dSlF
  congr 1; funext b1 ρ1; congr 1; funext b2 ρ2; congr 1; funext b3 ρ3
  exact propext ⟨fun ⟨x, c, e1, e3, p⟩ => ⟨x, e1, c, e3, p⟩, fun ⟨x, e1, c, e3, p⟩ => ⟨x, c, e1, e3, p⟩⟩
theorem dCh_w {o o' : D → D → Option D} {d1 d2 d3 : DB} : dCh o o' d1 d2 d3 ρ P X = d1 ρ (fun b1 ρ1 => d2 ρ1 (fun b2 ρ2 => oe (deref ρ2 b1) fun x => oe (deref ρ2 b2) fun y => oeb (o x y) fun c => wif c (d3 ρ2 (fun b3 ρ3 => oe (deref ρ3 b2) fun y => oe (deref ρ3 b3) fun z => oe (o' y z) fun r => P r ρ3) X) (P (.bl false) ρ2)) X) X := by
  unfold dCh
  congr 1; funext b1 ρ1; congr 1; funext b2 ρ2
  refine propext ⟨fun ⟨x, y, c, e1, e2, e3, p⟩ => ⟨x, e1, y, e2, c, e3, ?_⟩, fun ⟨x, e1, y, e2, c, e3, p⟩ => ⟨x, y, c, e1, e2, e3, ?_⟩⟩
  · cases c with
    | false => exact p
    | true =>
      refine Eq.mp ?_ p
      show (if true = true then _ else _) = (if true = true then _ else _)
      rw [if_pos rfl, if_pos rfl]
      congr 1; funext b3 ρ3
      exact propext ⟨fun ⟨y, z, r, e1, e2, e3, p⟩ => ⟨y, e1, z, e2, r, e3, p⟩, fun ⟨y, e1, z, e2, r, e3, p⟩ => ⟨y, z, r, e1, e2, e3, p⟩⟩
  · cases c with
    | false => exact p
    | true =>
      refine Eq.mp ?_ p
      show (if true = true then _ else _) = (if true = true then _ else _)
      rw [if_pos rfl, if_pos rfl]
      congr 1; funext b3 ρ3
      exact propext ⟨fun ⟨y, e1, z, e2, r, e3, p⟩ => ⟨y, z, r, e1, e2, e3, p⟩, fun ⟨y, z, r, e1, e2, e3, p⟩ => ⟨y, e1, z, e2, r, e3, p⟩⟩
theorem dPop_w {i : Nat} : dPop i ρ P X = oml ρ[i]? fun ds => oe ds[ds.length - 1]? fun y => P y (ρ.set i (.ml ds.dropLast)) := by
  unfold dPop
  exact propext ⟨fun ⟨x, c, e1, e3, p⟩ => ⟨x, e1, c, e3, p⟩, fun ⟨x, e1, c, e3, p⟩ => ⟨x, c, e1, e3, p⟩⟩
theorem dPopI_w {i : Nat} {d : DE} : dPopI i d ρ P X = oml ρ[i]? fun _ => d ρ (fun r ρ' => oml ρ'[i]? fun ds => isi r fun k => sd (inB k = true) (oe (ixN ds.length k) fun j => oe ds[j]? fun y => P y (ρ'.set i (.ml (ds.eraseIdx j))))) X := by
  unfold dPopI
  have e : (fun r ρ' => ∃ ds k j y, ρ'[i]? = some (.ml ds) ∧ r = .int k ∧ inB k = true ∧ ixN ds.length k = some j ∧ ds[j]? = some y ∧ P y (ρ'.set i (.ml (ds.eraseIdx j)))) = (fun r (ρ' : Env) => oml ρ'[i]? fun ds => isi r fun k => sd (inB k = true) (oe (ixN ds.length k) fun j => oe ds[j]? fun y => P y (ρ'.set i (.ml (ds.eraseIdx j))))) := by
    funext r ρ'
    exact propext ⟨fun ⟨ds, k, j, y, e1, e2, e3, e4, e5, p⟩ => ⟨ds, e1, k, e2, e3, j, e4, y, e5, p⟩, fun ⟨ds, e1, k, e2, e3, j, e4, y, e5, p⟩ => ⟨ds, k, j, y, e1, e2, e3, e4, e5, p⟩⟩
  rw [e]
  exact propext ⟨fun ⟨⟨ds, e⟩, p⟩ => ⟨ds, e, p⟩, fun ⟨ds, e, p⟩ => ⟨⟨ds, e⟩, p⟩⟩
/-! statements -/
theorem DNx_w {nx : Env → Prop} {rt : D → Prop} {bk ct : Env → Prop} {ex : Nat → List D → Prop} : DN.x ⟨nx, rt, bk, ct, ex⟩ = fun c ds _ => ex c ds := rfl
theorem dBlk_n : dBlk [] ρ N = N.nx ρ := rfl
theorem dBlk_c {d : DS} {ds : List DS} {nx : Env → Prop} {rt : D → Prop} {bk ct : Env → Prop} {ex : Nat → List D → Prop} : dBlk (d :: ds) ρ ⟨nx, rt, bk, ct, ex⟩ = d ρ ⟨fun ρ' => dBlk ds ρ' ⟨nx, rt, bk, ct, ex⟩, rt, bk, ct, ex⟩ := rfl
theorem dNx_w : dNx ρ N = N.nx ρ := rfl
theorem dBk_w : dBk ρ N = N.bk ρ := rfl
theorem dCt_w : dCt ρ N = N.ct ρ := rfl
theorem dRet_w {d : DE} : dRet d ρ N = d ρ (fun r _ => N.rt r) N.x := rfl
theorem dRetN_w : dRetN ρ N = N.rt .non := rfl
theorem dDrop_w {d : DE} : dDrop d ρ N = d ρ (fun _ ρ' => N.nx ρ') N.x := rfl
theorem dIf_w {t : DT} {a b : DS} : dIf t a b ρ N = t ρ (fun c ρ' => wif c (a ρ' N) (b ρ' N)) N.x := rfl
theorem dAsg_w {d : DE} {g : TgF} : dAsg d g ρ N = d ρ (fun r ρ' => oe (g r ρ') fun ρ2 => N.nx ρ2) N.x := rfl
theorem dSet_w {i : Nat} {d : DE} : dSet i d ρ N = d ρ (fun r ρ' => N.nx (ρ'.set i (.val r))) N.x := rfl
theorem dSetM_w {i : Nat} {d : DF} : dSetM i d ρ N = d ρ (fun r ρ' => N.nx (ρ'.set i (.ml r))) N.x := rfl
theorem dSetF_w {i : Nat} {d : DF} : dSetF i d ρ N = d ρ (fun r ρ' => N.nx (ρ'.set i (.val (.lst r)))) N.x := rfl
theorem dPar_w {i j : Nat} {d1 d2 : DE} : dPar i j d1 d2 ρ N = d1 ρ (fun r1 ρ1 => d2 ρ1 (fun r2 ρ2 => N.nx ((ρ2.set i (.val r1)).set j (.val r2))) N.x) N.x := rfl
theorem dParMM_w {i j : Nat} {d1 d2 : DF} : dParMM i j d1 d2 ρ N = d1 ρ (fun r1 ρ1 => d2 ρ1 (fun r2 ρ2 => N.nx ((ρ2.set i (.ml r1)).set j (.ml r2))) noX) N.x := rfl
theorem dParMV_w {i j : Nat} {d1 : DF} {d2 : DE} : dParMV i j d1 d2 ρ N = d1 ρ (fun r1 ρ1 => d2 ρ1 (fun r2 ρ2 => N.nx ((ρ2.set i (.ml r1)).set j (.val r2))) noX) N.x := rfl
theorem dParVM_w {i j : Nat} {d1 : DE} {d2 : DF} : dParVM i j d1 d2 ρ N = d1 ρ (fun r1 ρ1 => d2 ρ1 (fun r2 ρ2 => N.nx ((ρ2.set i (.val r1)).set j (.ml r2))) N.x) N.x := rfl
theorem dFor_w {di : DI} {g : TgF} {b : DS} : dFor di g b ρ N = di ρ (fun xs ρ1 => dFL g b xs ρ1 N) N.x := rfl
theorem dFL_n {g : TgF} {b : DS} : dFL g b [] ρ N = N.nx ρ := rfl
theorem dFL_c {g : TgF} {b : DS} {x : D} {xs : List D} {nx : Env → Prop} {rt : D → Prop} {bk ct : Env → Prop} {ex : Nat → List D → Prop} : dFL g b (x :: xs) ρ ⟨nx, rt, bk, ct, ex⟩ = oe (g x ρ) fun ρ2 => b ρ2 ⟨fun ρ' => dFL g b xs ρ' ⟨nx, rt, bk, ct, ex⟩, rt, nx, fun ρ' => dFL g b xs ρ' ⟨nx, rt, bk, ct, ex⟩, ex⟩ := rfl
theorem dRaise_w {c : Nat} : dRaise c ρ N = N.ex c [] := rfl
theorem dRaise1_w {c : Nat} {d : DE} : dRaise1 c d ρ N = d ρ (fun r _ => N.ex c [r]) N.x := rfl
theorem dApp_w {i : Nat} {d : DE} : dApp i d ρ N = oml ρ[i]? fun _ => d ρ (fun r ρ' => oml ρ'[i]? fun ds => sd (ds.length < sizeLine) (N.nx (ρ'.set i (.ml (ds ++ [r]))))) N.x := by
  unfold dApp
  exact propext ⟨fun ⟨⟨ds, e⟩, p⟩ => ⟨ds, e, p⟩, fun ⟨ds, e, p⟩ => ⟨⟨ds, e⟩, p⟩⟩
theorem dAugV_w {i : Nat} {op : D → D → Option D} {d : DB} : dAugV i op d ρ N = oe (rdv i ρ) fun x => d ρ (fun b ρ' => oe (deref ρ' b) fun y => oe (op x y) fun c => N.nx (ρ'.set i (.val c))) N.x := by
  have e : ∀ x, (fun b (ρ' : Env) => ∃ y c, deref ρ' b = some y ∧ op x y = some c ∧ N.nx (ρ'.set i (.val c))) = fun b ρ' => oe (deref ρ' b) fun y => oe (op x y) fun c => N.nx (ρ'.set i (.val c)) := by
    intro x
    funext b ρ'
    exact propext ⟨fun ⟨x, c, e1, e3, p⟩ => ⟨x, e1, c, e3, p⟩, fun ⟨x, e1, c, e3, p⟩ => ⟨x, c, e1, e3, p⟩⟩
  unfold dAugV oe
  simp only [e]
  rfl
theorem dCL_n {vs : List Nat} {tg : TgF} {tt : DT} {te : DE} {acc : List D} : dCL vs tg tt te [] acc ρ PL = PL acc ρ := rfl
theorem dYes_w : dYes ρ PT X = PT true ρ := rfl
theorem tgN_w {i : Nat} {d : D} : tgN i d ρ = some (ρ.set i (.val d)) := rfl
/-! pure parts -/
theorem p2_w {op : D → D → Option D} : p2 op f g ρ = (f ρ).bind fun x => (g ρ).bind fun y => op x y := rfl
theorem p2F_w {op : D → D → Option (List D)} : p2F op f g ρ = (f ρ).bind fun x => (g ρ).bind fun y => op x y := rfl
theorem p1_w {op : D → Option D} : p1 op f ρ = (f ρ).bind op := rfl
theorem pC_w {op : List D → Option D} {fs : List PuF} : pC op fs ρ = (evs fs ρ).bind op := rfl
theorem pCF_w {op : List D → Option (List D)} {fs : List PuF} : pCF op fs ρ = (evs fs ρ).bind op := rfl
theorem evs_n : evs [] ρ = some [] := rfl
theorem evs_c {fs : List PuF} : evs (f :: fs) ρ = (f ρ).bind fun x => (evs fs ρ).map fun xs => x :: xs := rfl
theorem pTup_w {fs : List PuF} : pTup fs ρ = (evs fs ρ).map .tup := rfl
def bnot : Option D → Option D
  | some (.bl b) => some (.bl !b)
  | _ => none
def band (a b : Option D) : Option D := match a with
  | some (.bl true) => b
  | some (.bl false) => some (.bl false)
  | _ => none
def bor (a b : Option D) : Option D := match a with
  | some (.bl true) => some (.bl true)
  | some (.bl false) => b
  | _ => none
def bite (a b c : Option D) : Option D := match a with
  | some (.bl true) => b
  | some (.bl false) => c
  | _ => none
def oint : Option D → Option (Option Int)
  | some (.int i) => some (some i)
  | _ => none
theorem pNot_w : pNot f ρ = bnot (f ρ) := rfl
theorem pAnd_w : pAnd f g ρ = band (f ρ) (g ρ) := rfl
theorem pOr_w : pOr f g ρ = bor (f ρ) (g ρ) := rfl
theorem pIf_w : pIf f g h ρ = bite (f ρ) (g ρ) (h ρ) := rfl
theorem p3_w {o o' : D → D → Option D} : p3 o o' f g h ρ = (f ρ).bind fun x => (g ρ).bind fun y => band (o x y) ((h ρ).bind fun z => o' y z) := rfl
theorem pSl_w {α : Type} {op : D → Option Int → Option Int → Option α} {l h : PO1} : pSl op f l h ρ = (f ρ).bind fun x => (l.ev ρ).bind fun i => (h.ev ρ).bind fun j => op x i j := rfl
theorem PO1_n : PO1.ev .no ρ = some none := rfl
theorem PO1_a : PO1.ev (.at f) ρ = oint (f ρ) := rfl
theorem PO1_dn : PO1.d .no = po0 := rfl
theorem PO1_da : PO1.d (.at f) = po f := rfl
theorem oint_i {i : Int} : oint (some (.int i)) = some (some i) := rfl
theorem bnot_b {b : Bool} : bnot (some (.bl b)) = some (.bl !b) := rfl
theorem band_t {y : Option D} : band (some (.bl true)) y = y := rfl
theorem band_f {y : Option D} : band (some (.bl false)) y = some (.bl false) := rfl
theorem band_b {a b : Bool} : band (some (.bl a)) (some (.bl b)) = some (.bl (a && b)) := by cases a <;> rfl
theorem bor_t {y : Option D} : bor (some (.bl true)) y = some (.bl true) := rfl
theorem bor_f {y : Option D} : bor (some (.bl false)) y = y := rfl
theorem bor_b {a b : Bool} : bor (some (.bl a)) (some (.bl b)) = some (.bl (a || b)) := by cases a <;> rfl
theorem bite_t {y z : Option D} : bite (some (.bl true)) y z = y := rfl
theorem bite_f {y z : Option D} : bite (some (.bl false)) y z = z := rfl
theorem bite_b {a : Bool} {y z : D} : bite (some (.bl a)) (some y) (some z) = some (if a = true then y else z) := by cases a <;> rfl
/-! names -/
variable {s : SV} {l : Env} {i : Nat} {d : D} {ds : List D}
theorem rdv_0 : rdv 0 (.val d :: l) = some d := rfl
theorem rdv_s : rdv (i + 1) (s :: l) = rdv i l := rfl
theorem rd_0 : rd 0 (.val d :: l) = some d := rfl
theorem rd_0m : rd 0 (.ml ds :: l) = some (.lst ds) := rfl
theorem rd_s : rd (i + 1) (s :: l) = rd i l := rfl
theorem lowF_0 : lowF 0 ρ = ρ := rfl
theorem lowF_c {t : SV} {m : Nat} : lowF (m + 1) (s :: t :: l) = s :: lowF (m + 1) (t :: l) := by
  have e : fuelOf (s :: t :: l) = fuelOf (t :: l) := by unfold fuelOf; rw [List.getLast?_cons_cons]
  show List.set (s :: t :: l) (l.length + 1) (.fuel (fuelOf (s :: t :: l) - (m + 1))) = s :: List.set (t :: l) (l.length) _
  rw [e]; rfl
theorem lowF_1 {m n : Nat} : lowF (m + 1) [.fuel n] = [.fuel (n - (m + 1))] := rfl
theorem fuelOf_c {t : SV} : fuelOf (s :: t :: l) = fuelOf (t :: l) := by unfold fuelOf; rw [List.getLast?_cons_cons]
theorem fuelOf_1 {n : Nat} : fuelOf [.fuel n] = n := rfl
theorem startE_0 {n : Nat} : startE n 0 ds = ds.map .val ++ List.replicate (n - ds.length) .un := by
  unfold startE
  simp
/-! words on data -/
variable {x y : Int} {a b c e : D} {ls : List D}
theorem oAdd_i : oAdd (.int x) (.int y) = some (.int (x + y)) := rfl
theorem oSub_i : oSub (.int x) (.int y) = some (.int (x - y)) := rfl
theorem oNeg_i : oNeg (.int x) = some (.int (-x)) := rfl
theorem oLt_i : oLt (.int x) (.int y) = some (.bl (decide (x < y))) := rfl
theorem oLe_i : oLe (.int x) (.int y) = some (.bl (decide (x ≤ y))) := rfl
theorem oGt_i : oGt (.int x) (.int y) = some (.bl (decide (y < x))) := rfl
theorem oGe_i : oGe (.int x) (.int y) = some (.bl (decide (y ≤ x))) := rfl
theorem oAddI_i : oAddI (.int x) (.int y) = some (.int (x + y)) := rfl
theorem oSubI_i : oSubI (.int x) (.int y) = some (.int (x - y)) := rfl
theorem oMul_b (h1 : -2 ^ 250 < x) (h2 : x < 2 ^ 250) (h3 : -2 ^ 250 < y) (h4 : y < 2 ^ 250) : oMul (.int x) (.int y) = some (.int (x * y)) := mul_i (by omega) (by omega)
theorem oDiv_b (h1 : 0 < y) (h2 : y < 2 ^ 250) : oDiv (.int x) (.int y) = some (.int (x / y)) := oDiv_i h1 (Nat.lt_trans (log2_64 (by omega)) (by decide))
theorem oPow_b (h1 : 0 ≤ y) (h2 : y ≤ 1000000) (h3 : -2 ^ 64 < x) (h4 : x < 2 ^ 64) : oPow (.int x) (.int y) = some (.int (x ^ y.toNat)) := oPow_i h1 h2 (by omega)
theorem ix_0 : oIx (.tup (a :: ls)) (.int 0) = some a := oIx_t (j := 0) rfl
theorem ix_1 : oIx (.tup (a :: b :: ls)) (.int 1) = some b := oIx_t (j := 1) rfl
theorem ix_2 : oIx (.tup (a :: b :: c :: ls)) (.int 2) = some c := oIx_t (j := 2) rfl
theorem ix_3 : oIx (.tup (a :: b :: c :: e :: ls)) (.int 3) = some e := oIx_t (j := 3) rfl
theorem ixl_0 : oIx (.lst (a :: ls)) (.int 0) = some a := oIx_l (j := 0) rfl
theorem ixl_1 : oIx (.lst (a :: b :: ls)) (.int 1) = some b := oIx_l (j := 1) rfl
theorem ixl_2 : oIx (.lst (a :: b :: c :: ls)) (.int 2) = some c := oIx_l (j := 2) rfl
theorem ixl_3 : oIx (.lst (a :: b :: c :: e :: ls)) (.int 3) = some e := oIx_l (j := 3) rfl
theorem len_t : bLen [.tup ls] = some (.int ls.length) := rfl
theorem len_l : bLen [.lst ls] = some (.int ls.length) := rfl
theorem bAbs_w : bAbs [.int x] = some (.int (x.natAbs : Int)) := by
  show some (D.int (if x < 0 then -x else x)) = _
  congr 2
  split <;> omega
theorem bMax_2 : bMax [.int x, .int y] = some (.int (max x y)) := rfl
theorem bMin_2 : bMin [.int x, .int y] = some (.int (min x y)) := rfl
theorem bTup_l : bTuple [.lst ls] = some (.tup ls) := rfl
theorem bTup_t : bTuple [.tup ls] = some (.tup ls) := rfl
theorem bList_l : bList [.lst ls] = some ls := rfl
theorem bList_t : bList [.tup ls] = some ls := rfl
theorem items_l : itemsOf (.lst ls) = some ls := rfl
theorem items_t : itemsOf (.tup ls) = some ls := rfl
theorem seq_l : seqOf (.lst ls) = some ls := rfl
theorem seq_t : seqOf (.tup ls) = some ls := rfl
theorem tgT_t {gs : List TgF} : tgT gs (.tup ls) ρ = tgS gs ls ρ := rfl
theorem tgS_n : tgS [] [] ρ = some ρ := rfl
theorem tgS_c {g : TgF} {gs : List TgF} : tgS (g :: gs) (a :: ls) ρ = (g a ρ).bind fun ρ' => tgS gs ls ρ' := rfl
theorem oIs_n : oIs false a .non = some (.bl a.isN) := by show some (D.bl (false != a.isN)) = _; cases a.isN <;> rfl
theorem oIs_nn : oIs true a .non = some (.bl !a.isN) := by show some (D.bl (true != a.isN)) = _; cases a.isN <;> rfl
theorem oIs_b {p q : Bool} : oIs false (.bl p) (.bl q) = some (.bl (decide (p = q))) := by show some (D.bl (false != decide (p = q))) = _; cases decide (p = q) <;> rfl
theorem oIs_nb {p q : Bool} : oIs true (.bl p) (.bl q) = some (.bl !decide (p = q)) := by show some (D.bl (true != decide (p = q))) = _; cases decide (p = q) <;> rfl
end
def WA := And.intro @pu_w (And.intro @pt_w (And.intro @pf_w (And.intro @po0_w (And.intro @po_w (And.intro @dV_w (And.intro @dFz_w (And.intro @dArgs_n (And.intro @dArgs_c (And.intro @dOp2_w (And.intro @dOpF_w (And.intro @dUn_w (And.intro @dTst_w (And.intro @dNot_w (And.intro @dAnd_w (And.intro @dOr_w (And.intro @dNotV_w (And.intro @dAndV_w (And.intro @dOrV_w (And.intro @dIfE_w (And.intro @dCall_w (And.intro @dCallK_w (And.intro @dCb_w (And.intro @dCbF_w (And.intro @dTup_w (And.intro @dLst_w (And.intro @dVF_w (And.intro @dFrz_w (And.intro @dCaught_w (And.intro @dIt_w (And.intro @dRg_w (And.intro @dRg3_w (And.intro @dEnum_w (And.intro @dZip_w (And.intro @dLRg1_w (And.intro @dLRg2_w (And.intro @dComp_w (And.intro @dComp2_w (And.intro @dSl_w (And.intro @dSlF_w (And.intro @dCh_w (And.intro @dPop_w (And.intro @dPopI_w (And.intro @DNx_w (And.intro @dBlk_n (And.intro @dBlk_c (And.intro @dNx_w (And.intro @dBk_w (And.intro @dCt_w (And.intro @dRet_w (And.intro @dRetN_w (And.intro @dDrop_w (And.intro @dIf_w (And.intro @dAsg_w (And.intro @dSet_w (And.intro @dSetM_w (And.intro @dSetF_w (And.intro @dPar_w (And.intro @dParMM_w (And.intro @dParMV_w (And.intro @dParVM_w (And.intro @dFor_w (And.intro @dFL_n (And.intro @dFL_c (And.intro @dRaise_w (And.intro @dRaise1_w (And.intro @dApp_w (And.intro @dAugV_w (And.intro @dCL_n (And.intro @dYes_w (And.intro @tgN_w (And.intro @PO1_dn (@PO1_da))))))))))))))))))))))))))))))))))))))))))))))))))))))))))))))))))))))))
def WB := And.intro @oe_some (And.intro @oeb_some (And.intro @oei_some (And.intro @ovf_v (And.intro @ovf_m (And.intro @oml_some (And.intro @sd_t (And.intro @wif_t (And.intro @wif_f (And.intro @isb_b (And.intro @isi_i (And.intro @vals_n (And.intro @vals_c (And.intro @derefs_n (And.intro @derefs_c (And.intro @deref_v (And.intro @deref_o (And.intro @p2_w (And.intro @p2F_w (And.intro @p1_w (And.intro @pC_w (And.intro @pCF_w (And.intro @evs_n (And.intro @evs_c (And.intro @pTup_w (And.intro @pNot_w (And.intro @pAnd_w (And.intro @pOr_w (And.intro @pIf_w (And.intro @p3_w (And.intro @pSl_w (And.intro @PO1_n (And.intro @PO1_a (And.intro @oint_i (And.intro @bnot_b (And.intro @band_t (And.intro @band_f (And.intro @band_b (And.intro @bor_t (And.intro @bor_f (And.intro @bor_b (And.intro @bite_t (And.intro @bite_f (And.intro @bite_b (And.intro @rdv_0 (And.intro @rdv_s (And.intro @rd_0 (And.intro @rd_0m (And.intro @rd_s (And.intro @lowF_0 (And.intro @lowF_c (And.intro @lowF_1 (And.intro @fuelOf_c (And.intro @fuelOf_1 (And.intro @startE_0 (And.intro @oAdd_i (And.intro @oSub_i (And.intro @oNeg_i (And.intro @oLt_i (And.intro @oLe_i (And.intro @oGt_i (And.intro @oGe_i (And.intro @oAddI_i (And.intro @oSubI_i (And.intro @ix_0 (And.intro @ix_1 (And.intro @ix_2 (And.intro @ix_3 (And.intro @ixl_0 (And.intro @ixl_1 (And.intro @ixl_2 (And.intro @ixl_3 (And.intro @len_t (And.intro @len_l (And.intro @bAbs_w (And.intro @bMax_2 (And.intro @bMin_2 (And.intro @bTup_l (And.intro @bTup_t (And.intro @bList_l (And.intro @bList_t (And.intro @items_l (And.intro @items_t (And.intro @seq_l (And.intro @seq_t (And.intro @tgT_t (And.intro @tgS_n (And.intro @tgS_c (And.intro @oIs_n (And.intro @oIs_nn (And.intro @oIs_b (@oIs_nb)))))))))))))))))))))))))))))))))))))))))))))))))))))))))))))))))))))))))))))))))))))))))))
def WC := And.intro @Option.bind_some.{0,0} (And.intro @Option.map_some.{0,0} (And.intro @Option.bind_none.{0,0} (And.intro @Option.map_none.{0,0} (And.intro @List.set_cons_zero.{0} (And.intro @List.set_cons_succ.{0} (And.intro @List.getElem?_cons_zero.{0} (And.intro @List.getElem?_cons_succ.{0} (And.intro @List.map_cons.{0,0} (And.intro @List.map_nil.{0,0} (And.intro @List.length_cons.{0} (And.intro @List.length_nil.{0} (And.intro @Nat.sub_sub (And.intro @List.nil_append.{0} (And.intro @List.cons_append.{0} (And.intro @List.append_nil.{0} (And.intro @Bool.not_true (And.intro @Bool.not_false (And.intro @Bool.not_not (And.intro @Bool.and_true (And.intro @Bool.true_and (And.intro @Bool.and_false (And.intro @Bool.false_and (And.intro @Bool.or_true (And.intro @Bool.true_or (And.intro @Bool.or_false (And.intro @Bool.false_or (And.intro @decide_true (And.intro @decide_false (And.intro @ite_true.{1} (And.intro @ite_false.{1} (And.intro @List.getElem?_nil.{0} (And.intro @Bool.true_eq_false (@Bool.false_eq_true)))))))))))))))))))))))))))))))))
def WD := And.intro @sd_ok (And.intro @oMul_b (And.intro @oDiv_b (And.intro @oPow_b (@oMod_i))))
theorem blk_w {d : DS} {ds : List DS} {ρ : Env} {nx : Env → Prop} {rt : D → Prop} {bk ct : Env → Prop} {ex : Nat → List D → Prop} (M : Env → Prop) (h2 : ∀ K : Env → Prop, (∀ ρ', M ρ' → K ρ') → d ρ ⟨K, rt, bk, ct, ex⟩) (h : ∀ ρ', M ρ' → dBlk ds ρ' ⟨nx, rt, bk, ct, ex⟩) : dBlk (d :: ds) ρ ⟨nx, rt, bk, ct, ex⟩ := h2 _ h
end DL

/-! DM: what may be compared by _law_is; words for promises. -/
namespace DL
open PySem PySem.Spec PyProof.Rows L2
mutual
/-- plain, no texts, small numbers -/
def D.bd : D → Bool
  | .non => true
  | .bl _ => true
  | .int i => decide (i.natAbs < 2 ^ 200)
  | .tup ds => D.bds ds
  | .lst ds => D.bds ds
  | _ => false
def D.bds : List D → Bool
  | [] => true
  | d :: ds => D.bd d && D.bds ds
end
mutual
def D.ws : D → Nat
  | .tup ds => D.wss ds + 3
  | .lst ds => D.wss ds + 3
  | _ => 202
def D.wss : List D → Nat
  | [] => 0
  | d :: ds => D.ws d + D.wss ds + 2
end
theorem shown_iL {i : Int} (h : i.natAbs.log2 < 200) : (PyData.shown (.int i)).length ≤ 201 ∧ PyData.showable (.int i) = true := by
  constructor
  · unfold PyData.shown
    rw [PySem.ofString_length]
    exact PySem.int_text_length_le (k := 200) (by decide) h
  · unfold PyData.showable
    exact decide_eq_true (by omega)
mutual
theorem bd_pl : ∀ d : D, d.bd = true → d.pl = true
  | .non, _ | .bl _, _ | .int _, _ => by unfold D.pl; rfl
  | .tup ds, h | .lst ds, h => by unfold D.bd at h; unfold D.pl; exact bds_pls ds h
theorem bds_pls : ∀ ds : List D, D.bds ds = true → D.pls ds = true
  | [], _ => by unfold D.pls; rfl
  | d :: ds, h => by
    unfold D.bds at h
    rw [Bool.and_eq_true] at h
    unfold D.pls
    rw [bd_pl d h.1, bds_pls ds h.2]; rfl
end
mutual
theorem bd_show : ∀ d : D, d.bd = true → d.py.showable = true ∧ d.py.shown.length ≤ d.ws
  | .non, _ => by unfold D.py D.ws; exact ⟨rfl, by decide⟩
  | .bl true, _ => by unfold D.py D.ws; exact ⟨rfl, by decide⟩
  | .bl false, _ => by unfold D.py D.ws; exact ⟨rfl, by decide⟩
  | .int i, h => by
    unfold D.bd at h
    have := shown_iL (log2_lt (of_decide_eq_true h) (by decide))
    unfold D.py D.ws
    exact ⟨this.2, by omega⟩
  | .tup ds, h => by
    unfold D.bd at h
    obtain ⟨h1, h2, h3⟩ := bds_show ds h
    unfold D.py D.ws
    refine ⟨by unfold PyData.showable; exact h1, ?_⟩
    unfold PyData.shown
    refine Nat.le_trans (tupleText_len_le _) ?_
    omega
  | .lst ds, h => by
    unfold D.bd at h
    obtain ⟨h1, h2, h3⟩ := bds_show ds h
    unfold D.py D.ws
    refine ⟨by unfold PyData.showable; exact h1, ?_⟩
    unfold PyData.shown
    refine Nat.le_trans (listText_len_le _) ?_
    omega
theorem bds_show : ∀ ds : List D, D.bds ds = true → PyData.showableAll (D.pys ds) = true ∧ ((PyData.shownAll (D.pys ds)).map (·.length)).sum + 2 * (PyData.shownAll (D.pys ds)).length ≤ D.wss ds ∧ (PyData.shownAll (D.pys ds)).length = ds.length
  | [], _ => by unfold D.pys D.wss; exact ⟨rfl, Nat.le_refl 0, rfl⟩
  | d :: ds, h => by
    unfold D.bds at h
    rw [Bool.and_eq_true] at h
    obtain ⟨h1, h2⟩ := bd_show d h.1
    obtain ⟨h3, h4, h5⟩ := bds_show ds h.2
    unfold D.pys D.wss
    refine ⟨?_, ?_, ?_⟩
    · show (PyData.showable d.py && PyData.showableAll (D.pys ds)) = true
      rw [h1, h3]; rfl
    · show d.py.shown.length + ((PyData.shownAll (D.pys ds)).map (·.length)).sum + 2 * ((PyData.shownAll (D.pys ds)).length + 1) ≤ _
      omega
    · show (PyData.shownAll (D.pys ds)).length + 1 = _
      rw [h5]; rfl
end
/-- what _law_is may be asked about -/
def isG (a : D) : Prop := a.ok = true ∧ a.dep < 9 ∧ rpOk a = true
theorem isG_of {d : D} (h1 : d.bd = true) (h2 : d.dep < 9) (h3 : d.ws ≤ 16777216) : isG d := by
  have ok : d.ok = true := by
    unfold D.ok
    rw [bd_pl d h1, Bool.true_and]
    exact decide_eq_true (by omega)
  obtain ⟨h4, h5⟩ := bd_show d h1
  refine ⟨ok, h2, ?_⟩
  unfold rpOk
  rw [ok, h4, Bool.true_and, Bool.true_and]
  exact decide_eq_true (by rw [sizeLine_eq]; omega)
theorem bd_i {i : Int} (h : -(2 ^ 200) < i) (h2 : i < 2 ^ 200) : (D.int i).bd = true := by
  unfold D.bd
  exact decide_eq_true (by omega)
theorem bds_n : D.bds [] = true := by unfold D.bds; rfl
theorem bds_c {d : D} {ds : List D} (h : d.bd = true) (h2 : D.bds ds = true) : D.bds (d :: ds) = true := by unfold D.bds; rw [h, h2]; rfl
theorem bds_all {ds : List D} (h : ∀ d ∈ ds, d.bd = true) : D.bds ds = true := by
  induction ds with
  | nil => exact bds_n
  | cons d ds ih => exact bds_c (h d List.mem_cons_self) (ih fun x hx => h x (List.mem_cons_of_mem _ hx))
theorem bd_t {ds : List D} (h : D.bds ds = true) : (D.tup ds).bd = true := by unfold D.bd; exact h
theorem bd_l {ds : List D} (h : D.bds ds = true) : (D.lst ds).bd = true := by unfold D.bd; exact h
theorem wss_all {ds : List D} {k : Nat} (h : ∀ d ∈ ds, d.ws ≤ k) : D.wss ds ≤ (k + 2) * ds.length := by
  induction ds with
  | nil => unfold D.wss; exact Nat.zero_le _
  | cons d ds ih =>
    have h1 := h d List.mem_cons_self
    have h2 := ih fun x hx => h x (List.mem_cons_of_mem _ hx)
    unfold D.wss
    rw [List.length_cons, Nat.mul_succ]
    omega
theorem wss_c {d : D} {ds : List D} : D.wss (d :: ds) = D.ws d + D.wss ds + 2 := by rw [D.wss]
theorem wss_n : D.wss [] = 0 := by rw [D.wss]
theorem ws_t {ds : List D} : (D.tup ds).ws = D.wss ds + 3 := by rw [D.ws]
theorem ws_l {ds : List D} : (D.lst ds).ws = D.wss ds + 3 := by rw [D.ws]
theorem ws_i {i : Int} : (D.int i).ws = 202 := by unfold D.ws; rfl
theorem dep_i {i : Int} : (D.int i).dep = 0 := by unfold D.dep; rfl
theorem dep_t {ds : List D} : (D.tup ds).dep = D.deps ds + 1 := by rw [D.dep]
theorem dep_l {ds : List D} : (D.lst ds).dep = D.deps ds + 1 := by rw [D.dep]
theorem deps_c {d : D} {ds : List D} : D.deps (d :: ds) = max d.dep (D.deps ds) := by rw [D.deps]
theorem deps_n : D.deps [] = 0 := by rw [D.deps]
/-- as _law_is says -/
def sameD (a b : D) : Bool := PyData.eqv a.py b.py && (PyData.eqv b.py a.py && decide (a.py.shown = b.py.shown))
mutual
theorem eqv_py : ∀ d : D, PyData.eqv d.py d.py = true
  | .non | .dct _ | .exc _ _ | .st | .scr _ => by unfold D.py PyData.eqv; rfl
  | .bl b => by unfold D.py PyData.eqv; cases b <;> rfl
  | .int i => by unfold D.py; rw [eqv_i]; exact decide_eq_true rfl
  | .str x => by unfold D.py PyData.eqv; exact beq_self_eq_true x
  | .tup ds => by unfold D.py PyData.eqv; exact eqv_pys ds
  | .lst ds => by unfold D.py PyData.eqv; exact eqv_pys ds
theorem eqv_pys : ∀ ds : List D, PyData.eqvAll (D.pys ds) (D.pys ds) = true
  | [] => by unfold D.pys PyData.eqvAll; rfl
  | d :: ds => by unfold D.pys PyData.eqvAll; rw [eqv_py d, eqv_pys ds]; rfl
end
theorem same_self (a : D) : sameD a a = true := by
  unfold sameD
  rw [eqv_py a]
  simp
/-! words of promises -/
def anyI (room : Int) (k : D → Prop) : Prop := ∀ n : Int, 0 ≤ n → n < room → k (.int n)
def alls (xs : List D) (k : D → Prop) : Prop := ∀ x ∈ xs, k x
theorem alls_n {k : D → Prop} : alls [] k := fun _ h => nomatch h
theorem alls_c {x : D} {xs : List D} {k : D → Prop} (h : k x) (t : alls xs k) : alls (x :: xs) k := fun y hy => by
  cases hy with
  | head => exact h
  | tail _ hy => exact t y hy
/-- for each that satisfies something -/
def fora {α : Type} (p : α → Prop) (k : α → Prop) : Prop := ∀ x, p x → k x
def spP : Nat → DSp
  | 0 => fun _ _ _ => False
  | n + 1 => fun ds Q _ => ∃ d, ds = [d] ∧ d.pl = true ∧ d.dep < n + 1 ∧ Q (.bl true)
theorem spP_w {n : Nat} {d : D} {Q : D → Prop} {X : Nat → List D → Prop} : spP (n + 1) [d] Q X = sd (d.pl = true ∧ d.dep < n + 1) (Q (.bl true)) :=
  propext ⟨fun ⟨_, e, h1, h2, h3⟩ => by cases e; exact ⟨⟨h1, h2⟩, h3⟩, fun ⟨h1, h2⟩ => ⟨d, rfl, h1.1, h1.2, h2⟩⟩
def spMixed : DSp := fun ds Q _ => ds = [.st] ∧ ∀ n : Int, 0 ≤ n → Q (.int n)
theorem spMixed_w {Q : D → Prop} {X : Nat → List D → Prop} : spMixed [.st] Q X = ∀ n : Int, 0 ≤ n → Q (.int n) := propext ⟨fun h => h.2, fun h => ⟨rfl, h⟩⟩
def spDraw : DSp := fun ds Q _ => match ds with
  | [.st, .int room] => sd (0 < room ∧ room < 2 ^ 200) (anyI room Q)
  | _ => False
theorem spDraw_w {room : Int} {Q : D → Prop} {X : Nat → List D → Prop} : spDraw [.st, .int room] Q X = sd (0 < room ∧ room < 2 ^ 200) (anyI room Q) := rfl
def spPick : DSp := fun ds Q _ => match ds with
  | [.st, s] => oe (seqOf s) fun xs => sd (0 < xs.length ∧ xs.length ≤ 2 ^ 24) (alls xs Q)
  | _ => False
theorem spPick_w {s : D} {Q : D → Prop} {X : Nat → List D → Prop} : spPick [.st, s] Q X = oe (seqOf s) fun xs => sd (0 < xs.length ∧ xs.length ≤ 2 ^ 24) (alls xs Q) := rfl
def spIs : DSp := fun ds Q _ => match ds with
  | [a, b] => sd (isG a ∧ isG b) (Q (.bl (sameD a b)))
  | _ => False
theorem spIs_w {a b : D} {Q : D → Prop} {X : Nat → List D → Prop} : spIs [a, b] Q X = sd (isG a ∧ isG b) (Q (.bl (sameD a b))) := rfl
def spGcd : DSp := fun ds Q _ => match ds with
  | [.int a, .int b] => sd (0 ≤ a ∧ 0 ≤ b) (Q (.int (Int.gcd a b)))
  | _ => False
theorem spGcd_w {a b : Int} {Q : D → Prop} {X : Nat → List D → Prop} : spGcd [.int a, .int b] Q X = sd (0 ≤ a ∧ 0 ≤ b) (Q (.int (Int.gcd a b))) := rfl
def spShuf : DSp := fun ds Q _ => match ds with
  | [.st, s] => oe (seqOf s) fun xs => sd (xs.length ≤ 300 ∧ ∀ d ∈ xs, d.pl = true ∧ d.dep ≤ 60) (fora (fun ys : List D => ys.Perm xs) fun ys => Q (.lst ys))
  | _ => False
theorem spShuf_w {s : D} {Q : D → Prop} {X : Nat → List D → Prop} : spShuf [.st, s] Q X = oe (seqOf s) fun xs => sd (xs.length ≤ 300 ∧ ∀ d ∈ xs, d.pl = true ∧ d.dep ≤ 60) (fora (fun ys : List D => ys.Perm xs) fun ys => Q (.lst ys)) := rfl
/-- a state's number -/
theorem dStG_w {d : DE} {ρ : Env} {P : D → Env → Prop} {X : DX} : dStG d ρ P X = d ρ (fun r ρ' => sd (r = .st) (∀ n : Int, 0 ≤ n → P (.int n) ρ')) X := rfl
theorem pls_mem : ∀ {ds : List D}, D.pls ds = true → ∀ d ∈ ds, d.pl = true
  | d :: ds, h, x, hx => by
    unfold D.pls at h
    simp only [Bool.and_eq_true] at h
    cases hx with
    | head => exact h.1
    | tail _ hx => exact pls_mem h.2 x hx
theorem deps_mem : ∀ {ds : List D} {n : Nat}, D.deps ds < n → ∀ d ∈ ds, d.dep < n
  | d :: ds, n, h, x, hx => by
    unfold D.deps at h
    cases hx with
    | head => omega
    | tail _ hx => exact deps_mem (by omega) x hx
theorem pls_all {ds : List D} (h : ∀ d ∈ ds, d.pl = true) : D.pls ds = true := by
  induction ds with
  | nil => rfl
  | cons d ds ih =>
    unfold D.pls
    rw [h d List.mem_cons_self, ih fun x hx => h x (List.mem_cons_of_mem _ hx)]; rfl
theorem deps_all {ds : List D} {n : Nat} (h : ∀ d ∈ ds, d.dep ≤ n) : D.deps ds ≤ n := by
  induction ds with
  | nil => exact Nat.zero_le _
  | cons d ds ih =>
    unfold D.deps
    exact Nat.max_le.mpr ⟨h d List.mem_cons_self, ih fun x hx => h x (List.mem_cons_of_mem _ hx)⟩
theorem ok_lst {ds : List D} (h : ∀ d ∈ ds, d.pl = true ∧ d.dep ≤ 60) : (D.lst ds).ok = true := by
  unfold D.ok D.pl D.dep
  rw [pls_all fun d hd => (h d hd).1]
  have := deps_all fun d hd => (h d hd).2
  simp
  omega
theorem oNe_nil {ds : List D} (h : ∀ d ∈ ds, d.pl = true ∧ d.dep ≤ 60) : oNe (.lst ds) (.lst []) = some (.bl (!ds.isEmpty)) := by
  unfold oNe
  rw [if_pos ⟨ok_lst h, rfl⟩]
  cases ds with
  | nil => rfl
  | cons d ds => 
    unfold D.py D.pys PyData.eqv PyData.eqvAll
    rfl
theorem erase_perm : ∀ {l : List D} {j : Nat} (h : j < l.length), (l[j] :: l.eraseIdx j).Perm l
  | x :: l, 0, h => .refl _
  | x :: l, j + 1, h => (List.Perm.swap x (l[j]'(Nat.lt_of_succ_lt_succ h)) (l.eraseIdx j)).trans ((erase_perm (l := l) (j := j) (Nat.lt_of_succ_lt_succ h)).cons x)
theorem seq_list {s : D} {ds : List D} (e : seqOf s = some ds) : bList [s] = some ds := by
  cases s <;> first | (cases e; rfl) | cases e
theorem dStSR_w {dv d : DE} {ρ : Env} {N : DN} : dStSR dv d ρ N = dv ρ (fun y ρ1 => isi y fun n => sd (0 ≤ n) (d ρ1 (fun r ρ2 => sd (r = .st) (N.nx ρ2)) N.x)) N.x := by
  unfold dStSR
  congr 1; funext y ρ1
  exact propext ⟨fun ⟨⟨n, e, h⟩, p⟩ => ⟨n, e, h, p⟩, fun ⟨n, e, h, p⟩ => ⟨⟨n, e, h⟩, p⟩⟩
theorem dStP_w {i : Nat} {dm : DE} {ρ : Env} {P : D → Env → Prop} {X : DX} : dStP i dm ρ P X = sd (rdv i ρ = some .st) ((∀ n : Int, 0 ≤ n → P (.int n) ρ) ∧ dm ρ P X) := rfl
theorem st_eq : (D.st = D.st) = True := eq_self _
theorem st_eqo : (some D.st = some D.st) = True := eq_self _
def pkl {α : Type} : Option α → List α → List α
  | some x, l => x :: l
  | none, l => l
theorem pickL_n {α : Type} {xs : List α} : pickL [] xs = [] := rfl
theorem pickL_c {α : Type} {j : Nat} {js : List Nat} {xs : List α} : pickL (j :: js) xs = pkl xs[j]? (pickL js xs) := by
  show (match xs[j]? with
    | some x => x :: pickL js xs
    | none => pickL js xs) = _
  cases xs[j]? <;> rfl
theorem pkl_s {α : Type} {x : α} {l : List α} : pkl (some x) l = x :: l := rfl
theorem pkl_n {α : Type} {l : List α} : pkl none l = l := rfl
theorem oNe_G {a : D} (h : isG a) : oNe a a = some (.bl false) := by
  show (if _ then _ else _) = _
  rw [if_pos ⟨h.1, h.1⟩, eqv_py]; rfl
theorem oEq_G {a : D} (h : isG a) : oEq a a = some (.bl true) := by
  show (if _ then _ else _) = _
  rw [if_pos ⟨h.1, h.1⟩, eqv_py]
theorem and_tt {p : Prop} : (p ∧ True) = p := and_true p
theorem tt_and {p : Prop} : (True ∧ p) = p := true_and p
theorem tt_imp {p : Prop} : (True → p) = p := propext ⟨fun h => h trivial, fun h _ => h⟩
theorem inB_i {i : Int} (h : -(2 ^ 62) ≤ i) (h2 : i < 2 ^ 62) : inB i = true := by
  unfold inB
  rw [decide_eq_true h, decide_eq_true h2]; rfl
theorem rng_w1 {j : Int} (h : -(2 ^ 62) ≤ j) (h2 : j ≤ 16777216) : rngOf [.int j] = some (rng 0 j.toNat) := by
  show (if _ then _ else _) = _
  rw [inB_i h (by omega), decide_eq_true (show j.toNat ≤ sizeLine by rw [sizeLine_eq]; omega)]; rfl
theorem rng_w2 {i j : Int} (h : -(2 ^ 62) ≤ i) (h' : i < 2 ^ 62) (h1 : -(2 ^ 62) ≤ j) (h1' : j < 2 ^ 62) (h2 : j - i ≤ 16777216) : rngOf [.int i, .int j] = some (rng i (j - i).toNat) := by
  show (if _ then _ else _) = _
  rw [inB_i h h', inB_i h1 h1', decide_eq_true (show (j - i).toNat ≤ sizeLine by rw [sizeLine_eq]; omega)]; rfl
theorem rng_at {a : Int} {n i : Nat} {y : D} (h : (rng a n)[i]? = some y) : y = .int (a + i) ∧ i < n := by
  have hl : i < n := by
    have := (List.getElem?_eq_some_iff.mp h).1
    rw [rng_len] at this
    exact this
  rw [rng_get hl] at h
  cases h
  exact ⟨rfl, hl⟩
theorem rng_mem {a : Int} {n : Nat} {y : D} (h : y ∈ rng a n) : ∃ i : Nat, y = .int (a + i) ∧ i < n := by
  obtain ⟨i, hi⟩ := List.getElem?_of_mem h
  exact ⟨i, rng_at hi⟩
section
variable {i : Int} {t : Bool} {z : Str} {ds : List D}
theorem io_int_int : oIsT "int" (.int i) = some (.bl true) := rfl
theorem io_int_bool : oIsT "bool" (.int i) = some (.bl false) := rfl
theorem io_int_str : oIsT "str" (.int i) = some (.bl false) := rfl
theorem io_int_tuple : oIsT "tuple" (.int i) = some (.bl false) := rfl
theorem io_int_list : oIsT "list" (.int i) = some (.bl false) := rfl
theorem io_int_dict : oIsT "dict" (.int i) = some (.bl false) := rfl
theorem ios_int : oIsTs ["list", "tuple"] (.int i) = some (.bl false) := rfl
theorem io_bool_int : oIsT "int" (.bl t) = some (.bl true) := rfl
theorem io_bool_bool : oIsT "bool" (.bl t) = some (.bl true) := rfl
theorem io_bool_str : oIsT "str" (.bl t) = some (.bl false) := rfl
theorem io_bool_tuple : oIsT "tuple" (.bl t) = some (.bl false) := rfl
theorem io_bool_list : oIsT "list" (.bl t) = some (.bl false) := rfl
theorem io_bool_dict : oIsT "dict" (.bl t) = some (.bl false) := rfl
theorem ios_bool : oIsTs ["list", "tuple"] (.bl t) = some (.bl false) := rfl
theorem io_str_int : oIsT "int" (.str z) = some (.bl false) := rfl
theorem io_str_bool : oIsT "bool" (.str z) = some (.bl false) := rfl
theorem io_str_str : oIsT "str" (.str z) = some (.bl true) := rfl
theorem io_str_tuple : oIsT "tuple" (.str z) = some (.bl false) := rfl
theorem io_str_list : oIsT "list" (.str z) = some (.bl false) := rfl
theorem io_str_dict : oIsT "dict" (.str z) = some (.bl false) := rfl
theorem ios_str : oIsTs ["list", "tuple"] (.str z) = some (.bl false) := rfl
theorem io_tuple_int : oIsT "int" (.tup ds) = some (.bl false) := rfl
theorem io_tuple_bool : oIsT "bool" (.tup ds) = some (.bl false) := rfl
theorem io_tuple_str : oIsT "str" (.tup ds) = some (.bl false) := rfl
theorem io_tuple_tuple : oIsT "tuple" (.tup ds) = some (.bl true) := rfl
theorem io_tuple_list : oIsT "list" (.tup ds) = some (.bl false) := rfl
theorem io_tuple_dict : oIsT "dict" (.tup ds) = some (.bl false) := rfl
theorem ios_tuple : oIsTs ["list", "tuple"] (.tup ds) = some (.bl true) := rfl
theorem io_list_int : oIsT "int" (.lst ds) = some (.bl false) := rfl
theorem io_list_bool : oIsT "bool" (.lst ds) = some (.bl false) := rfl
theorem io_list_str : oIsT "str" (.lst ds) = some (.bl false) := rfl
theorem io_list_tuple : oIsT "tuple" (.lst ds) = some (.bl false) := rfl
theorem io_list_list : oIsT "list" (.lst ds) = some (.bl true) := rfl
theorem io_list_dict : oIsT "dict" (.lst ds) = some (.bl false) := rfl
theorem ios_list : oIsTs ["list", "tuple"] (.lst ds) = some (.bl true) := rfl
theorem io_NoneType_int : oIsT "int" .non = some (.bl false) := rfl
theorem io_NoneType_bool : oIsT "bool" .non = some (.bl false) := rfl
theorem io_NoneType_str : oIsT "str" .non = some (.bl false) := rfl
theorem io_NoneType_tuple : oIsT "tuple" .non = some (.bl false) := rfl
theorem io_NoneType_list : oIsT "list" .non = some (.bl false) := rfl
theorem io_NoneType_dict : oIsT "dict" .non = some (.bl false) := rfl
theorem ios_NoneType : oIsTs ["list", "tuple"] .non = some (.bl false) := rfl
theorem isN_int : D.isN (.int i) = false := rfl
theorem isN_bool : D.isN (.bl t) = false := rfl
theorem isN_str : D.isN (.str z) = false := rfl
theorem isN_tuple : D.isN (.tup ds) = false := rfl
theorem isN_list : D.isN (.lst ds) = false := rfl
theorem isN_NoneType : D.isN .non = true := rfl
end
def WTY := And.intro @io_int_int (And.intro @io_int_bool (And.intro @io_int_str (And.intro @io_int_tuple (And.intro @io_int_list (And.intro @io_int_dict (And.intro @ios_int (And.intro @io_bool_int (And.intro @io_bool_bool (And.intro @io_bool_str (And.intro @io_bool_tuple (And.intro @io_bool_list (And.intro @io_bool_dict (And.intro @ios_bool (And.intro @io_str_int (And.intro @io_str_bool (And.intro @io_str_str (And.intro @io_str_tuple (And.intro @io_str_list (And.intro @io_str_dict (And.intro @ios_str (And.intro @io_tuple_int (And.intro @io_tuple_bool (And.intro @io_tuple_str (And.intro @io_tuple_tuple (And.intro @io_tuple_list (And.intro @io_tuple_dict (And.intro @ios_tuple (And.intro @io_list_int (And.intro @io_list_bool (And.intro @io_list_str (And.intro @io_list_tuple (And.intro @io_list_list (And.intro @io_list_dict (And.intro @ios_list (And.intro @io_NoneType_int (And.intro @io_NoneType_bool (And.intro @io_NoneType_str (And.intro @io_NoneType_tuple (And.intro @io_NoneType_list (And.intro @io_NoneType_dict (And.intro @ios_NoneType (And.intro @isN_int (And.intro @isN_bool (And.intro @isN_str (And.intro @isN_tuple (And.intro @isN_list (@isN_NoneType)))))))))))))))))))))))))))))))))))))))))))))))
theorem dCL_c {vs : List Nat} {g : TgF} {tt : DT} {te : DE} {x : D} {xs acc : List D} {ρ : Env} {P : List D → Env → Prop} : dCL vs g tt te (x :: xs) acc ρ P = oe (g x ρ) fun ρ2 => tt ρ2 (fun b ρ3 => wif b (te ρ3 (fun y ρ4 => dCL vs g tt te xs (acc ++ [y]) (wipeE vs ρ4) P) (fun _ _ _ => False)) (dCL vs g tt te xs acc (wipeE vs ρ3) P)) (fun _ _ _ => False) := rfl
theorem wipeE_n {ρ : Env} : wipeE [] ρ = ρ := rfl
theorem wipeE_c {v : Nat} {vs : List Nat} {ρ : Env} : wipeE (v :: vs) ρ = (wipeE vs ρ).set v .un := rfl
theorem restE_w {vs : List Nat} {ρ ρ' : Env} : restE vs ρ ρ' = restA vs 0 ρ ρ' := rfl
theorem restA_c {vs : List Nat} {k : Nat} {a b : SV} {as bs : Env} : restA vs k (a :: as) (b :: bs) = (if vs.contains k = true then a else b) :: restA vs (k + 1) as bs := rfl
theorem restA_n {vs : List Nat} {k : Nat} : restA vs k [] [] = [] := rfl
theorem oIsI_w {f : D → Option Bool} {d : D} : oIsI f d = (f d).map .bl := rfl
theorem ff_imp {p : Prop} : (False → p) = True := propext ⟨fun _ => trivial, fun _ h => h.elim⟩
theorem bl_ff : (false = true) = False := propext ⟨fun h => (Bool.false_ne_true h).elim, fun h => h.elim⟩
theorem bl_tt : (true = true) = True := propext ⟨fun _ => trivial, fun _ => rfl⟩
theorem oNe_ll : oNe (.lst []) (.lst []) = some (.bl false) := rfl
theorem oEq_ll : oEq (.lst []) (.lst []) = some (.bl true) := rfl
def WRE := And.intro @ff_imp (And.intro bl_ff (And.intro bl_tt (And.intro oNe_ll (  And.intro oEq_ll (And.intro @wipeE_n (And.intro @wipeE_c (And.intro @restE_w (And.intro @restA_c (And.intro @restA_n (And.intro @oIsI_w (And.intro @List.contains_cons.{0} @List.contains_nil.{0})))))))))))
def WEE := And.intro @pickL_n (And.intro @pickL_c (And.intro @pkl_s (And.intro @pkl_n (And.intro @and_tt (And.intro @tt_and (And.intro @tt_imp (And.intro @same_self (And.intro @oNe_G (And.intro @oEq_G (And.intro @rng_w1 @rng_w2))))))))))
theorem anyI_w {room : Int} {k : D → Prop} : anyI room k = ∀ n : Int, 0 ≤ n → n < room → k (.int n) := rfl
def WM := And.intro @anyI_w (And.intro @dStG_w (And.intro @dStSR_w (And.intro @dStP_w (And.intro @spMixed_w (And.intro @bInt_i (And.intro @oEq_i (And.intro @oNe_i (And.intro @st_eq @st_eqo))))))))
end DL

/-! DM: max, min of tuples. -/
namespace DL
open PySem PySem.Spec PyProof.Rows L2
theorem max_intTup {prog : Program} {w : World} {A : Around} {E : Value → Shared → Prop} {s : Shared} {l : Addr} {xs : Array (Int × Tok)} {Q : Value → Shared → Prop} (hh : A.handled = none) (ht : s.heap.IsTuple l (intItems xs)) (hne : 0 < xs.size)
    (h : ∀ v h' tk, (intItems xs)[argBest (fun i j => decide (numAt xs i > numAt xs j)) (xs.size - 1)]? = some v → (∀ b o, s.heap.get? b = some o → h'.get? b = some o) → Q v { s with heap := h', toks := tk }) :
    wpAny (model prog w) A (call (.builtin "max") [.ref l]) Q E s := by
  have hlt : l < s.heap.objs.size := by obtain ⟨_, e, _⟩ := ht; exact Heap.lt_size e
  refine call_max_walk (wpAny_pyIter_tuple ht ?_)
  refine ⟨_, [_, l], [_], _, _, _, _, rfl, Walks.tuple (A := A.in1) hh _ l (Nat.ne_of_lt hlt) (intItems xs), ⟨⟨_, Heap.get?_push_size _ rfl, rfl, rfl⟩, ht.push _⟩, fun c hc => ?_, by simpa [intItems] using hne, CmpOf.ints_gt (numAt xs) (fun _ _ => intItems_at), fun v h' tk hP hk => ?_⟩
  · show c < (s.heap.push _).objs.size
    rw [Heap.size_push]
    rcases List.mem_cons.mp hc with rfl | hc
    · exact Nat.lt_succ_self _
    · rcases List.mem_cons.mp hc with rfl | hc
      · exact Nat.lt_succ_of_lt hlt
      · cases hc
  · refine h v h' tk (by simpa [intItems] using hP) fun c o e => hk c o (fun hm => ?_) (Heap.get?_push_of_some _ e)
    rcases List.mem_cons.mp hm with e1 | hm
    · have := Heap.lt_size e; rw [e1] at this; exact Nat.lt_irrefl _ this
    · cases hm
theorem min_intTup {prog : Program} {w : World} {A : Around} {E : Value → Shared → Prop} {s : Shared} {l : Addr} {xs : Array (Int × Tok)} {Q : Value → Shared → Prop} (hh : A.handled = none) (ht : s.heap.IsTuple l (intItems xs)) (hne : 0 < xs.size)
    (h : ∀ v h' tk, (intItems xs)[argBest (fun i j => decide (numAt xs i < numAt xs j)) (xs.size - 1)]? = some v → (∀ b o, s.heap.get? b = some o → h'.get? b = some o) → Q v { s with heap := h', toks := tk }) :
    wpAny (model prog w) A (call (.builtin "min") [.ref l]) Q E s := by
  have hlt : l < s.heap.objs.size := by obtain ⟨_, e, _⟩ := ht; exact Heap.lt_size e
  refine call_min_walk (wpAny_pyIter_tuple ht ?_)
  refine ⟨_, [_, l], [_], _, _, _, _, rfl, Walks.tuple (A := A.in1) hh _ l (Nat.ne_of_lt hlt) (intItems xs), ⟨⟨_, Heap.get?_push_size _ rfl, rfl, rfl⟩, ht.push _⟩, fun c hc => ?_, by simpa [intItems] using hne, CmpOf.ints_lt (numAt xs) (fun _ _ => intItems_at), fun v h' tk hP hk => ?_⟩
  · show c < (s.heap.push _).objs.size
    rw [Heap.size_push]
    rcases List.mem_cons.mp hc with rfl | hc
    · exact Nat.lt_succ_self _
    · rcases List.mem_cons.mp hc with rfl | hc
      · exact Nat.lt_succ_of_lt hlt
      · cases hc
  · refine h v h' tk (by simpa [intItems] using hP) fun c o e => hk c o (fun hm => ?_) (Heap.get?_push_of_some _ e)
    rcases List.mem_cons.mp hm with e1 | hm
    · have := Heap.lt_size e; rw [e1] at this; exact Nat.lt_irrefl _ this
    · cases hm
theorem max_rawT {prog : Program} {w : World} {A : Around} {E : Value → Shared → Prop} {s : Shared} {l : Addr} {its : List Value} {ns : List Int} {Q : Value → Shared → Prop} (hh : A.handled = none) (hl : s.heap.IsTuple l its.toArray) (hi : IntsAre its ns) (hne : 0 < ns.length)
    (h : ∀ h' tk M t', (∀ b o, s.heap.get? b = some o → h'.get? b = some o) → M ∈ ns → (∀ a, a ∈ ns → a ≤ M) → Q (.int M t') { s with heap := h', toks := tk }) : wpAny (model prog w) A (call (.builtin "max") [.ref l]) Q E s := by
  obtain ⟨xs, e⟩ := hi.allInts.items
  have hn : numsOf (intItems xs).toList = ns := by rw [← e]; exact hi.numsOf
  rw [nums_intItems] at hn
  subst hn
  rw [e] at hl
  have hsz : 0 < xs.size := by simpa using hne
  refine max_intTup hh hl hsz fun v h' tk hv hk => ?_
  obtain ⟨t, rfl⟩ := intItems_at hv
  obtain ⟨h1, h2⟩ := argBest_gt (numAt xs) (xs.size - 1)
  refine h h' tk _ t hk ?_ fun a ha => ?_
  · rw [numAt_eq]; exact PySem.getD_mem (by rw [List.length_map, Array.length_toList]; omega)
  · obtain ⟨j, hj, rfl⟩ := mem_getD ha
    rw [List.length_map, Array.length_toList] at hj
    rw [← numAt_eq]; exact h2 j (by omega)
theorem min_rawT {prog : Program} {w : World} {A : Around} {E : Value → Shared → Prop} {s : Shared} {l : Addr} {its : List Value} {ns : List Int} {Q : Value → Shared → Prop} (hh : A.handled = none) (hl : s.heap.IsTuple l its.toArray) (hi : IntsAre its ns) (hne : 0 < ns.length)
    (h : ∀ h' tk M t', (∀ b o, s.heap.get? b = some o → h'.get? b = some o) → M ∈ ns → (∀ a, a ∈ ns → M ≤ a) → Q (.int M t') { s with heap := h', toks := tk }) : wpAny (model prog w) A (call (.builtin "min") [.ref l]) Q E s := by
  obtain ⟨xs, e⟩ := hi.allInts.items
  have hn : numsOf (intItems xs).toList = ns := by rw [← e]; exact hi.numsOf
  rw [nums_intItems] at hn
  subst hn
  rw [e] at hl
  have hsz : 0 < xs.size := by simpa using hne
  refine min_intTup hh hl hsz fun v h' tk hv hk => ?_
  obtain ⟨t, rfl⟩ := intItems_at hv
  obtain ⟨h1, h2⟩ := argBest_lt (numAt xs) (xs.size - 1)
  refine h h' tk _ t hk ?_ fun a ha => ?_
  · rw [numAt_eq]; exact PySem.getD_mem (by rw [List.length_map, Array.length_toList]; omega)
  · obtain ⟨j, hj, rfl⟩ := mem_getD ha
    rw [List.length_map, Array.length_toList] at hj
    rw [← numAt_eq]; exact h2 j (by omega)
def rMaxT (K : PySem.W.Frag) : List V → Hp → VK → Prop := fun vs H Q => rMaxA K vs H Q ∨ ∃ (a : Addr) (ns : List Int), vs = [V.ref a] ∧ SqT K H a (ns.map V.int) ∧ 0 < ns.length ∧ ∀ m, m ∈ ns → (∀ y, y ∈ ns → y ≤ m) → Q (.int m) H
def rMinT (K : PySem.W.Frag) : List V → Hp → VK → Prop := fun vs H Q => rMinA K vs H Q ∨ ∃ (a : Addr) (ns : List Int), vs = [V.ref a] ∧ SqT K H a (ns.map V.int) ∧ 0 < ns.length ∧ ∀ m, m ∈ ns → (∀ y, y ∈ ns → m ≤ y) → Q (.int m) H
theorem cr_maxT {X : Cx} (hc : X.calm = true) : CallR X (.builtin "max") (rMaxT X.K) := CallR.or (cr_maxA hc) (by
  intro pins s σ H vs us Q I r h
  obtain ⟨a, ns, rfl, hs, hne, q⟩ := h
  obtain ⟨its, rv, hl, _⟩ := I.tuple hs
  rw [Vals.ref1 r]
  exact max_rawT (I.ok.hd hc) hl rv.ints hne fun h' tk m t' hk h1 h2 => ⟨.int _, H, I.kept hk, ⟨_, rfl⟩, q m h1 h2⟩)
theorem cr_minT {X : Cx} (hc : X.calm = true) : CallR X (.builtin "min") (rMinT X.K) := CallR.or (cr_minA hc) (by
  intro pins s σ H vs us Q I r h
  obtain ⟨a, ns, rfl, hs, hne, q⟩ := h
  obtain ⟨its, rv, hl, _⟩ := I.tuple hs
  rw [Vals.ref1 r]
  exact min_rawT (I.ok.hd hc) hl rv.ints hne fun h' tk m t' hk h1 h2 => ⟨.int _, H, I.kept hk, ⟨_, rfl⟩, q m h1 h2⟩)
def bMaxT : List D → Option D
  | [.tup ds] => (asInts ds).bind fun ns => (most ns).map .int
  | ds => bMax ds
def bMinT : List D → Option D
  | [.tup ds] => (asInts ds).bind fun ns => (least ns).map .int
  | ds => bMin ds
theorem ok_maxT {G : Gm} : CallOk G (rMaxT G.K) bMaxT := by
  intro W H vs ds c Q sb r e k
  unfold bMaxT at e
  split at e
  · rename_i ds
    cases e1 : asInts ds with
    | none => rw [e1] at e; cases e
    | some bs =>
      rw [e1] at e
      obtain ⟨v, rfl, h⟩ := one_h r
      obtain ⟨a, ws, rfl, h1, h2, h3⟩ := h.tup_ sb
      rw [asInts_eq e1] at h2
      have e2 := RepL.ints h2
      subst e2
      cases bs with
      | nil => cases e
      | cons n ns =>
        cases e
        obtain ⟨g1, g2⟩ := foldl_max ns n
        refine .inr ⟨a, n :: ns, rfl, h1, by simp, fun m m1 m2 => ?_⟩
        have e3 : m = ns.foldl max n := Int.le_antisymm (g2 _ m1) (m2 _ g1)
        rw [e3]
        exact k W _ H .rfl' (.int _)
  · exact .inl (ok_max W H vs _ c Q sb r e k)
theorem ok_minT {G : Gm} : CallOk G (rMinT G.K) bMinT := by
  intro W H vs ds c Q sb r e k
  unfold bMinT at e
  split at e
  · rename_i ds
    cases e1 : asInts ds with
    | none => rw [e1] at e; cases e
    | some bs =>
      rw [e1] at e
      obtain ⟨v, rfl, h⟩ := one_h r
      obtain ⟨a, ws, rfl, h1, h2, h3⟩ := h.tup_ sb
      rw [asInts_eq e1] at h2
      have e2 := RepL.ints h2
      subst e2
      cases bs with
      | nil => cases e
      | cons n ns =>
        cases e
        obtain ⟨g1, g2⟩ := foldl_min ns n
        refine .inr ⟨a, n :: ns, rfl, h1, by simp, fun m m1 m2 => ?_⟩
        have e3 : m = ns.foldl min n := Int.le_antisymm (m2 _ g1) (g2 _ m1)
        rw [e3]
        exact k W _ H .rfl' (.int _)
  · exact .inl (ok_min W H vs _ c Q sb r e k)
section
variable {X : Cx} {J : Jc} {L : List Str}
theorem bo_maxT (C : Ctx X J) (B : BT X.mg L) (h : ("max" : Str) ∈ L := by decide) : BltOk X J "max" bMaxT := ⟨_, .fn _ (cr_maxT C.calm) (B.get h) PyProof.Rows.boot_max, by rw [C.K]; exact ok_maxT⟩
theorem bo_minT (C : Ctx X J) (B : BT X.mg L) (h : ("min" : Str) ∈ L := by decide) : BltOk X J "min" bMinT := ⟨_, .fn _ (cr_minT C.calm) (B.get h) PyProof.Rows.boot_min, by rw [C.K]; exact ok_minT⟩
end
theorem bMaxT_2 {i j : Int} : bMaxT [.int i, .int j] = some (.int (max i j)) := rfl
theorem bMinT_2 {i j : Int} : bMinT [.int i, .int j] = some (.int (min i j)) := rfl
theorem sum_intTup {prog : Program} {w : World} {A : Around} {E : Value → Shared → Prop} {s : Shared} {l : Addr} {xs : Array (Int × Tok)} {Q : Value → Shared → Prop} (hh : A.handled = none) (ht : s.heap.IsTuple l (intItems xs))
    (h : ∀ h' tk t', (∀ b o, s.heap.get? b = some o → h'.get? b = some o) → Q (.int (preSum (numAt xs) xs.size) t') { s with heap := h', toks := tk }) :
    wpAny (model prog w) A (call (.builtin "sum") [.ref l]) Q E s := by
  have hlt : l < s.heap.objs.size := by obtain ⟨_, e, _⟩ := ht; exact Heap.lt_size e
  refine call_sum_walkG (wpAny_pyIter_tuple ht ?_)
  refine ⟨_, [_, l], [_], _, _, _, numAt xs, rfl, Walks.tuple (A := A.in1) hh _ l (Nat.ne_of_lt hlt) (intItems xs), ⟨⟨_, Heap.get?_push_size _ rfl, rfl, rfl⟩, ht.push _⟩, fun c hc => ?_, (fun _ _ => intItems_at), fun h' tk t' hk => ?_⟩
  · show c < (s.heap.push _).objs.size
    rw [Heap.size_push]
    rcases List.mem_cons.mp hc with rfl | hc
    · exact Nat.lt_succ_self _
    · rcases List.mem_cons.mp hc with rfl | hc
      · exact Nat.lt_succ_of_lt hlt
      · cases hc
  · have := h h' tk t' fun c o e => hk c o (fun hm => ?_) (Heap.get?_push_of_some _ e)
    · simpa [intItems] using this
    rcases List.mem_cons.mp hm with e1 | hm
    · have := Heap.lt_size e; rw [e1] at this; exact Nat.lt_irrefl _ this
    · cases hm
theorem sum_rawT {prog : Program} {w : World} {A : Around} {E : Value → Shared → Prop} {s : Shared} {l : Addr} {its : List Value} {ns : List Int} {Q : Value → Shared → Prop} (hh : A.handled = none) (hl : s.heap.IsTuple l its.toArray) (hi : IntsAre its ns)
    (h : ∀ h' tk t', (∀ b o, s.heap.get? b = some o → h'.get? b = some o) → Q (.int ns.sum t') { s with heap := h', toks := tk }) : wpAny (model prog w) A (call (.builtin "sum") [.ref l]) Q E s := by
  obtain ⟨xs, e⟩ := hi.allInts.items
  have hn : numsOf (intItems xs).toList = ns := by rw [← e]; exact hi.numsOf
  rw [nums_intItems] at hn
  rw [e] at hl
  refine sum_intTup hh hl fun h' tk t' hk => ?_
  have := h h' tk t' hk
  rw [preSum_eq, List.take_of_length_le (by simp), hn]; exact this
def rSumT (K : PySem.W.Frag) : List V → Hp → VK → Prop := fun vs H Q => rSum K vs H Q ∨ ∃ (a : Addr) (ns : List Int), vs = [V.ref a] ∧ SqT K H a (ns.map V.int) ∧ Q (.int ns.sum) H
theorem cr_sumT {X : Cx} (hc : X.calm = true) : CallR X (.builtin "sum") (rSumT X.K) := CallR.or (cr_sum hc) (by
  intro pins s σ H vs us Q I r h
  obtain ⟨a, ns, rfl, hs, q⟩ := h
  obtain ⟨its, rv, hl, _⟩ := I.tuple hs
  rw [Vals.ref1 r]
  exact sum_rawT (I.ok.hd hc) hl rv.ints fun h' tk t' hk => ⟨.int _, H, I.kept hk, ⟨_, rfl⟩, q⟩)
def bSumT : List D → Option D
  | [.tup ds] => (asInts ds).map fun ns => .int ns.sum
  | ds => bSum ds
theorem ok_sumT {G : Gm} : CallOk G (rSumT G.K) bSumT := by
  intro W H vs ds c Q sb r e k
  unfold bSumT at e
  split at e
  · rename_i ds
    cases e1 : asInts ds with
    | none => rw [e1] at e; cases e
    | some bs =>
      rw [e1] at e
      obtain ⟨v, rfl, h⟩ := one_h r
      obtain ⟨a, ws, rfl, h1, h2, h3⟩ := h.tup_ sb
      rw [asInts_eq e1] at h2
      have e2 := RepL.ints h2
      subst e2
      cases e
      exact .inr ⟨a, bs, rfl, h1, k W _ H .rfl' (.int _)⟩
  · exact .inl (ok_sum W H vs _ c Q sb r e k)
theorem bo_sumT {X : Cx} {J : Jc} {L : List Str} (C : Ctx X J) (B : BT X.mg L) (h : ("sum" : Str) ∈ L := by decide) : BltOk X J "sum" bSumT := ⟨_, .fn _ (cr_sumT C.calm) (B.get h) PyProof.Rows.boot_sum, by rw [C.K]; exact ok_sumT⟩
theorem bSumT_t {ns : List Int} : bSumT [.tup (ns.map .int)] = some (.int ns.sum) := by
  show (asInts _).map _ = _
  rw [asInts_map]; rfl
theorem bSumT_l {ns : List Int} : bSumT [.lst (ns.map .int)] = some (.int ns.sum) := by
  show (asInts _).map _ = _
  rw [asInts_map]; rfl
def WF := And.intro @bMaxT_2 (And.intro @bMinT_2 (And.intro @bSumT_t @bSumT_l))
end DL

/-! DM: comprehensions, items of lists. -/
namespace DL
open PySem PySem.Spec PyProof.Rows L2
theorem dCL_m {vs : List Nat} {g : TgF} {te : DE} {ρ : Env} (h : D → D) (xs : List D) (acc : List D) {P : List D → Env → Prop}
    (hs : ∀ x ∈ xs, ∀ K : D → Env → Prop, (∀ ρ3, wipeE vs ρ3 = ρ → K (h x) ρ3) → oe (g x ρ) fun ρ2 => te ρ2 K (fun _ _ _ => False)) (hp : P (acc ++ xs.map h) ρ) : dCL vs g dYes te xs acc ρ P := by
  induction xs generalizing acc with
  | nil => rw [List.map_nil, List.append_nil] at hp; exact hp
  | cons x xs ih =>
    obtain ⟨ρ2, e1, e2⟩ := hs x List.mem_cons_self (fun y ρ4 => dCL vs g dYes te xs (acc ++ [y]) (wipeE vs ρ4) P) fun ρ3 e3 => by
      rw [e3]
      exact ih (acc ++ [h x]) (fun z hz => hs z (List.mem_cons_of_mem _ hz)) (by rw [List.map_cons] at hp; rw [List.append_assoc]; exact hp)
    exact ⟨ρ2, e1, e2⟩
theorem dCL_f {vs : List Nat} {g : TgF} {tt : DT} {te : DE} {ρ : Env} (t : D → Bool) (h : D → D) (xs : List D) (acc : List D) {P : List D → Env → Prop}
    (hs : ∀ x ∈ xs, ∀ (K1 : D → Env → Prop) (K2 : Env → Prop), (t x = true → ∀ ρ3, wipeE vs ρ3 = ρ → K1 (h x) ρ3) → (t x = false → ∀ ρ3, wipeE vs ρ3 = ρ → K2 ρ3) →
      oe (g x ρ) fun ρ2 => tt ρ2 (fun b ρ3 => wif b (te ρ3 K1 (fun _ _ _ => False)) (K2 ρ3)) (fun _ _ _ => False)) (hp : P (acc ++ (xs.filter t).map h) ρ) : dCL vs g tt te xs acc ρ P := by
  induction xs generalizing acc with
  | nil => rw [List.filter_nil, List.map_nil, List.append_nil] at hp; exact hp
  | cons x xs ih =>
    have hs' : ∀ z ∈ xs, _ := fun z hz => hs z (List.mem_cons_of_mem _ hz)
    obtain ⟨ρ2, e1, e2⟩ := hs x List.mem_cons_self (fun y ρ4 => dCL vs g tt te xs (acc ++ [y]) (wipeE vs ρ4) P) (fun ρ4 => dCL vs g tt te xs acc (wipeE vs ρ4) P) (fun ht ρ3 e3 => by
        rw [e3]
        exact ih (acc ++ [h x]) hs' (by rw [List.filter_cons_of_pos ht, List.map_cons] at hp; rw [List.append_assoc]; exact hp)) (fun ht ρ3 e3 => by
        rw [e3]
        exact ih acc hs' (by rw [List.filter_cons_of_neg (by rw [ht]; exact Bool.false_ne_true)] at hp; exact hp))
    exact ⟨ρ2, e1, e2⟩
theorem dCL_mg {α : Type} {vs : List Nat} {g : TgF} {te : DE} {ρ : Env} {P : List D → Env → Prop} (e : α → D) (h : α → D) (L : List α) (acc : List D)
    (hs : ∀ x ∈ L, ∀ K : D → Env → Prop, (∀ ρ3, wipeE vs ρ3 = ρ → K (h x) ρ3) → oe (g (e x) ρ) fun ρ2 => te ρ2 K (fun _ _ _ => False)) (hp : P (acc ++ L.map h) ρ) : dCL vs g dYes te (L.map e) acc ρ P := by
  induction L generalizing acc with
  | nil => rw [List.map_nil, List.append_nil] at hp; exact hp
  | cons x xs ih =>
    obtain ⟨ρ2, e1, e2⟩ := hs x List.mem_cons_self (fun y ρ4 => dCL vs g dYes te (xs.map e) (acc ++ [y]) (wipeE vs ρ4) P) fun ρ3 e3 => by
      rw [e3]
      exact ih (acc ++ [h x]) (fun z hz => hs z (List.mem_cons_of_mem _ hz)) (by rw [List.map_cons] at hp; rw [List.append_assoc]; exact hp)
    exact ⟨ρ2, e1, e2⟩
theorem dCL_fg {α : Type} {vs : List Nat} {g : TgF} {tt : DT} {te : DE} {ρ : Env} {P : List D → Env → Prop} (e : α → D) (t : α → Bool) (h : α → D) (L : List α) (acc : List D)
    (hs : ∀ x ∈ L, ∀ (K1 : D → Env → Prop) (K2 : Env → Prop), (t x = true → ∀ ρ3, wipeE vs ρ3 = ρ → K1 (h x) ρ3) → (t x = false → ∀ ρ3, wipeE vs ρ3 = ρ → K2 ρ3) →
      oe (g (e x) ρ) fun ρ2 => tt ρ2 (fun b ρ3 => wif b (te ρ3 K1 (fun _ _ _ => False)) (K2 ρ3)) (fun _ _ _ => False)) (hp : P (acc ++ (L.filter t).map h) ρ) : dCL vs g tt te (L.map e) acc ρ P := by
  induction L generalizing acc with
  | nil => rw [List.filter_nil, List.map_nil, List.append_nil] at hp; exact hp
  | cons x xs ih =>
    have hs' : ∀ z ∈ xs, _ := fun z hz => hs z (List.mem_cons_of_mem _ hz)
    obtain ⟨ρ2, e1, e2⟩ := hs x List.mem_cons_self (fun y ρ4 => dCL vs g tt te (xs.map e) (acc ++ [y]) (wipeE vs ρ4) P) (fun ρ4 => dCL vs g tt te (xs.map e) acc (wipeE vs ρ4) P) (fun ht ρ3 e3 => by
        rw [e3]
        exact ih (acc ++ [h x]) hs' (by rw [List.filter_cons_of_pos ht, List.map_cons] at hp; rw [List.append_assoc]; exact hp)) (fun ht ρ3 e3 => by
        rw [e3]
        exact ih acc hs' (by rw [List.filter_cons_of_neg (by rw [ht]; exact Bool.false_ne_true)] at hp; exact hp))
    exact ⟨ρ2, e1, e2⟩
/-- a for loop over a list of a kind -/
theorem dFL_g {α : Type} {g : TgF} {b : DS} {nx : Env → Prop} {rt : D → Prop} {bk ct : Env → Prop} {ex : Nat → List D → Prop} (e : α → D) (I : Nat → Env → Prop) (L : List α) (ρ : Env) (h0 : I 0 ρ) (st : ∀ (i : Nat) (x : α) (ρ : Env) (K : Env → Prop), L[i]? = some x → I i ρ → (∀ ρ', I (i + 1) ρ' → K ρ') → oe (g (e x) ρ) fun ρ2 => b ρ2 ⟨K, rt, nx, K, ex⟩) (he : ∀ ρ', I L.length ρ' → nx ρ') : dFL g b (L.map e) ρ ⟨nx, rt, bk, ct, ex⟩ := by
  refine dFL_ind I (L.map e) 0 ρ h0 (fun i x ρ K hx hi hK => ?_) (by rw [Nat.zero_add, List.length_map]; exact he)
  rw [Nat.zero_add] at hi hK
  obtain ⟨y, hy, rfl⟩ := map_get hx
  exact st i y ρ K hy hi hK
theorem in_ints {neg : Bool} {x : Int} {ns : List Int} {d : D} (h : seqOf d = some (ns.map .int)) : inD neg (.int x) d = some (.bl (if neg then !(ns.any fun o => decide (o = x)) else ns.any fun o => decide (o = x))) := by
  have h1 : (ns.map D.int).all D.flat = true := by
    rw [List.all_map, List.all_eq_true]
    intro n _; rfl
  have h2 : ((ns.map D.int).any fun y => D.eqF y (.int x)) = ns.any fun o => decide (o = x) := by
    rw [List.any_map]
    rfl
  unfold inD
  rw [h]
  show (if _ then _ else _) = _
  rw [if_pos ⟨rfl, h1⟩, h2]
theorem in_t {x : Int} {ns : List Int} : inD false (.int x) (.tup (ns.map .int)) = some (.bl (ns.any fun o => decide (o = x))) := in_ints rfl
theorem in_l {x : Int} {ns : List Int} : inD false (.int x) (.lst (ns.map .int)) = some (.bl (ns.any fun o => decide (o = x))) := in_ints rfl
theorem nin_t {x : Int} {ns : List Int} : inD true (.int x) (.tup (ns.map .int)) = some (.bl !(ns.any fun o => decide (o = x))) := in_ints rfl
theorem nin_l {x : Int} {ns : List Int} : inD true (.int x) (.lst (ns.map .int)) = some (.bl !(ns.any fun o => decide (o = x))) := in_ints rfl
theorem ixN_w {n : Nat} {k : Int} (h : 0 ≤ k) (h2 : k < n) : ixN n k = some k.toNat := by
  unfold ixN
  rw [if_pos h, if_pos h2]
theorem atI_w {α : Type} {xs : List α} {k : Int} (h : 0 ≤ k) (h2 : k < xs.length) : L2.atI xs k = xs[k.toNat]? := by
  show (ixN _ _).bind _ = _
  rw [ixN_w h h2]; rfl
theorem oIx_tw {xs : List D} {k : Int} (h : 0 ≤ k) (h2 : k < xs.length) : oIx (.tup xs) (.int k) = xs[k.toNat]? := atI_w h h2
theorem oIx_lw {xs : List D} {k : Int} (h : 0 ≤ k) (h2 : k < xs.length) : oIx (.lst xs) (.int k) = xs[k.toNat]? := atI_w h h2
theorem dAugI_w {i : Nat} {f : Int → Int → Int} {dk dv : DE} {ρ : Env} {N : DN} : dAugI i f dk dv ρ N = oml ρ[i]? fun _ => dk ρ (fun r ρ1 => oml ρ1[i]? fun ds => isi r fun k => oei (L2.atI ds k) fun x => dv ρ1 (fun r2 ρ2 => oml ρ2[i]? fun ds2 => isi r2 fun y => oe (ixN ds2.length k) fun j => N.nx (ρ2.set i (.ml (ds2.set j (.int (f x y)))))) N.x) N.x := by
  unfold dAugI
  have e1 : ∀ k x, (fun r2 (ρ2 : Env) => ∃ ds2 y j, ρ2[i]? = some (.ml ds2) ∧ r2 = .int y ∧ ixN ds2.length k = some j ∧ N.nx (ρ2.set i (.ml (ds2.set j (.int (f x y)))))) = fun r2 ρ2 => oml ρ2[i]? fun ds2 => isi r2 fun y => oe (ixN ds2.length k) fun j => N.nx (ρ2.set i (.ml (ds2.set j (.int (f x y))))) := by
    intro k x; funext r2 ρ2
    exact propext ⟨fun ⟨a, b, c, h1, h2, h3, h4⟩ => ⟨a, h1, b, h2, c, h3, h4⟩, fun ⟨a, h1, b, h2, c, h3, h4⟩ => ⟨a, b, c, h1, h2, h3, h4⟩⟩
  have e2 : (fun r (ρ1 : Env) => ∃ ds k x, ρ1[i]? = some (.ml ds) ∧ r = .int k ∧ L2.atI ds k = some (.int x) ∧ dv ρ1 (fun r2 ρ2 => ∃ ds2 y j, ρ2[i]? = some (.ml ds2) ∧ r2 = .int y ∧ ixN ds2.length k = some j ∧ N.nx (ρ2.set i (.ml (ds2.set j (.int (f x y)))))) N.x) = fun r ρ1 => oml ρ1[i]? fun ds => isi r fun k => oei (L2.atI ds k) fun x => dv ρ1 (fun r2 ρ2 => oml ρ2[i]? fun ds2 => isi r2 fun y => oe (ixN ds2.length k) fun j => N.nx (ρ2.set i (.ml (ds2.set j (.int (f x y)))))) N.x := by
    funext r ρ1
    simp only [e1]
    exact propext ⟨fun ⟨a, b, c, h1, h2, h3, h4⟩ => ⟨a, h1, b, h2, c, h3, h4⟩, fun ⟨a, h1, b, h2, c, h3, h4⟩ => ⟨a, b, c, h1, h2, h3, h4⟩⟩
  rw [e2]
  exact propext ⟨fun ⟨⟨ds, e⟩, p⟩ => ⟨ds, e, p⟩, fun ⟨ds, e, p⟩ => ⟨⟨ds, e⟩, p⟩⟩
theorem dStI_w {i : Nat} {dv dk : DE} {ρ : Env} {N : DN} : dStI i dv dk ρ N = dv ρ (fun y ρ1 => oml ρ1[i]? fun _ => dk ρ1 (fun r ρ' => oml ρ'[i]? fun ds => isi r fun k => oe (ixN ds.length k) fun j => N.nx (ρ'.set i (.ml (ds.set j y)))) N.x) N.x := by
  unfold dStI
  congr 1; funext y ρ1
  have e : (fun r (ρ' : Env) => ∃ ds k j, ρ'[i]? = some (.ml ds) ∧ r = .int k ∧ ixN ds.length k = some j ∧ N.nx (ρ'.set i (.ml (ds.set j y)))) = fun r ρ' => oml ρ'[i]? fun ds => isi r fun k => oe (ixN ds.length k) fun j => N.nx (ρ'.set i (.ml (ds.set j y))) := by
    funext r ρ'
    exact propext ⟨fun ⟨a, b, c, h1, h2, h3, h4⟩ => ⟨a, h1, b, h2, c, h3, h4⟩, fun ⟨a, h1, b, h2, c, h3, h4⟩ => ⟨a, b, c, h1, h2, h3, h4⟩⟩
  rw [e]
  exact propext ⟨fun ⟨⟨ds, e⟩, p⟩ => ⟨ds, e, p⟩, fun ⟨ds, e, p⟩ => ⟨⟨ds, e⟩, p⟩⟩
theorem dWhile_j {t : DT} {b : DS} {ρ : Env} {nx : Env → Prop} {rt : D → Prop} {bk ct : Env → Prop} {ex : Nat → List D → Prop} (V : Nat → Env → Prop) (n : Nat) (h : V n ρ) (st : ∀ n ρ, V n ρ → t ρ (fun c ρ1 => wif c (b ρ1 ⟨fun ρ2 => ∃ m, m < n ∧ V m ρ2, rt, nx, fun ρ2 => ∃ m, m < n ∧ V m ρ2, ex⟩) (nx ρ1)) (fun c ds _ => ex c ds)) : dWhile t b ρ ⟨nx, rt, bk, ct, ex⟩ := ⟨V, ⟨n, h⟩, st⟩
theorem dFL_j {g : TgF} {b : DS} {nx : Env → Prop} {rt : D → Prop} {bk ct : Env → Prop} {ex : Nat → List D → Prop} (I : Nat → Env → Prop) (xs : List D) (ρ : Env) (h0 : I 0 ρ) (st : ∀ i x ρ (K : Env → Prop), xs[i]? = some x → I i ρ → (∀ ρ', I (i + 1) ρ' → K ρ') → oe (g x ρ) fun ρ2 => b ρ2 ⟨K, rt, nx, K, ex⟩) (he : ∀ ρ', I xs.length ρ' → nx ρ') : dFL g b xs ρ ⟨nx, rt, bk, ct, ex⟩ :=
  dFL_ind I xs 0 ρ h0 (fun i x ρ K hx hi hK => st i x ρ K hx (by rw [Nat.zero_add] at hi; exact hi) (by rw [Nat.zero_add] at hK; exact hK)) (by rw [Nat.zero_add]; exact he)
theorem asInts_m {ns : List Int} : asInts (ns.map .int) = some ns := asInts_map ns
theorem asBls_m {ns : List Bool} : asBls (ns.map .bl) = some ns := asBls_map ns
theorem bSorted_w {ns : List Int} : bSorted [.lst (ns.map .int)] = some ((isort ns).map .int) := by
  show (asInts _).map _ = _
  rw [asInts_map]; rfl
theorem bAll_w {bs : List Bool} : bAll [.lst (bs.map .bl)] = some (.bl (bs.all id)) := by
  show (asBls _).map _ = _
  rw [asBls_map]; rfl
theorem oFld_w {c : Nat} {x : D} {n : Str} {fl : Nat → List Str} (h : fl c = [n]) : oFld n fl (.exc c [x]) = some x := by
  show (if fl c = [n] then some x else none) = _
  rw [if_pos h]
theorem cut_0 {xs : List D} {k : Int} (h : 0 ≤ k) : oSlL (.lst xs) none (some k) = some (xs.take k.toNat) := by
  obtain ⟨n, rfl⟩ := Int.eq_ofNat_of_zero_le h
  show some (cutD xs none (some (n : Int))) = _
  rw [cutD_to]; rfl
theorem cut_1 {xs : List D} {k : Int} (h : 0 ≤ k) : oSlL (.lst xs) (some k) none = some (xs.drop k.toNat) := by
  obtain ⟨n, rfl⟩ := Int.eq_ofNat_of_zero_le h
  show some (cutD xs (some (n : Int)) none) = _
  rw [cutD_from]; rfl
theorem cutT_0 {xs : List D} {k : Int} (h : 0 ≤ k) : oSlT (.tup xs) none (some k) = some (.tup (xs.take k.toNat)) := by
  obtain ⟨n, rfl⟩ := Int.eq_ofNat_of_zero_le h
  show some (D.tup (cutD xs none (some (n : Int)))) = _
  rw [cutD_to]; rfl
theorem cutT_1 {xs : List D} {k : Int} (h : 0 ≤ k) : oSlT (.tup xs) (some k) none = some (.tup (xs.drop k.toNat)) := by
  obtain ⟨n, rfl⟩ := Int.eq_ofNat_of_zero_le h
  show some (D.tup (cutD xs (some (n : Int)) none)) = _
  rw [cutD_from]; rfl
theorem oRep_1 {x : D} {k : Int} (h : 0 ≤ k) (h2 : k ≤ 16777216) : oRep (.lst [x]) (.int k) = some (List.replicate k.toNat x) := by
  show (if _ then _ else _) = _
  rw [if_pos ⟨inB_i (by omega) (by omega), by rw [sizeLine_eq]; show 1 * k.toNat ≤ _; omega⟩]
  congr 1
  induction k.toNat with
  | zero => rfl
  | succ n ih => rw [List.replicate_succ, List.flatten_cons, ih]; rfl
theorem line_ok {n : Nat} (h : n < 16777216) : n < sizeLine := by rw [sizeLine_eq]; exact h
theorem line_le {n : Nat} (h : n ≤ 16777216) : n ≤ sizeLine := by rw [sizeLine_eq]; exact h
theorem sd_line {n : Nat} {k : Prop} (h : n < 16777216) : sd (n < sizeLine) k = k := sd_ok (line_ok h)
theorem isi_ii {x : Int} {k : Int → Prop} : isi (.int x) k = k x := isi_i
theorem zip_tt {xs ys : List D} : zipOf (.tup xs) (.tup ys) = some (zipD xs ys) := rfl
theorem zip_ll {xs ys : List D} : zipOf (.lst xs) (.lst ys) = some (zipD xs ys) := rfl
theorem sd_rg1 {n : Int} {k : Prop} (h : -(2 ^ 62) ≤ n) (h2 : n ≤ 16777216) : sd (inB n = true ∧ n.toNat ≤ sizeLine) k = k := sd_ok ⟨inB_i h (by omega), by rw [sizeLine_eq]; omega⟩
theorem sd_rg2 {i j : Int} {k : Prop} (h : -(2 ^ 62) ≤ i) (h' : i < 2 ^ 62) (h1 : -(2 ^ 62) ≤ j) (h1' : j < 2 ^ 62) (h2 : j - i ≤ 16777216) : sd (inB i = true ∧ inB j = true ∧ (j - i).toNat ≤ sizeLine) k = k := sd_ok ⟨inB_i h h', inB_i h1 h1', by rw [sizeLine_eq]; omega⟩
def unI : D → Int
  | .int i => i
  | _ => 0
theorem unI_map (ns : List Int) : (ns.map D.int).map unI = ns := by
  rw [List.map_map]
  conv => rhs; rw [← List.map_id ns]
  rfl
theorem perm_ints {ys : List D} {ns : List Int} (h : ys.Perm (ns.map .int)) : ∃ zs : List Int, ys = zs.map .int ∧ zs.Perm ns := by
  refine ⟨ys.map unI, ?_, by have := h.map unI; rw [unI_map] at this; exact this⟩
  have : ∀ y ∈ ys, y = D.int (unI y) := fun y hy => by
    obtain ⟨n, _, rfl⟩ := List.mem_map.mp (h.subset hy)
    rfl
  rw [List.map_map]
  conv => lhs; rw [← List.map_id ys]
  exact List.map_congr_left this
def rngI (n : Nat) : List Int := (List.range n).map fun i : Nat => (i : Int)
theorem rng_I (n : Nat) : rng 0 n = (rngI n).map .int := by
  unfold rng rngI
  rw [List.map_map]
  refine List.map_congr_left fun i _ => ?_
  rw [Int.zero_add]; rfl
theorem rngI_mem {n : Nat} {x : Int} : x ∈ rngI n ↔ 0 ≤ x ∧ x < n := by
  unfold rngI
  rw [List.mem_map]
  constructor
  · rintro ⟨i, hi, rfl⟩
    have := List.mem_range.mp hi
    omega
  · rintro ⟨h0, h1⟩
    obtain ⟨i, rfl⟩ := Int.eq_ofNat_of_zero_le h0
    exact ⟨i, List.mem_range.mpr (by omega), rfl⟩
theorem rngI_len (n : Nat) : (rngI n).length = n := by unfold rngI; rw [List.length_map, List.length_range]
theorem rngI_nodup (n : Nat) : (rngI n).Nodup := by
  unfold rngI
  exact List.Pairwise.map _ (fun a b (h : a ≠ b) => by show ((a : Int)) ≠ (b : Int); omega) List.nodup_range
theorem rngI_inc (n : Nat) : (rngI n).Pairwise (· < ·) := by
  unfold rngI
  exact List.Pairwise.map _ (fun a b (h : a < b) => by show ((a : Int)) < (b : Int); omega) List.pairwise_lt_range
theorem isort_lt {zs : List Int} (hn : zs.Nodup) : (isort zs).Pairwise (· < ·) := by
  have hp := isort_perm zs
  have hs := isort_sorted zs
  have hnd : (isort zs).Nodup := hp.nodup_iff.mpr hn
  exact (hs.and hnd).imp fun ⟨h1, h2⟩ => by have := h1; have := h2; omega
def WLEN := And.intro @List.length_map.{0, 0} (And.intro @List.length_range (And.intro @List.length_append.{0} (And.intro @List.length_replicate.{0} (And.intro @List.length_set.{0} (And.intro @List.length_cons.{0} @List.length_nil.{0})))))
def WG := And.intro @dAugI_w (And.intro @dStI_w @anyI_w)
def WH := And.intro @sd_rg1 (And.intro @sd_rg2 (And.intro @zip_tt (And.intro @zip_ll (And.intro @in_t (And.intro @in_l (And.intro @nin_t (And.intro @nin_l (And.intro @asInts_m (And.intro @asBls_m (And.intro @bSorted_w (And.intro @bAll_w (And.intro @cut_0 (And.intro @cut_1 (And.intro @cutT_0 (And.intro @cutT_1 (And.intro @oRep_1 (And.intro @sd_line (And.intro @oIx_tw (And.intro @oIx_lw (And.intro @ixN_w (And.intro @atI_w (And.intro @oFld_w (And.intro @List.length_map.{0, 0} (And.intro @List.length_range (And.intro @List.length_append.{0} @List.length_replicate.{0})))))))))))))))))))))))))
end DL

/-! DM: *= on a name, xs[::-1]. -/
namespace DL
open PySem PySem.Spec PyProof.Rows L2
theorem ip_mul {X : Cx} : PIp X .Mult (rI CMulW fun i j => .int (i * j)) := by
  intro pins s σ H x y v u Q I r1 r2 h
  obtain ⟨i, j, e1, e2, c, q⟩ := h
  subst e1; subst e2
  obtain ⟨t, rfl⟩ := r1
  obtain ⟨t', rfl⟩ := r2
  exact imul_int ⟨.int _, H, I.tok _, ⟨_, rfl⟩, q⟩ c.ok
def oRevL : D → Option (List D)
  | .lst ds => some ds.reverse
  | _ => none
theorem oRevL_w {ds : List D} : oRevL (.lst ds) = some ds.reverse := rfl
def pRev (f : PuF) : Env → Option (List D) := fun ρ => (f ρ).bind oRevL
theorem pRev_w {f : PuF} {ρ : Env} : pRev f ρ = (f ρ).bind oRevL := rfl
theorem jf_revP {X : Cx} {J : Jc} {a : Expr} {f : PuF} {k : Nat} {q1 q2 q3 pos : Pos} (ha : JB J X a (pb f)) : JF J X (.Subscript a (.Slice none none (some (.UnaryOp .USub (.Constant (.int 1) k q1) q2)) q3) pos) (pf (pRev f)) := by
  refine PE.imp (pe_revL ha) fun σ H Q ⟨W, ρ, S, P, X, q, x, k⟩ => ?_
  obtain ⟨c, e, p⟩ := q
  cases hf : f ρ with
  | none =>
    rw [pRev_w, hf] at e
    cases e
  | some d =>
    rw [pRev_w, hf] at e
    have e : oRevL d = some c := e
    unfold oRevL at e
    split at e
    · cases e
      rename_i ds
      refine ⟨W, ρ, S, (fun b ρ1 => ρ1 = ρ ∧ deref ρ b = f ρ), X, ⟨⟨_, hf⟩, fun b hb => ⟨rfl, hb⟩⟩, x, fun b ρ1 q1 W1 v H1 l1 S1 r1 => ?_⟩
      obtain ⟨rfl, hb⟩ := q1
      obtain ⟨a, vs, rfl, hp, rp, zp⟩ := (S1.rdH r1 (hb.trans hf)).lst_ S1.sub
      exact ⟨a, vs, rfl, .inl (.inl hp), fun a na => k ds.reverse _ p W1 a vs.reverse H1 l1 S1 na rp.rev (by rw [List.length_reverse]; exact zp)⟩
    · cases e
/-- tuple(range(n)) -/
def dTRg1 (d : DE) : DE := fun ρ P X => d ρ (fun r ρ' => ∃ n, r = .int n ∧ inB n = true ∧ n.toNat ≤ sizeLine ∧ P (.tup (rng 0 n.toNat)) ρ') X
theorem je_trg1 {X : Cx} {J : Jc} {a : Expr} {d : DE} {p p2 pos pos2 : Pos} (C : Ctx X J) (hg : Gl X "tuple") (hm : X.mg "tuple" = none) (hg2 : Gl X "range") (hm2 : X.mg "range" = none) (h : JE J X a d) (na : starEach [a] X.env = (false, eval a X.env) :: starEach [] X.env := by rfl)
    (nb : starEach [.Call (.Name "range" p2) [a] [] pos2] X.env = (false, eval (.Call (.Name "range" p2) [a] [] pos2) X.env) :: starEach [] X.env := by rfl) : JE J X (.Call (.Name "tuple" p) [.Call (.Name "range" p2) [a] [] pos2] [] pos) (dTRg1 d) :=
  PE.imp (pe_tupRg C.calm hg hm (prg_1 hg2 hm2 h na) nb) fun σ H Q ⟨W, ρ, S, P, X, q, x, k⟩ => by
    refine ⟨W, ρ, S, _, X, q, x, fun r ρ1 q1 W1 v H1 l1 S1 rr => ?_⟩
    obtain ⟨n, rfl, hb, hn, pp⟩ := q1
    cases rr
    have hz : (n - 0).toNat ≤ sizeLine := by rw [Int.sub_zero]; exact hn
    refine ⟨n, rfl, rgOk (by decide) hb hz, fun q nq => ?_⟩
    have rr := rgV_rep (G := J.G) (W := W1) 0 n
    rw [Int.sub_zero] at rr
    have lw : W1.le (W1.add q (.tup (rgV 0 n))) := Wd.le_add (S1.free nq).1
    exact k _ ρ1 pp (W1.add q (.tup (rgV 0 n))) (.ref q) _ (l1.trans lw) (S1.newF nq) (.tup (.inl (.inl (show upd W1.F q (.tup (rgV 0 n)) q = _ from upd_same))) (rr.mono lw) (by rw [rng_len]; exact hn))
theorem dTRg1_w {d : DE} {ρ : Env} {P : D → Env → Prop} {X : DX} : dTRg1 d ρ P X = d ρ (fun r ρ' => isi r fun n => sd (inB n = true ∧ n.toNat ≤ sizeLine) (P (.tup (rng 0 n.toNat)) ρ')) X := by
  unfold dTRg1
  congr 1; funext r ρ'
  exact propext ⟨fun ⟨x, e1, e3, e4, p⟩ => ⟨x, e1, ⟨e3, e4⟩, p⟩, fun ⟨x, e1, e3, p⟩ => ⟨x, e1, e3.1, e3.2, p⟩⟩
def WRV := And.intro @oRevL_w (And.intro @pRev_w @dTRg1_w)
theorem dCLs_mg {α : Type} {vs : List Nat} {g : TgF} {te : DE} {ρ : Env} {P : List D → Env → Prop} (e : α → D) (h : α → D) : ∀ (L : List α) (acc : List D), acc.length + L.length ≤ sizeLine →
    (∀ x ∈ L, ∀ K : D → Env → Prop, (∀ ρ3, wipeE vs ρ3 = ρ → K (h x) ρ3) → oe (g (e x) ρ) fun ρ2 => te ρ2 K (fun _ _ _ => False)) → P (acc ++ L.map h) ρ → dCLs vs g dYes te (L.map e) acc ρ P
  | [], acc, _, _, hp => by rw [List.map_nil, List.append_nil] at hp; exact hp
  | x :: L, acc, hl, hs, hp => by
    rw [List.length_cons] at hl
    obtain ⟨ρ2, e1, e2⟩ := hs x List.mem_cons_self (fun y ρ4 => acc.length < sizeLine ∧ dCLs vs g dYes te (L.map e) (acc ++ [y]) (wipeE vs ρ4) P) fun ρ3 e3 => by
      rw [e3]
      refine ⟨by omega, dCLs_mg e h L (acc ++ [h x]) (by rw [List.length_append, List.length_singleton]; omega) (fun z hz => hs z (List.mem_cons_of_mem _ hz)) (by rw [List.map_cons] at hp; rw [List.append_assoc]; exact hp)⟩
    exact ⟨ρ2, e1, e2⟩
theorem dCL2_ind {vs vs1 : List Nat} {g g1 : TgF} {di1 : DI} {te : DE} {ρ : Env} {P : List D → Env → Prop} (I : Nat → List D → Prop) : ∀ (xs : List D) (k : Nat) (acc : List D), I k acc →
    (∀ i x acc (K : List D → Env → Prop), xs[i]? = some x → I (k + i) acc → (∀ acc' ρ5, I (k + i + 1) acc' → wipeE vs ρ5 = ρ → K acc' ρ5) → oe (g x ρ) fun ρ2 => di1 ρ2 (fun ys ρ4 => dCLs vs1 g1 dYes te ys acc (wipeE vs1 ρ4) K) (fun _ _ _ => False)) →
    (∀ acc', I (k + xs.length) acc' → P acc' ρ) → dCL2 vs g dYes di1 vs1 g1 dYes te xs acc ρ P
  | [], k, acc, h0, _, he => he acc h0
  | x :: xs, k, acc, h0, hs, he => by
    obtain ⟨ρ2, e1, e2⟩ := hs 0 x acc (fun acc' ρ5 => dCL2 vs g dYes di1 vs1 g1 dYes te xs acc' (wipeE vs ρ5) P) rfl h0 fun acc' ρ5 hI e5 => by
      rw [e5]
      exact dCL2_ind I xs (k + 1) acc' hI (fun i y acc K hy hi hK => hs (i + 1) y acc K hy (by rw [show k + (i + 1) = k + 1 + i by omega]; exact hi) fun acc' ρ5 h e => hK acc' ρ5 (by rw [show k + 1 + i + 1 = k + (i + 1) + 1 by omega]; exact h) e) fun acc' h => he acc' (by rw [List.length_cons, show k + (xs.length + 1) = k + 1 + xs.length by omega]; exact h)
    exact ⟨ρ2, e1, e2⟩
theorem dCL2_j {vs vs1 : List Nat} {g g1 : TgF} {di1 : DI} {te : DE} {ρ : Env} {P : List D → Env → Prop} (I : Nat → List D → Prop) (xs : List D) (acc : List D) (h0 : I 0 acc)
    (hs : ∀ i x acc (K : List D → Env → Prop), xs[i]? = some x → I i acc → (∀ acc' ρ5, I (i + 1) acc' → wipeE vs ρ5 = ρ → K acc' ρ5) → oe (g x ρ) fun ρ2 => di1 ρ2 (fun ys ρ4 => dCLs vs1 g1 dYes te ys acc (wipeE vs1 ρ4) K) (fun _ _ _ => False))
    (he : ∀ acc', I xs.length acc' → P acc' ρ) : dCL2 vs g dYes di1 vs1 g1 dYes te xs acc ρ P :=
  dCL2_ind I xs 0 acc h0 (fun i x acc K hx hi hK => hs i x acc K hx (by rw [Nat.zero_add] at hi; exact hi) (by rw [Nat.zero_add] at hK; exact hK)) (by rw [Nat.zero_add]; exact he)
theorem rg3dn {n : Int} (h : 1 ≤ n) (h2 : n ≤ 1000000) : rngOf3 [.int (n - 1), .int (-1), .int (-1)] = some ((List.range n.toNat).map fun i : Nat => .int (n - 1 - i)) := by
  have e : Builtin.Range.rangeSize (n - 1) (-1) (-1) = n := by
    unfold Builtin.Range.rangeSize
    rw [if_neg (by decide), if_pos (by omega), show -(-1 : Int) = 1 by decide, Int.ediv_one]
    omega
  have e2 : Builtin.Range.small (n - 1) (-1) (-1) = true := by
    have f : ∀ x : Int, -(2 ^ 62) ≤ x → x < 2 ^ 62 → Builtin.Range.rangeFitsLong x = true := fun x h1 h2 => by
      unfold Builtin.Range.rangeFitsLong
      rw [Bool.and_eq_true, decide_eq_true_eq, decide_eq_true_eq]
      omega
    unfold Builtin.Range.small
    rw [e, f (n - 1) (by omega) (by omega), f (-1) (by omega) (by omega), f n (by omega) (by omega), if_neg (by decide), f (-1 + (-1 + 1)) (by omega) (by omega), Bool.or_true]; rfl
  have e3 : rngC (n - 1) (-1) n.toNat = (List.range n.toNat).map fun i : Nat => D.int (n - 1 - i) := by
    unfold rngC
    refine List.map_congr_left fun i _ => ?_
    congr 1; omega
  show (if _ then _ else _) = _
  rw [e, e2, e3, decide_eq_true (show n.toNat ≤ sizeLine by rw [sizeLine_eq]; omega), decide_eq_true (show 0 ≤ n by omega)]
  rfl
theorem ok_tpl {ds : List D} (h : ∀ d ∈ ds, d.pl = true ∧ d.dep ≤ 60) : (D.tup ds).ok = true := by
  unfold D.ok D.pl D.dep
  rw [pls_all fun d hd => (h d hd).1]
  have := deps_all fun d hd => (h d hd).2
  simp
  omega
theorem oNe_tn {ds : List D} (h : ∀ d ∈ ds, d.pl = true ∧ d.dep ≤ 60) : oNe (.tup ds) (.tup []) = some (.bl (!ds.isEmpty)) := by
  unfold oNe
  rw [if_pos ⟨ok_tpl h, rfl⟩]
  cases ds with
  | nil => rfl
  | cons d ds =>
    unfold D.py D.pys PyData.eqv PyData.eqvAll
    rfl
theorem oEq_tn {ds : List D} (h : ∀ d ∈ ds, d.pl = true ∧ d.dep ≤ 60) : oEq (.tup ds) (.tup []) = some (.bl ds.isEmpty) := by
  unfold oEq
  rw [if_pos ⟨ok_tpl h, rfl⟩]
  cases ds with
  | nil => rfl
  | cons d ds =>
    unfold D.py D.pys PyData.eqv PyData.eqvAll
    rfl
theorem oEq_nil {ds : List D} (h : ∀ d ∈ ds, d.pl = true ∧ d.dep ≤ 60) : oEq (.lst ds) (.lst []) = some (.bl ds.isEmpty) := by
  unfold oEq
  rw [if_pos ⟨ok_lst h, rfl⟩]
  cases ds with
  | nil => rfl
  | cons d ds =>
    unfold D.py D.pys PyData.eqv PyData.eqvAll
    rfl
theorem int_ok {ns : List Int} : ∀ d ∈ ns.map D.int, d.pl = true ∧ d.dep ≤ 60 := fun d hd => by
  obtain ⟨n, _, rfl⟩ := List.mem_map.mp hd
  exact ⟨rfl, Nat.zero_le _⟩
end DL

/-! DM: in and count where the items are data of any kind. -/
namespace DL
open PySem PySem.Spec PyProof.Rows L2
section
variable {G : Gm}
theorem pys_any {x : PyData} : ∀ ds : List D, ((D.pys ds).any fun z => PyData.eqv z x) = ds.any fun z => PyData.eqv z.py x
  | [] => by unfold D.pys; rfl
  | d :: ds => by unfold D.pys; rw [List.any_cons, List.any_cons, pys_any ds]
def inG (x y : D) : Option D := match y with
  | .lst ds => if x.ok = true ∧ (D.lst ds).ok = true then some (.bl (ds.any fun z => PyData.eqv z.py x.py)) else none
  | _ => none
theorem ok_inG : OpOk G (rInD G.K) inG := by
  intro W H x y a b c Q sb ra rb e k
  unfold inG at e
  split at e
  · split at e
    · rename_i ds h
      cases e
      obtain ⟨d1, l1⟩ := ra.dp sb (ok_pl h.1)
      obtain ⟨d2, l2⟩ := rb.dp sb (ok_pl h.2)
      have s2 := shaped_ok h.2 l2
      unfold D.py at d2 s2
      refine ⟨_, _, d1, d2, shaped_ok h.1 l1, s2, ?_⟩
      rw [pys_any]
      exact k W _ H .rfl' (.bl _)
    · cases e
  · cases e
end
section
variable {X : Cx}
def rCntD (K : PySem.W.Frag) : V → List V → Hp → VK → Prop := fun x xs H Q => ∃ (a : Addr) (y : V) (d : PyData) (ds : List PyData), x = V.ref a ∧ xs = [y] ∧ Dp K H (V.ref a) (.list ds) ∧ Dp K H y d ∧
  SeqAt.shaped (.list ds) = true ∧ SeqAt.shaped d = true ∧ Q (.int ((ds.countP fun z => PyData.eqv z d : Nat) : Int)) H
theorem mt_countD (hu : X.A.units + 65 < cLine) : MtR X "list.count" (rCntD X.K) := by
  intro pins s σ H x xs v us Q I rx rxs h
  obtain ⟨a, y, d, ds, rfl, rfl, hl, hy, sl, sd, q⟩ := h
  cases rx
  cases rxs with
  | cons ry rt =>
    rename_i uy ut
    cases rt
    obtain ⟨bs, r1⟩ := Dp.reads I d y uy hy ry
    have hxs : PyData.canLayAll0 ds = true := SeqAt.canLay_of_shaped sl
    have hroom : X.A.units + 1 + min (PyData.depthAll ds) d.depth < cLine := room_in_shaped sd hu
    cases hl with
    | lst hs ha =>
      obtain ⟨its, rv, ⟨⟨cls, dd, data, sls⟩, n, ho, hc, hdn, hdt⟩, hlen⟩ := I.list hs
      simp only at hc hdt
      subst hc hdt
      obtain ⟨as, h4⟩ := Dp.readsAll I ds _ its ha rv
      have hmap : its.map (SeqAt.readOf s.heap) = ds := SeqAt.readsAll_map ds its as hxs h4
      refine call_meets PySem.F.slot_list_count ⟨_, ho, rfl⟩ PySem.F.entry_list_count (PySem.F.args_list_count_2 _ _)
        (SeqAt.list_countAt a its.toArray n dd sls uy (fun u => PyData.eqv (SeqAt.readOf s.heap u) d)) ⟨ho, SeqAt.items_eqAt (vs := its.toArray) (show ReadsAll s.heap its.toArray.toList ds as from h4) r1 hxs (SeqAt.canLay_of_shaped sd) hroom, ?_⟩
      refine ⟨.int (ds.countP fun z => PyData.eqv z d : Nat), H, I.tok _, ⟨s.toks, ?_⟩, q⟩
      show Value.int ((its.toArray.toList.countP (fun u => PyData.eqv (SeqAt.readOf s.heap u) d) : Nat) : Int) s.toks = _
      have e : its.countP (fun u => PyData.eqv (SeqAt.readOf s.heap u) d) = ds.countP fun z => PyData.eqv z d := by
        rw [← hmap, List.countP_map]; rfl
      rw [show its.toArray.toList = its from rfl, e]
variable {J : Jc} {o e : Expr} {apos cpos : Pos}
def oCnt (x y : D) : Option D := match x with
  | .lst ds => if y.ok = true ∧ (D.lst ds).ok = true then some (.int ((ds.countP fun z => PyData.eqv z.py y.py : Nat) : Int)) else none
  | _ => none
theorem pys_count {x : PyData} : ∀ ds : List D, ((D.pys ds).countP fun z => PyData.eqv z x) = ds.countP fun z => PyData.eqv z.py x
  | [] => by unfold D.pys; rfl
  | d :: ds => by unfold D.pys; rw [List.countP_cons, List.countP_cons, pys_count ds]
theorem je_count {f g : PuF} (C : Ctx X J) (ho : JB J X o (pb f)) (h : JE J X e (pu g)) (hbase : attributeBase o "count" X.env (eval o X.env) = eval o X.env := by rfl)
    (hfew : ((backTo cpos (starEach [e] X.env)).all (fun x => !x.1) && (backToKw cpos (keywordEach [] X.env)).all (fun x => x.1.isSome) && decide ([e].length + ([] : List Keyword).length + (if ([] : List Keyword).isEmpty then 0 else 1) < 30)) = true := by rfl)
    (hline : (apos.endLine == cpos.line) = true := by rfl) (hs : starEach [e] X.env = (false, eval e X.env) :: starEach [] X.env := by rfl) (hpl : (backTo cpos (starEach [] X.env)).any (·.1) = false := by rfl) : JE J X (.Call (.Attribute o "count" apos) [e] [] cpos) (pu (p2 oCnt f g)) :=
  PE.imp (pe_bm PySem.F.plainAttrs_list PySem.F.slot_list_count PySem.F.type_list_count (mt_countD (uu C 65)) ho (pa_cons h pa_nil hs) hbase hfew hline hs hpl) fun σ H Q ⟨W, ρ, S, P, X', q, x, k⟩ => by
    obtain ⟨c, e0, p⟩ := q
    obtain ⟨a0, b0, ea, eb, ec⟩ := p2_some e0
    unfold oCnt at ec
    split at ec
    · split at ec
      · rename_i ds hok
        cases ec
        refine ⟨W, ρ, S, (fun b ρ1 => ρ1 = ρ ∧ deref ρ b = f ρ), X', ⟨⟨_, ea⟩, fun b hb => ⟨rfl, hb⟩⟩, x, fun b ρ1 q1 W1 v H1 l1 S1 r1 => ?_⟩
        obtain ⟨rfl, hb⟩ := q1
        obtain ⟨a, vs, ev, h2, h3, h4⟩ := (S1.rdH r1 (hb.trans ea)).lst_ S1.sub
        subst ev
        refine ⟨.inl ⟨rfl, vs, .inl (.inl h2)⟩, W1, _, S1, (fun y ρ2 => ρ2 = _ ∧ y = b0), X', ⟨b0, eb, rfl, rfl⟩, x.mono l1, fun y ρ2 q2 W2 w H2 l2 S2 r2 => ?_⟩
        obtain ⟨rfl, rfl⟩ := q2
        obtain ⟨d1, g1⟩ := (S2.rdH (r1.mono l2) (hb.trans ea)).dp S2.sub (ok_pl hok.2)
        obtain ⟨d2, g2⟩ := (RepH.rep r2).dp S2.sub (ok_pl hok.1)
        have s1 := shaped_ok hok.2 g1
        unfold D.py at d1 s1
        rw [C.K]
        refine ⟨a, w, _, _, rfl, rfl, d1, d2, s1, shaped_ok hok.1 g2, ?_⟩
        rw [pys_count]
        exact k _ _ p W2 _ _ (l1.trans l2) S2 (.int _)
      · cases ec
    · cases ec
end
end DL

/-! DM: x, y, z = a, [..], c: the middle one an own list. -/
namespace DL
open PySem PySem.Spec PyProof.Rows L2
def dPar3 (i j l : Nat) (d1 : DE) (d2 : DF) (d3 : DE) : DS := fun ρ N => d1 ρ (fun r1 ρ1 => d2 ρ1 (fun r2 ρ2 => d3 ρ2 (fun r3 ρ3 => N.nx (((ρ3.set i (.val r1)).set j (.ml r2)).set l (.val r3))) noX) N.x) N.x
theorem dPar3_w {i j l : Nat} {d1 : DE} {d2 : DF} {d3 : DE} {ρ : Env} {N : DN} : dPar3 i j l d1 d2 d3 ρ N = d1 ρ (fun r1 ρ1 => d2 ρ1 (fun r2 ρ2 => d3 ρ2 (fun r3 ρ3 => N.nx (((ρ3.set i (.val r1)).set j (.ml r2)).set l (.val r3))) noX) N.x) N.x := rfl
section
variable {X : Cx} {J : Jc} {i j l : Nat} {a b c : Expr} {x y z : Str} {px py pz pt pt2 pos : Pos} {kt k2 : Nat}
theorem js_par3 {d1 : DE} {d2 : DF} {d3 : DE} (C : Ctx X J) (ha : JE J X a d1) (hb : JF J X b d2) (hc : ∀ h0, JE (J.at h0) X c d3) (hi : X.N[i]? = some x) (hj : X.N[j]? = some y) (hl : X.N[l]? = some z) (hij : i ≠ j) (hil : i ≠ l) (hjl : j ≠ l)
    (hx : X.env.scope.names.lookup x = some .local) (hy : X.env.scope.names.lookup y = some .local) (hz : X.env.scope.names.lookup z = some .local)
    (hw : swappedStores [.Tuple [.Name x px, .Name y py, .Name z pz] kt pt] (.Tuple [a, b, c] k2 pt2) X.env = pure (some [x, y, z])) (hs : swapsWithSole [.Tuple [.Name x px, .Name y py, .Name z pz] kt pt] (.Tuple [a, b, c] k2 pt2) pos.line X.env = pure false := by rfl)
    (he1 : starEach [a, b, c] X.env = (false, eval a X.env) :: starEach [b, c] X.env := by rfl) (he2 : starEach [b, c] X.env = (false, eval b X.env) :: starEach [c] X.env := by rfl) (he3 : starEach [c] X.env = (false, eval c X.env) :: starEach [] X.env := by rfl) :
    JS J X (.Assign [.Tuple [.Name x px, .Name y py, .Name z pz] kt pt] (.Tuple [a, b, c] k2 pt2) pos) (dPar3 i j l d1 d2 d3) :=
  PS.imp (ps_par3 C.calm C.nd hi hj hl hij hil hjl hx hy hz (pa_cons ha (pa_cons hb (pa_cons (te := tEAt J d3) ⟨fun pins s σ H Q I ⟨h0, q⟩ => (hc h0).run pins s σ H Q I q⟩ pa_nil he3) he2) he1) hw hs) fun E σ H ⟨W, ρ, S, N, q, r⟩ => by
    refine ⟨W, ρ, S, _, N.x, q, r.x, fun r1 ρ1 q1 W1 v1 H1 l1 S1 rp1 => ?_⟩
    refine ⟨W1, ρ1, S1, _, N.x, q1, (r.mono l1).x, fun r2 ρ2 q2 W2 p2 vs2 H2 l2 S2 n2 rl2 z2 => ?_⟩
    obtain ⟨g1, g2⟩ := w0c S2 n2
    refine ⟨upd J.H0 p2 (.lst vs2), W2, ρ2, S2.guest n2 vs2, _, noX, q2, XOk.no, fun r3 ρ3 q3 W3 v3 H3 l3 S3 rp3 => ?_⟩
    have gc := S3.guestC g1
    have gf := S3.guestF g2
    obtain ⟨H', rfl, n', S'⟩ := S3.unguest gc gf (S2.free n2).2.2
    refine ⟨v1, .ref p2, v3, rfl, ?_⟩
    exact r.nx _ W3 _ _ q3 ((l1.trans l2).trans l3) (((S'.setv (rp1.mono (l2.trans l3))).setm n' (rl2.mono l3) z2).setv rp3)
/-- the same where a name is a cell: a tuple is made and taken apart -/
theorem js_par3C {d1 : DE} {d2 : DF} {d3 : DE} (C : Ctx X J) (ha : JE J X a d1) (hb : JF J X b d2) (hc : ∀ h0, JE (J.at h0) X c d3) (hi : X.N[i]? = some x) (hj : X.N[j]? = some y) (hl : X.N[l]? = some z)
    (g1 : PG X (.Name x px) (gName i)) (g2 : PG X (.Name y py) (gName j)) (g3 : PG X (.Name z pz) (gName l))
    (hw : swappedStores [.Tuple [.Name x px, .Name y py, .Name z pz] kt pt] (.Tuple [a, b, c] k2 pt2) X.env = pure none := by rfl) (hs : swapsWithSole [.Tuple [.Name x px, .Name y py, .Name z pz] kt pt] (.Tuple [a, b, c] k2 pt2) pos.line X.env = pure false := by rfl)
    (h1 : (assignEach [.Tuple [.Name x px, .Name y py, .Name z pz] kt pt] X.env).map (·.2) = [assign (.Tuple [.Name x px, .Name y py, .Name z pz] kt pt) X.env] := by rfl)
    (e1 : (assignEach [.Name x px, .Name y py, .Name z pz] X.env).map (·.2) = assign (.Name x px) X.env :: (assignEach [.Name y py, .Name z pz] X.env).map (·.2) := by rfl)
    (e2 : (assignEach [.Name y py, .Name z pz] X.env).map (·.2) = assign (.Name y py) X.env :: (assignEach [.Name z pz] X.env).map (·.2) := by rfl)
    (e3 : (assignEach [.Name z pz] X.env).map (·.2) = assign (.Name z pz) X.env :: (assignEach [] X.env).map (·.2) := by rfl)
    (hn : (assignEach [.Name x px, .Name y py, .Name z pz] X.env).length = 3 := by rfl) (hst : (assignEach [.Name x px, .Name y py, .Name z pz] X.env).findIdx? (·.1) = none := by rfl)
    (he1 : starEach [a, b, c] X.env = (false, eval a X.env) :: starEach [b, c] X.env := by rfl) (he2 : starEach [b, c] X.env = (false, eval b X.env) :: starEach [c] X.env := by rfl) (he3 : starEach [c] X.env = (false, eval c X.env) :: starEach [] X.env := by rfl) :
    JS J X (.Assign [.Tuple [.Name x px, .Name y py, .Name z pz] kt pt] (.Tuple [a, b, c] k2 pt2) pos) (dPar3 i j l d1 d2 d3) :=
  PS.imp (ps_asg (pe_tup (pa_cons ha (pa_cons hb (pa_cons (te := tEAt J d3) ⟨fun pins s σ H Q I ⟨h0, q⟩ => (hc h0).run pins s σ H Q I q⟩ pa_nil he3) he2) he1)) (pg_tup C.calm (pgs_cons g1 (pgs_cons g2 (pgs_cons g3 pgs_nil e3) e2) e1) hn hst) hs hw h1) fun E σ H ⟨W, ρ, S, N, q, r⟩ => by
    refine ⟨W, ρ, S, _, N.x, q, r.x, fun r1 ρ1 q1 W1 v1 H1 l1 S1 rp1 => ?_⟩
    refine ⟨W1, ρ1, S1, _, N.x, q1, (r.mono l1).x, fun r2 ρ2 q2 W2 p2 vs2 H2 l2 S2 n2 rl2 z2 => ?_⟩
    obtain ⟨g1, g2⟩ := w0c S2 n2
    refine ⟨upd J.H0 p2 (.lst vs2), W2, ρ2, S2.guest n2 vs2, _, noX, q2, XOk.no, fun r3 ρ3 q3 W3 v3 H3 l3 S3 rp3 => ?_⟩
    have gc := S3.guestC g1
    have gf := S3.guestF g2
    obtain ⟨H', rfl, n', S'⟩ := S3.unguest gc gf (S2.free n2).2.2
    refine ⟨by show (3 : Nat) ≤ sizeLine; decide, fun a na => ?_⟩
    have lw : W3.le (W3.add a (.tup [v1, .ref p2, v3])) := Wd.le_add (S3.free na).1
    refine ⟨_, _, rfl, .inl (.inl upd_same), rfl, _, _, rfl, _, _, rfl, _, _, rfl, rfl, ?_⟩
    exact r.nx _ (W3.add a (.tup [v1, .ref p2, v3])) _ _ q3 (((l1.trans l2).trans l3).trans lw) (((((S'.setv (rp1.mono (l2.trans l3))).setm n' (rl2.mono l3) z2).setv rp3)).newF na)
end
end DL

/-! DM: a slice of a list, a tuple or a text, as a settled value. -/
namespace DL
open PySem PySem.Spec PyProof.Rows L2
section
variable {G : Gm} {X : Cx}
def oSlA : D → Option Int → Option Int → Option D
  | .lst ds, lo, hi => some (.lst (cutD ds lo hi))
  | d, lo, hi => oSlT d lo hi
def rSlA2 (K : PySem.W.Frag) : V → Option Int → Option Int → Hp → VK → Prop := fun x lo hi H Q => rSlTS K x lo hi H Q ∨ rSlL K x lo hi H Q
theorem sr_a : SlR X (rSlA2 X.K) := sr_ts.or sl_list
theorem ok_slA : SlOk G (rSlA2 G.K) oSlA := by
  intro W H x a c lo hi Q sb ra e k
  unfold oSlA at e
  split at e
  · rename_i ds
    cases e
    obtain ⟨p, vs, rfl, h1, h2, h3⟩ := ra.lst_ sb
    refine .inr ⟨p, vs, rfl, .inl (.inl h1), fun q nq => ?_⟩
    exact k _ _ _ (.inr ⟨q, _, nq, rfl, rfl⟩) (.lst (show upd W.F q (.lst (cutV vs lo hi)) q = _ from upd_same) ((cut_rep h2 lo hi).mono (Wd.le_add (sub_none sb nq))) (Nat.le_trans (cutD_len _ _ _) h3))
  · exact .inl (ok_slT W H x a c lo hi Q sb ra e k)
theorem cutA_l {xs : List D} {k : Int} (h : 0 ≤ k) : oSlA (.lst xs) (some k) none = some (.lst (xs.drop k.toNat)) := by
  obtain ⟨n, rfl⟩ := Int.eq_ofNat_of_zero_le h
  show some (D.lst (cutD xs (some (n : Int)) none)) = _
  rw [cutD_from]; rfl
theorem cutA_t {xs : List D} {k : Int} (h : 0 ≤ k) : oSlA (.tup xs) (some k) none = some (.tup (xs.drop k.toNat)) := cutT_1 h
theorem cutA_l0 {xs : List D} {k : Int} (h : 0 ≤ k) : oSlA (.lst xs) none (some k) = some (.lst (xs.take k.toNat)) := by
  obtain ⟨n, rfl⟩ := Int.eq_ofNat_of_zero_le h
  show some (D.lst (cutD xs none (some (n : Int)))) = _
  rw [cutD_to]; rfl
theorem cutA_t0 {xs : List D} {k : Int} (h : 0 ≤ k) : oSlA (.tup xs) none (some k) = some (.tup (xs.take k.toNat)) := cutT_0 h
end
end DL
namespace DL
open PySem PySem.Spec PyProof.Rows L2
/-- a tuple so many times -/
def oRepT : D → D → Option D
  | .tup xs, .int k => if xs ≠ [] ∧ 2 ≤ k ∧ k ≤ 1000 ∧ xs.length ≤ 1000 then some (.tup (List.replicate k.toNat xs).flatten) else none
  | _, _ => none
theorem ok_repT {G : Gm} : OpOk G (rRepT G.K) oRepT := by
  intro W H x y a b c Q sb ra rb e k
  unfold oRepT at e
  split at e
  · rename_i xs i
    split at e
    · rename_i hl
      cases e
      obtain ⟨h0, h1, h2, h3⟩ := hl
      obtain ⟨p, vs, rfl, hp, rp, zp⟩ := ra.tup_ sb
      refine ⟨p, i, vs, rfl, rb.int_, hp, ?_, h1, h2, by rw [rp.len]; exact h3, fun q nq => ?_⟩
      · intro hv
        rw [hv] at rp
        cases rp
        exact h0 rfl
      · refine k _ _ _ (.inr ⟨q, _, nq, rfl, rfl⟩) (rep_tup_new (sub_none sb nq) (repL_rep rp _) ?_)
        rw [List.length_flatten, List.map_replicate, List.sum_replicate_nat, sizeLine_eq]
        have := Nat.mul_le_mul (show i.toNat ≤ 1000 by omega) h3
        omega
    · cases e
  · cases e
end DL

/-! DM: sorted(dict([(k, ..), ..])), ints: each one once, in a row. -/
namespace DL
open PySem PySem.Spec PyProof.Rows L2
/-- each one once, at its first place -/
def uniqI (ks : List Int) : List Int := ks.foldl (fun acc k => if k ∈ acc then acc else acc ++ [k]) []
def keyOf : D → Option Int
  | .tup [.int k, _] => some k
  | _ => none
def keysOf : List D → Option (List Int)
  | [] => some []
  | d :: ds => (keyOf d).bind fun k => (keysOf ds).map (k :: ·)
theorem uniq_go (ks : List Int) : ∀ acc : List Int, acc.Nodup → (ks.foldl (fun acc k => if k ∈ acc then acc else acc ++ [k]) acc).Nodup ∧ ∀ x, x ∈ ks.foldl (fun acc k => if k ∈ acc then acc else acc ++ [k]) acc ↔ x ∈ acc ∨ x ∈ ks := by
  induction ks with
  | nil => exact fun acc h => ⟨h, fun x => by simp⟩
  | cons k ks ih =>
    intro acc h
    rw [List.foldl_cons]
    by_cases hk : k ∈ acc
    · rw [if_pos hk]
      obtain ⟨h1, h2⟩ := ih acc h
      refine ⟨h1, fun x => ?_⟩
      rw [h2, List.mem_cons]
      constructor
      · rintro (q | q)
        · exact .inl q
        · exact .inr (.inr q)
      · rintro (q | rfl | q)
        · exact .inl q
        · exact .inl hk
        · exact .inr q
    · rw [if_neg hk]
      obtain ⟨h1, h2⟩ := ih (acc ++ [k]) (by
        rw [List.nodup_append]
        exact ⟨h, by simp, fun a ha b hb e => by rw [List.mem_singleton] at hb; subst hb; subst e; exact hk ha⟩)
      refine ⟨h1, fun x => ?_⟩
      rw [h2, List.mem_append, List.mem_singleton, List.mem_cons]
      constructor
      · rintro ((q | q) | q)
        · exact .inl q
        · exact .inr (.inl q)
        · exact .inr (.inr q)
      · rintro (q | q | q)
        · exact .inl (.inl q)
        · exact .inl (.inr q)
        · exact .inr q
theorem uniq_nodup (ks : List Int) : (uniqI ks).Nodup := (uniq_go ks [] .nil).1
theorem uniq_mem {ks : List Int} {x : Int} : x ∈ uniqI ks ↔ x ∈ ks := by
  have := (uniq_go ks [] .nil).2 x
  unfold uniqI
  rw [this]
  simp
theorem uniq_len (ks : List Int) : (uniqI ks).length ≤ ks.length := by
  have : ∀ (ks acc : List Int), (ks.foldl (fun acc k => if k ∈ acc then acc else acc ++ [k]) acc).length ≤ acc.length + ks.length := by
    intro ks
    induction ks with
    | nil => intro acc; exact Nat.le_refl _
    | cons k ks ih =>
      intro acc
      rw [List.foldl_cons, List.length_cons]
      by_cases hk : k ∈ acc
      · rw [if_pos hk]
        have := ih acc
        omega
      · rw [if_neg hk]
        have := ih (acc ++ [k])
        rw [List.length_append, List.length_singleton] at this
        omega
  have := this ks []
  rw [List.length_nil, Nat.zero_add] at this
  exact this
section
variable {X : Cx} {J : Jc}
theorem ints_keys : ∀ {us : List Value} {ns : List Int}, Vals (ns.map V.int) us → IntsAre us ns := fun r => r.ints
/-- the keys of a merged dict, all ints -/
theorem put_keys (kvs : List (Key × V)) (ns : List Int) (k : Int) (v : V) (h : kvs.map (·.1) = ns.map Sum.inl) : (putK kvs (Sum.inl k) v).map (·.1) = (if k ∈ ns then ns else ns ++ [k]).map Sum.inl := by
  unfold putK
  have hm : (kvs.any fun kv => decide (kv.1 = Sum.inl k)) = decide (k ∈ ns) := by
    rw [Bool.eq_iff_iff, List.any_eq_true, decide_eq_true_eq]
    constructor
    · rintro ⟨q, hq, e⟩
      have : Sum.inl k ∈ kvs.map (·.1) := List.mem_map.mpr ⟨q, hq, of_decide_eq_true e⟩
      rw [h] at this
      obtain ⟨z, hz, e2⟩ := List.mem_map.mp this
      cases e2
      exact hz
    · intro hk
      have : (Sum.inl k : Key) ∈ kvs.map (·.1) := by rw [h]; exact List.mem_map.mpr ⟨k, hk, rfl⟩
      obtain ⟨q, hq, e⟩ := List.mem_map.mp this
      exact ⟨q, hq, decide_eq_true e⟩
  rw [hm]
  by_cases hk : k ∈ ns
  · rw [decide_eq_true hk, if_pos rfl, if_pos hk, List.map_map, ← h]
    exact List.map_congr_left fun q _ => by
      show (if q.1 = Sum.inl k then (q.1, v) else q).1 = q.1
      split <;> rfl
  · rw [decide_eq_false hk, if_neg Bool.false_ne_true, if_neg hk, List.map_append, List.map_append, h]; rfl
theorem merge_keys (ks : List Int) : ∀ (more kvs : List (Key × V)) (ns : List Int), more.map (·.1) = ks.map Sum.inl → kvs.map (·.1) = ns.map Sum.inl → (mergeK kvs more).map (·.1) = (ks.foldl (fun acc k => if k ∈ acc then acc else acc ++ [k]) ns).map Sum.inl := by
  induction ks with
  | nil =>
    intro more kvs ns h1 h2
    cases more with
    | nil => exact h2
    | cons _ _ => cases h1
  | cons k ks ih =>
    intro more kvs ns h1 h2
    cases more with
    | nil => cases h1
    | cons q more =>
      rw [List.map_cons, List.map_cons] at h1
      injection h1 with e1 e2
      obtain ⟨qk, qv⟩ := q
      have e1 : qk = Sum.inl k := e1
      subst e1
      show (mergeK (putK kvs (Sum.inl k) qv) more).map (·.1) = _
      rw [List.foldl_cons]
      exact ih more _ _ e2 (put_keys kvs ns k qv h2)
/-- sorted(d), its keys ints, any number of them -/
def rSortDI : List V → Hp → VK → Prop := fun xs H Q => ∃ (a : Addr) (kvs : List (Key × V)) (ns : List Int), xs = [V.ref a] ∧ Rd H a (.dK kvs) ∧ kvs.map (·.1) = ns.map Sum.inl ∧
  ∀ (ys : List Int) (p : Addr), ys.Perm ns → ys.Pairwise (· ≤ ·) → H p = none → Q (.ref p) (upd H p (.lst (ys.map V.int)))
theorem call_sortDI (hcalm : X.calm = true) : CallR X (.builtin "sorted") rSortDI := by
  intro pins s σ H xs us Q I r ⟨a, kvs, ns, ex, hd, hks, q⟩
  subst ex
  obtain ⟨u, eu, rx⟩ := vals1 r
  subst eu
  cases rx
  obtain ⟨z, lo, vs, rel, dd⟩ := dk_rd I.hok hd
  obtain ⟨ep, hat⟩ := dd.dictAt
  have keys : vs.map (·.1) = ns.map Sum.inl := rel.keys.symm.trans hks
  have many : vs.length = ns.length := by simpa using congrArg List.length keys
  have fits : vs.length ≤ sizeLine := by
    have e := congrArg List.length rel.keys
    rw [List.length_map, List.length_map] at e
    rw [← e]; exact z
  refine Calls.call_function_entry kind_sorted plain_sorted entry_sorted (args_sorted1 _) ?_
  unfold Builtin.«sorted»
  refine wpAny_bind (m := checkCount "sorted" 1 1 _) (wpAny_pure ?_)
  refine wpAny_bind (PySem.W.kdu_collect (A := X.A.in1) (PySem.W.kdl_dict (knd := mixKind X.prog X.w) (kvs := vs) (ep := ep) lo) (I.ok.hd hcalm) hat fits fun h1 tk got kept items => ?_)
  have vgot := keys_at (us := got.toList) (vs := vs) (by rw [Array.length_toList, items.1]) fun j v e => by
    obtain ⟨k, x, e1, e2⟩ := items.2 j v (by rw [← Array.getElem?_toList]; exact e)
    exact ⟨k, x, e1, e2⟩
  have ek : (vs.map fun p => kV p.1) = ns.map V.int := by
    have : (vs.map fun p => kV p.1) = (vs.map (·.1)).map kV := by rw [List.map_map]; rfl
    rw [this, keys, List.map_map]; rfl
  rw [ek] at vgot
  have gotI := vgot.ints
  have gl : got.toList.length ≤ sizeLine := by rw [Array.length_toList, items.1]; exact fits
  have I1 : Inv X pins σ H { s with heap := h1, toks := tk } := I.kept kept
  refine wpAny_bind (wpAny_newList ?_ gl)
  have at1 : (h1.push (seqObj "list" got.toList.toArray 0)).get? h1.objs.size = some (seqObj "list" got.toList.toArray 0) := Heap.get?_push_size _ rfl
  show wpAny _ _ _ _ _ { s with heap := h1.push (seqObj "list" got.toList.toArray 0), toks := tk }
  refine wpAny_bind (wpAny_holding (wpAny_call_entry slot_list_sort ⟨_, at1, rfl⟩ entry_list_sort (SrtO.list_sort_ord SrtO.swo_int at1 gl (fun h2 => SrtO.ints_sortable gotI h2) fun out o1 o2 => ⟨_, rfl, ?_⟩) (args_list_sort _)))
  obtain ⟨k1, k2, k3⟩ := SrtO.ints_out gotI o1 o2
  obtain ⟨e1, at2⟩ := sortedHeap_at (vs := got.toList) (out := out.toArray) at1
  have yl : ((out.map SrtO.iv).map V.int).length ≤ sizeLine := by
    rw [List.length_map, k2.length_eq, ← many]; exact fits
  refine wpAny_pure ⟨_, rfl, .ref h1.objs.size, upd H h1.objs.size (.lst ((out.map SrtO.iv).map V.int)), I1.laid (t' := tk) (fun b u e => ?_) (Nat.le_refl _) ⟨yl, out, e1, vals_of_ints k1, at2⟩, rfl, q _ _ k2 k3 (I1.hok.fresh (Nat.le_refl _))⟩
  have lt := Heap.lt_size e
  rw [sortedHeap_old (Nat.ne_of_lt lt) (by rw [size_push']; exact Nat.lt_succ_of_lt lt)]
  exact Heap.get?_push_of_some _ e
end
end DL
namespace DL
open PySem PySem.Spec PyProof.Rows L2
section
variable {X : Cx} {J : Jc} {e : Expr} {p p2 pos pos2 : Pos}
def dSD (d : DE) : DF := fun ρ P X => d ρ (fun r ρ' => ∃ ds ks, r = .lst ds ∧ keysOf ds = some ks ∧ P ((isort (uniqI ks)).map .int) ρ') X
theorem dSD_w {d : DE} {ρ : Env} {P : List D → Env → Prop} {X : DX} : dSD d ρ P X = d ρ (fun r ρ' => ∃ ds, r = .lst ds ∧ oe (keysOf ds) fun ks => P ((isort (uniqI ks)).map .int) ρ') X := by
  unfold dSD
  congr 1; funext r ρ'
  exact propext ⟨fun ⟨ds, ks, e1, e2, q⟩ => ⟨ds, e1, ks, e2, q⟩, fun ⟨ds, e1, ks, e2, q⟩ => ⟨ds, ks, e1, e2, q⟩⟩
/-- pairs in the list, by their places -/
theorem pairs_rep {G : Gm} {W : Wd} {H : Hp} (sb : Sub W H) : ∀ {vs : List V} {ds : List D} {ks : List Int}, RepL G W vs ds → keysOf ds = some ks → ∃ (ps : List Addr) (kvs : List (Key × V)), vs = ps.map V.ref ∧ Paired (fun p kv => SqT G.K H p [kV kv.1, kv.2]) ps kvs ∧ kvs.map (·.1) = ks.map Sum.inl
  | [], ds, ks, r, h => by
    cases r
    cases h
    exact ⟨[], [], rfl, .nil, rfl⟩
  | v :: vs, ds, ks, r, h => by
    cases r with
    | cons r1 rr =>
      rename_i d ds
      have h : ((keyOf d).bind fun k => (keysOf ds).map (k :: ·)) = some ks := h
      cases e1 : keyOf d with
      | none => rw [e1] at h; cases h
      | some k =>
        rw [e1] at h
        have h : (keysOf ds).map (k :: ·) = some ks := h
        cases e2 : keysOf ds with
        | none => rw [e2] at h; cases h
        | some ks' =>
          rw [e2] at h
          cases h
          obtain ⟨ps, kvs, h1, h2, h3⟩ := pairs_rep sb rr e2
          have hd : ∃ x, d = .tup [.int k, x] := by
            unfold keyOf at e1
            split at e1
            · cases e1; exact ⟨_, rfl⟩
            · cases e1
          obtain ⟨x, rfl⟩ := hd
          obtain ⟨a, ws, rfl, ht, r2⟩ : ∃ a ws, v = .ref a ∧ SqT G.K H a ws ∧ RepL G W ws [.int k, x] := by
            cases r1 with
            | tup ht r2 z => exact ⟨_, _, rfl, sqT_le sb ht, r2⟩
          obtain ⟨w2, rfl⟩ : ∃ w2, ws = [V.int k, w2] := by
            cases r2 with
            | cons q1 q2 =>
              cases q2 with
              | cons q3 q4 =>
                cases q4
                cases q1
                exact ⟨_, rfl⟩
          exact ⟨a :: ps, (Sum.inl k, w2) :: kvs, by rw [h1]; rfl, .cons ht h2, by rw [List.map_cons, h3]; rfl⟩
theorem jf_sortD {d : DE} (C : Ctx X J) (hg : Gl X "sorted") (hm : X.mg "sorted" = none) (hg2 : Gl X "dict") (hm2 : X.mg "dict" = none) (h : JE J X e d) (na : starEach [e] X.env = (false, eval e X.env) :: starEach [] X.env := by rfl) (npl : (backTo pos2 (starEach [] X.env)).any (·.1) = false := by rfl)
    (nb : starEach [.Call (.Name "dict" p2) [e] [] pos2] X.env = (false, eval (.Call (.Name "dict" p2) [e] [] pos2) X.env) :: starEach [] X.env := by rfl) (mpl : (backTo pos (starEach [] X.env)).any (·.1) = false := by rfl) : JF J X (.Call (.Name "sorted" p) [.Call (.Name "dict" p2) [e] [] pos2] [] pos) (dSD d) :=
  PE.imp (pe_blt (.fn "sorted" (call_sortDI C.calm) hm boot_sorted) hg (pa_cons (pe_blt (.ty "dict" (call_dictP C.calm) hm2 boot_dict) hg2 (pa_cons h pa_nil na) (by decide) (by decide) na npl) pa_nil nb) (by decide) (by decide) nb mpl) fun σ H Q ⟨W, ρ, S, P, X', q, x, k⟩ => by
    refine ⟨W, ρ, S, _, X', q, x, fun r ρ1 q1 W1 v H1 l1 S1 rr => ?_⟩
    obtain ⟨ds, ks, rfl, hk, pp⟩ := q1
    cases rr with
    | lst ha rl z =>
      rename_i a vs
      obtain ⟨ps, kvs, e1, e2, e3⟩ := pairs_rep S1.sub rl hk
      subst e1
      refine ⟨a, ps, kvs, rfl, ?_, ?_, fun p np => ?_⟩
      · exact .inl (.inl (S1.sub _ _ ha))
      · rw [C.K]; exact e2
      · have mk := merge_keys ks kvs [] [] e3 rfl
        refine ⟨p, _, uniqI ks, rfl, .inl upd_same, mk, fun ys p' h1 h2 np' => ?_⟩
        have ey : ys = isort (uniqI ks) := sorted_unique (h1.trans (isort_perm _).symm) h2 (isort_sorted _)
        subst ey
        refine k _ ρ1 pp W1 p' _ _ l1 (S1.newH np) np' (RepL.of_ints _) ?_
        have u := uniq_len ks
        have kl : ks.length = kvs.length := by
          have := congrArg List.length e3
          rw [List.length_map, List.length_map] at this
          exact this.symm
        have pl : kvs.length = ps.length := e2.length.symm
        have rl2 := rl.len
        rw [List.length_map] at rl2
        rw [List.length_map, (isort_perm _).length_eq]
        omega
end
end DL

/-! DMi: defs with defaults, all of whose arguments are written by place. -/
namespace DL
open PySem PySem.Spec PyProof.Rows L2
/-- a def of the text with so many defaults -/
structure FunW (K : PySem.W.Frag) (x qual : Str) (st : Stmt) (nd : Nat) (f : Addr) (fd : FuncData) : Prop where
  ex : ∃ (oc : Value) (od : Option Addr) (T : Addr) (o : Obj) (its : List Value) (n : Nat) (kV doc pm : Value) (an : Option Addr) (cdv ct : Value) (osl : Array (Option Value)),
    fd = PySem.W.fnOf x qual (defArgs st) (defBody st) (defScope st) (.ref T) kV doc pm an cdv ct ∧ K.lookup f = some ⟨oc, od, .func fd, osl⟩ ∧ PySem.W.codeIn K cdv qual = true ∧
    K.lookup T = some o ∧ o.data = .seq its.toArray n ∧ its.length = nd
  kp : PySem.W.keepIn K (.ref f) = true
theorem funw_mk {K : PySem.W.Frag} {x qual : Str} {st : Stmt} {nd : Nat} {f T : Addr} {oc tc : Value} {od an td : Option Addr} {osl tsl : Array (Option Value)} {its : Array Value} {n : Nat} {kV doc pm cdv ct : Value}
    (l : K.lookup f = some ⟨oc, od, .func (PySem.W.fnOf x qual (defArgs st) (defBody st) (defScope st) (.ref T) kV doc pm an cdv ct), osl⟩)
    (c : PySem.W.codeIn K cdv qual = true) (k : PySem.W.keepIn K (.ref f) = true) (lT : K.lookup T = some ⟨tc, td, .seq its n, tsl⟩) (hn : its.size = nd) :
    FunW K x qual st nd f (PySem.W.fnOf x qual (defArgs st) (defBody st) (defScope st) (.ref T) kV doc pm an cdv ct) :=
  ⟨⟨oc, od, T, _, its.toList, n, kV, doc, pm, an, cdv, ct, osl, rfl, l, c, lT, by simp, by simpa using hn⟩, k⟩
section
variable {P : Program} {w : World} {K : PySem.W.Frag} {mg : Str → Option Value} {base : Heap} {ps : List Str}
theorem FunW.binds {x qual : Str} {st : Stmt} {nd : Nat} {f : Addr} {fd : FuncData} (F : FunW K x qual st nd f fd)
    (h : ∀ (T : Addr) (kV doc pm : Value) (an : Option Addr) (cdv ct : Value) (us its : List Value), us.length = ps.length → its.length = nd →
      ∃ k, bindArgs (PySem.W.fnOf x qual (defArgs st) (defBody st) (defScope st) (.ref T) kV doc pm an cdv ct) ⟨us, []⟩ = seqItems? (.ref T) >>= k ∧ k (some its.toArray) = pure (ps.zip us)) : Binds K fd ps [] := by
  obtain ⟨oc, od, T, o, its, n, kV, doc, pm, an, cdv, ct, osl, rfl, lk, hcd, lT, oT, hl⟩ := F.ex
  intro s us X hlen
  obtain ⟨k, e1, e2⟩ := h T kV doc pm an cdv ct us its (by simpa using hlen) hl
  refine BindsTo.of_looks fun M => ?_
  rw [e1, List.append_nil]
  exact looks_items X lT oT (.of_pure e2)
/-- THE RULE: a def by its body's meaning -/
theorem fn_okBW {cA : Nat → Addr} {fl : Nat → List Str} {x qual : Str} {st : Stmt} {nd : Nat} {f : Addr} {fd : FuncData} {N ps : List Str} {k : Nat} (m : Nat) {d : Nat → DS} {sp : DSp} (F : FunW K x qual st nd f fd) (S : FnScope N ps (defScope st)) (hN : ps.length + (if m = 0 then 0 else 1) ≤ N.length)
    (body : ∀ (cdv : Value) (A : Around) (outer : List PySem.Env) (s : Shared) (H : Hp) (E : XK) (W : Wd) (B : Nat), Room (k + 2) (A.deeper (envOfC qual (defScope st) s.heap.objs.size f cdv)) →
      Ctx (cxOf (L2.CX P w) P w K mg base N qual (defScope st) f cdv A outer s H E) ⟨⟨K, cA, fl⟩, W, mask H, fun _ _ => .own 0, E, B⟩ → JSs ⟨⟨K, cA, fl⟩, W, mask H, fun _ _ => .own 0, E, B⟩ (cxOf (L2.CX P w) P w K mg base N qual (defScope st) f cdv A outer s H E) (defBody st) (d B))
    (sem : ∀ B ds PQ PX, B ≤ BIG → ds.length = ps.length → sp ds PQ PX → d B (startE N.length m ds) ⟨fun _ => PQ .non, PQ, fun _ => False, fun _ => False, PX⟩) :
    FnG P w K mg base (k + 3) f fd ps (liftSp ⟨K, cA, fl⟩ ps.length m sp) := by
  obtain ⟨oc, od, T, o, its, n, kV, doc, pm, an, cdv, ct, osl, rfl, lk, hcd, _, _, _⟩ := F.ex
  refine ⟨fun vs H Q E h => h.1, fun A outer s H args us vs Q E hg hr e0 hb r hsp => ?_⟩
  refine LamX.run_ofS (k := k + 2) lk hcd S hr e0 hb r hsp.1 fun hr => ?_
  obtain ⟨hl, W, ds, PQ, PX, sb, so, r, ⟨C, hC1, hC2⟩, hsp, kQ, kX⟩ := hsp
  have hu : (A.deeper (envOfC qual (defScope st) s.heap.objs.size f cdv)).units + 100 < cLine := by
    have := hr.un
    omega
  obtain ⟨B, hB1, hB2⟩ := least_turn so
  have hds : ds.length = ps.length := by rw [← r.len]; exact hl
  refine ⟨_, body cdv A outer s H E W (B + m) hr (ctx_fn hr hu S.nd hg), W, startE N.length m ds, sim_start sb so r hB1 (by have := hB2 C hC1; omega) (by rw [hds]; exact hN), _, sem _ ds PQ PX (by have := hB2 C hC1; omega) hds hsp, ?_⟩
  exact ⟨fun ρ W' σ H' n l s => kQ .non W' .non H' n (out_keep s.fin hB2) .non, fun r W' v H' n l o rp => kQ r W' v H' n (out_keep o hB2) rp, fun _ _ _ _ n => n.elim, fun _ _ _ _ n => n.elim, fun c es W' H' d n l o e => kX c es W' H' d n (out_keep o hB2) e⟩
theorem fn_okW {cA : Nat → Addr} {fl : Nat → List Str} {x qual : Str} {st : Stmt} {nd : Nat} {f : Addr} {fd : FuncData} {N ps : List Str} {k : Nat} (m : Nat) {d : DS} {sp : DSp} (F : FunW K x qual st nd f fd) (S : FnScope N ps (defScope st)) (hN : ps.length + (if m = 0 then 0 else 1) ≤ N.length)
    (body : ∀ (cdv : Value) (A : Around) (outer : List PySem.Env) (s : Shared) (H : Hp) (E : XK) (W : Wd) (B : Nat), Room (k + 2) (A.deeper (envOfC qual (defScope st) s.heap.objs.size f cdv)) →
      Ctx (cxOf (L2.CX P w) P w K mg base N qual (defScope st) f cdv A outer s H E) ⟨⟨K, cA, fl⟩, W, mask H, fun _ _ => .own 0, E, B⟩ → JSs ⟨⟨K, cA, fl⟩, W, mask H, fun _ _ => .own 0, E, B⟩ (cxOf (L2.CX P w) P w K mg base N qual (defScope st) f cdv A outer s H E) (defBody st) d)
    (sem : ∀ ds PQ PX, ds.length = ps.length → sp ds PQ PX → d (startE N.length m ds) ⟨fun _ => PQ .non, PQ, fun _ => False, fun _ => False, PX⟩) :
    FnG P w K mg base (k + 3) f fd ps (liftSp ⟨K, cA, fl⟩ ps.length m sp) := fn_okBW m (d := fun _ => d) F S hN body fun _ ds PQ PX _ h1 h2 => sem ds PQ PX h1 h2
end
end DL

/-! DMj: texts: sep.join(a list or a tuple of texts), text.count(text). -/
namespace DL
open PySem PySem.Spec PyProof.Rows L2
def asStrs : List D → Option (List Str)
  | [] => some []
  | .str b :: ds => (asStrs ds).map fun bs => b :: bs
  | _ :: _ => none
theorem asStrs_eq : ∀ {ds : List D} {bs : List Str}, asStrs ds = some bs → ds = bs.map .str
  | [], bs, h => by cases h; rfl
  | .str b :: ds, bs, h => by
    have h : (asStrs ds).map (fun bs => b :: bs) = some bs := h
    cases e : asStrs ds with
    | none => rw [e] at h; cases h
    | some cs =>
      rw [e] at h
      cases h
      rw [asStrs_eq e]; rfl
theorem asStrs_map : ∀ xs : List Str, asStrs (xs.map .str) = some xs
  | [] => rfl
  | x :: xs => by
    show (asStrs (xs.map D.str)).map _ = _
    rw [asStrs_map xs]; rfl
def joinS (a : Str) (ds : List D) : Option D := (asStrs ds).bind fun ys => if (ys.map (·.length)).sum + ys.length * a.length ≤ 16777216 ∧ sOk (Txt.join a ys) = true then some (.str (Txt.join a ys)) else none
def oJoin (a : Str) : D → Option D
  | .lst ds => joinS a ds
  | .tup ds => joinS a ds
  | _ => none
theorem joinS_inv {a : Str} {ds : List D} {c : D} (h : joinS a ds = some c) : ∃ ys : List Str, ds = ys.map .str ∧ (ys.map (·.length)).sum + ys.length * a.length ≤ 16777216 ∧ sOk (Txt.join a ys) = true ∧ c = .str (Txt.join a ys) := by
  unfold joinS at h
  cases e : asStrs ds with
  | none => rw [e] at h; cases h
  | some ys =>
    rw [e] at h
    have h : (if (ys.map (·.length)).sum + ys.length * a.length ≤ 16777216 ∧ sOk (Txt.join a ys) = true then some (D.str (Txt.join a ys)) else none) = some c := h
    split at h
    · rename_i q
      cases h
      exact ⟨ys, asStrs_eq e, q.1, q.2, rfl⟩
    · cases h
section
variable {G : Gm} {W : Wd}
theorem RepL.strs : ∀ {v : List V} {ns : List Str}, RepL G W v (ns.map D.str) → v = ns.map V.str := by
  intro v ns
  induction ns generalizing v with
  | nil => intro r; cases r; rfl
  | cons n ns ih =>
    intro r
    cases r with
    | cons h t => cases h; rw [ih t]; rfl
end
section
variable {X : Cx} {J : Jc} {o e : Expr} {apos cpos p : Pos}
theorem je_join {a : Str} {j : Nat} {f : PuF} (C : Ctx X J) (h : JB J X e (pb f)) (ha : sOk a = true := by decide +kernel) (hs : starEach [e] X.env = [(false, eval e X.env)] := by rfl)
    (hbase : attributeBase (.Constant (.str a) j p) "join" X.env (eval (.Constant (.str a) j p) X.env) = eval (.Constant (.str a) j p) X.env := by rfl) (hline : (apos.endLine == cpos.line) = true := by rfl) :
    JE J X (.Call (.Attribute (.Constant (.str a) j p) "join" apos) [e] [] cpos) (pu (p1 (oJoin a) f)) :=
  PE.imp (pe_join pe_str h hs hbase hline) fun σ H Q ⟨W, ρ, S, P, X', q, x, k⟩ => by
    obtain ⟨c, e0, pc⟩ := q
    obtain ⟨d, ed, ec⟩ := p1_some e0
    refine ⟨⟨a, rfl⟩, W, ρ, S, (fun b ρ1 => ρ1 = ρ ∧ deref ρ b = f ρ), X', ⟨⟨_, ed⟩, fun b hb => ⟨rfl, hb⟩⟩, x, fun b ρ1 q1 W1 v H1 l1 S1 r1 => ?_⟩
    obtain ⟨rfl, hb⟩ := q1
    have rr := S1.rdH r1 (hb.trans ed)
    have fin : ∀ (pp : Addr) (ds : List D) (vs : List V), v = .ref pp → (SqL X.K H1 pp vs ∨ SqT X.K H1 pp vs) → RepL J.G W1 vs ds → joinS a ds = some c →
        ∃ a_1 p, ∃ ys : List Str, V.str a = .str a_1 ∧ [v] = [.ref p] ∧ (SqL X.K H1 p (ys.map V.str) ∨ SqT X.K H1 p (ys.map V.str)) ∧ (ys.map (·.length)).sum + ys.length * a_1.length ≤ 16777216 ∧ Q (.str (Txt.join a_1 ys)) H1 := by
      intro pp ds vs ev hp rl hj
      obtain ⟨ys, rfl, h1, h2, rfl⟩ := joinS_inv hj
      have := RepL.strs rl
      subst this
      exact ⟨a, pp, ys, rfl, by rw [ev], hp, h1, k _ _ pc W1 _ _ l1 S1 (.str _ h2)⟩
    unfold oJoin at ec
    split at ec
    · obtain ⟨pp, vs, ev, h2, h3, h4⟩ := rr.lst_ S1.sub
      exact fin pp _ vs ev (.inl (.inl (.inl h2))) h3 ec
    · obtain ⟨pp, vs, ev, h2, h3, h4⟩ := rr.tup_ S1.sub
      refine fin pp _ vs ev (.inr ?_) h3 ec
      rw [C.K]
      exact h2
    · cases ec
/-- text.count(text) -/
def oSCnt : D → D → Option D
  | .str x, .str y => some (.int (Txt.count x y))
  | _, _ => none
theorem je_scount {f g : PuF} (ho : JE J X o (pu f)) (h : JE J X e (pu g)) (hs : starEach [e] X.env = [(false, eval e X.env)] := by rfl)
    (hbase : attributeBase o "count" X.env (eval o X.env) = eval o X.env := by rfl) (hline : (apos.endLine == cpos.line) = true := by rfl) :
    JE J X (.Call (.Attribute o "count" apos) [e] [] cpos) (pu (p2 oSCnt f g)) :=
  PE.imp (pe_m1 F.slot_str_count F.type_str_count mt_count ho h hs hbase hline) fun σ H Q ⟨W, ρ, S, P, X', q, x, k⟩ => by
    obtain ⟨c, e0, pc⟩ := q
    obtain ⟨a0, b0, ea, eb, ec⟩ := p2_some e0
    unfold oSCnt at ec
    split at ec
    · rename_i s t
      cases ec
      refine ⟨W, ρ, S, (fun y ρ1 => ρ1 = ρ ∧ y = D.str s), X', ⟨_, ea, rfl, rfl⟩, x, fun y ρ1 q1 W1 v H1 l1 S1 r1 => ?_⟩
      obtain ⟨rfl, rfl⟩ := q1
      cases r1
      refine ⟨⟨s, rfl⟩, W1, _, S1, (fun y ρ2 => ρ2 = _ ∧ y = D.str t), X', ⟨_, eb, rfl, rfl⟩, x.mono l1, fun y ρ2 q2 W2 w H2 l2 S2 r2 => ?_⟩
      obtain ⟨rfl, rfl⟩ := q2
      cases r2
      exact ⟨s, t, rfl, rfl, k _ _ pc W2 _ _ (l1.trans l2) S2 (.int _)⟩
    · cases ec
end
/-! a text of signs -/
def txt (l : List Nat) : Str := ⟨l.toArray⟩
theorem txt_len (l : List Nat) : (txt l).length = l.length := by simp [txt, Str.length]
theorem txt_tl (l : List Nat) : (txt l).cps.toList = l := rfl
theorem txt_inj {a b : List Nat} (h : txt a = txt b) : a = b := by
  have := congrArg (fun s : Str => s.cps.toList) h
  exact this
theorem txt_ok {l : List Nat} (h : l.length ≤ 16777216) (h2 : ∀ c ∈ l, c < 0x110000) : sOk (txt l) = true := by
  unfold sOk PyData.strOk
  rw [txt_len, sizeLine_eq, decide_eq_true (by omega), Bool.true_and]
  show l.toArray.all _ = true
  rw [← Array.all_toList]
  exact List.all_eq_true.mpr fun c hc => decide_eq_true (h2 c hc)
theorem txt_app (a b : List Nat) : txt a ++ txt b = txt (a ++ b) := TL.ext_tl (by rw [TL.tl_append]; rfl)
theorem join_txt (a : Str) (ha : a.cps.toList = []) : ∀ l : List Nat, Txt.join a (l.map fun c => txt [c]) = txt l := fun l => by
  rw [TL.join_eq]
  refine TL.ext_tl ?_
  rw [TL.tl_join, show TL.tl a = [] from ha]
  show _ = l
  have : ∀ l : List Nat, TL.joinL [] ((l.map fun c => txt [c]).map TL.tl) = l := by
    intro l
    induction l with
    | nil => rfl
    | cons c l ih =>
      cases l with
      | nil => rfl
      | cons d l =>
        show [c] ++ ([] ++ TL.joinL [] (((d :: l).map fun c => txt [c]).map TL.tl)) = _
        rw [ih]; rfl
  exact this l
theorem oJoin_txt {a : Str} (ha : a.cps.toList = []) {l : List Nat} (h : l.length ≤ 10000000) (h2 : ∀ c ∈ l, c < 0x110000) : oJoin a (.lst (l.map fun c => .str (txt [c]))) = some (.str (txt l)) := by
  show joinS a _ = _
  unfold joinS
  have e : l.map (fun c => D.str (txt [c])) = (l.map fun c => txt [c]).map .str := by rw [List.map_map]; rfl
  rw [e, asStrs_map]
  show (if _ then _ else _) = _
  have la : a.length = 0 := by
    show a.cps.size = 0
    rw [← Array.length_toList, ha]; rfl
  have sm : ∀ l : List Nat, ((l.map fun c => txt [c]).map (·.length)).sum = l.length := by
    intro l
    induction l with
    | nil => rfl
    | cons c l ih =>
      rw [List.map_cons, List.map_cons, List.sum_cons, ih, txt_len]; simp; omega
  rw [join_txt a ha, if_pos ⟨by rw [sm, la]; omega, txt_ok (by omega) h2⟩]
theorem startE_pos {n m : Nat} {ds : List D} (h : m ≠ 0) : startE n m ds = ds.map .val ++ (List.replicate (n - ds.length - 1) .un ++ [.fuel m]) := by
  unfold startE
  rw [if_neg h, if_neg h]
end DL

namespace K03
open PySem PySem.Spec PyProof.Rows L2 DL
def isI : D → Bool
  | .int _ => true
  | _ => false
def wi (d : D) (lo hi : Int) : Bool := match d with
  | .int i => decide (lo ≤ i) && decide (i ≤ hi)
  | _ => false
def incD : List D → Bool
  | .int a :: .int b :: xs => decide (a < b) && incD (.int b :: xs)
  | _ => true
/-- a round -/
def isRd (d : D) : Bool := match d with
  | .tup [p, os] => wi p 1 240 && match p, os with
    | .int p, .tup os => os.all (fun o => wi o 0 (p - 1)) && incD os
    | _, _ => false
  | _ => false
structure RdOk (p : Int) (O : List Int) : Prop where
  p1 : 1 ≤ p
  p2 : p ≤ 240
  lt : ∀ o ∈ O, 0 ≤ o ∧ o < p
  inc : O.Pairwise (· < ·)
def rdOf : D → Option (Int × List Int)
  | .tup [.int p, .tup os] => (asInts os).map fun O => (p, O)
  | _ => none
def hasI (O : List Int) (x : Int) : Bool := O.any fun o => decide (o = x)
/-- the word of a round: its signs -/
def bitsL (p : Int) (O : List Int) : List Nat := (List.range p.toNat).map fun i : Nat => if hasI O i then 49 else 48
def turnL (p : Int) (O : List Int) (b : Int) : List Int := isort (O.map fun o => (o + b) % p)
def mirL (p : Int) (O : List Int) (b : Int) : List Int := isort (O.map fun o => (b - o) % p)
/-- the least turn that changes nothing -/
def perO (p : Int) (O : List Int) : Nat := ((List.range p.toNat).find? fun i : Nat => decide (turnL p O ((i : Int) + 1) = O)).getD 0 + 1
/-- the same by the word -/
def perL (l : List Nat) : Option Int := least (((List.range l.length).filter fun i : Nat => decide (l.length % (i + 1) = 0) && decide (l.drop (i + 1) ++ l.take (i + 1) = l)).map fun i : Nat => (i : Int) + 1)
def axL (p : Int) (O : List Int) : List Int := (rngI p.toNat).filter fun b => decide (mirL p O b = O)
def sp__law_plain : DSp := spP 9
theorem sp__law_plain_w {Q : D → Prop} {X : Nat → List D → Prop} {d : D} : sp__law_plain [d] Q X = (sd (d.pl = true ∧ d.dep < 9) (Q (.bl true))) := spP_w (n := 8)
def sp__law_mixed : DSp := spMixed
def sp__law_draw : DSp := spDraw
theorem sp__law_draw_w {Q : D → Prop} {X : Nat → List D → Prop} {room : Int} : sp__law_draw [.st, .int room] Q X = (sd (0 < room ∧ room < 2 ^ 200) (anyI room Q)) := rfl
def sp__law_pick : DSp := spPick
theorem sp__law_pick_w {Q : D → Prop} {X : Nat → List D → Prop} {s : D} : sp__law_pick [.st, s] Q X = (oe (seqOf s) fun xs => sd (0 < xs.length ∧ xs.length ≤ 2 ^ 24) (alls xs Q)) := rfl
def sp__law_is : DSp := spIs
theorem sp__law_is_w {Q : D → Prop} {X : Nat → List D → Prop} {a b : D} : sp__law_is [a, b] Q X = (sd (isG a ∧ isG b) (Q (.bl (sameD a b)))) := rfl
def sp_is_integer : DSp := fun ds Q X => match ds with
  | [d] => sd (d.pl = true) (Q (.bl (isI d)))
  | _ => False
theorem sp_is_integer_w {Q : D → Prop} {X : Nat → List D → Prop} {d : D} : sp_is_integer [d] Q X = (sd (d.pl = true) (Q (.bl (isI d)))) := rfl
def sp_is_between : DSp := fun ds Q X => match ds with
  | [d, .int lo, .int hi] => sd (d.pl = true) (Q (.bl (wi d lo hi)))
  | _ => False
theorem sp_is_between_w {Q : D → Prop} {X : Nat → List D → Prop} {d : D} {lo hi : Int} : sp_is_between [d, .int lo, .int hi] Q X = (sd (d.pl = true) (Q (.bl (wi d lo hi)))) := rfl
def sp_is_rising : DSp := fun ds Q X => match ds with
  | [.tup os] => oe (asInts os) fun O => Q (.bl (incD (O.map .int)))
  | _ => False
theorem sp_is_rising_w {Q : D → Prop} {X : Nat → List D → Prop} {os : List D} : sp_is_rising [.tup os] Q X = (oe (asInts os) fun O => Q (.bl (incD (O.map .int)))) := rfl
def sp_is_round : DSp := fun ds Q X => match ds with
  | [d] => sd (d.pl = true) (Q (.bl (isRd d)))
  | _ => False
theorem sp_is_round_w {Q : D → Prop} {X : Nat → List D → Prop} {d : D} : sp_is_round [d] Q X = (sd (d.pl = true) (Q (.bl (isRd d)))) := rfl
def sp_need_round : DSp := fun ds Q X => match ds with
  | [d] => sd (d.pl = true) (wif (isRd d) (Q .non) (X 1 []))
  | _ => False
theorem sp_need_round_w {Q : D → Prop} {X : Nat → List D → Prop} {d : D} : sp_need_round [d] Q X = (sd (d.pl = true) (wif (isRd d) (Q .non) (X 1 []))) := rfl
def sp_mirrored_by : DSp := fun ds Q X => match ds with
  | [.tup [.int p, .tup os], .int b] => oe (asInts os) fun O => sd (RdOk p O ∧ 0 ≤ b ∧ b ≤ 240) (Q (.tup [.int p, .tup ((mirL p O b).map .int)]))
  | _ => False
theorem sp_mirrored_by_w {Q : D → Prop} {X : Nat → List D → Prop} {p b : Int} {os : List D} : sp_mirrored_by [.tup [.int p, .tup os], .int b] Q X = (oe (asInts os) fun O => sd (RdOk p O ∧ 0 ≤ b ∧ b ≤ 240) (Q (.tup [.int p, .tup ((mirL p O b).map .int)]))) := rfl
def sp_word_by : DSp := fun ds Q X => match ds with
  | [.tup [.int p, .tup os]] => oe (asInts os) fun O => sd (RdOk p O) (Q (.str (txt (bitsL p O))))
  | _ => False
theorem sp_word_by_w {Q : D → Prop} {X : Nat → List D → Prop} {p : Int} {os : List D} : sp_word_by [.tup [.int p, .tup os]] Q X = (oe (asInts os) fun O => sd (RdOk p O) (Q (.str (txt (bitsL p O))))) := rfl
def sp_period_of : DSp := fun ds Q X => match ds with
  | [.str w] => sd (w.length ≤ 240) (oe (perL w.cps.toList) fun n => Q (.int n))
  | _ => False
theorem sp_period_of_w {Q : D → Prop} {X : Nat → List D → Prop} {w : Str} : sp_period_of [.str w] Q X = (sd (w.length ≤ 240) (oe (perL w.cps.toList) fun n => Q (.int n))) := rfl
def sp_period : DSp := fun ds Q X => match ds with
  | [d] => sd (d.pl = true) (wif (isRd d) (oe (rdOf d) fun z => Q (.int (perO z.1 z.2 : Nat))) (X 1 []))
  | _ => False
theorem sp_period_w {Q : D → Prop} {X : Nat → List D → Prop} {d : D} : sp_period [d] Q X = (sd (d.pl = true) (wif (isRd d) (oe (rdOf d) fun z => Q (.int (perO z.1 z.2 : Nat))) (X 1 []))) := rfl
def sp_axes : DSp := fun ds Q X => match ds with
  | [d] => sd (d.pl = true) (wif (isRd d) (oe (rdOf d) fun z => Q (.lst ((axL z.1 z.2).map .int))) (X 1 []))
  | _ => False
theorem sp_axes_w {Q : D → Prop} {X : Nat → List D → Prop} {d : D} : sp_axes [d] Q X = (sd (d.pl = true) (wif (isRd d) (oe (rdOf d) fun z => Q (.lst ((axL z.1 z.2).map .int))) (X 1 []))) := rfl
def sp__law_round : DSp := fun ds Q X => match ds with
  | [.st, .int m] => sd (1 ≤ m ∧ m ≤ 240) (fora (fun z : Int × List Int => RdOk z.1 z.2 ∧ z.1 ≤ m) fun z => Q (.tup [.int z.1, .tup (z.2.map .int)]))
  | _ => False
theorem sp__law_round_w {Q : D → Prop} {X : Nat → List D → Prop} {m : Int} : sp__law_round [.st, .int m] Q X = (sd (1 ≤ m ∧ m ≤ 240) (fora (fun z : Int × List Int => RdOk z.1 z.2 ∧ z.1 ≤ m) fun z => Q (.tup [.int z.1, .tup (z.2.map .int)]))) := rfl
def sp__law_odd_round : DSp := fun ds Q X => match ds with
  | [.st] => fora (fun d : D => d.pl = true ∧ isRd d = false) fun d => Q d
  | _ => False
theorem sp__law_odd_round_w {Q : D → Prop} {X : Nat → List D → Prop}  : sp__law_odd_round [.st] Q X = (fora (fun d : D => d.pl = true ∧ isRd d = false) fun d => Q d) := rfl
def sp__law_turned : DSp := fun ds Q X => match ds with
  | [.tup [.int p, .tup os], .int b] => oe (asInts os) fun O => sd (RdOk p O ∧ 0 ≤ b ∧ b ≤ 240) (Q (.tup [.int p, .tup ((turnL p O b).map .int)]))
  | _ => False
theorem sp__law_turned_w {Q : D → Prop} {X : Nat → List D → Prop} {p b : Int} {os : List D} : sp__law_turned [.tup [.int p, .tup os], .int b] Q X = (oe (asInts os) fun O => sd (RdOk p O ∧ 0 ≤ b ∧ b ≤ 240) (Q (.tup [.int p, .tup ((turnL p O b).map .int)]))) := rfl
def sp__law_mirrored : DSp := fun ds Q X => match ds with
  | [.tup [.int p, .tup os], .int b] => oe (asInts os) fun O => sd (RdOk p O ∧ 0 ≤ b ∧ b ≤ 240) (Q (.tup [.int p, .tup ((mirL p O b).map .int)]))
  | _ => False
theorem sp__law_mirrored_w {Q : D → Prop} {X : Nat → List D → Prop} {p b : Int} {os : List D} : sp__law_mirrored [.tup [.int p, .tup os], .int b] Q X = (oe (asInts os) fun O => sd (RdOk p O ∧ 0 ≤ b ∧ b ≤ 240) (Q (.tup [.int p, .tup ((mirL p O b).map .int)]))) := rfl
def WS := And.intro @sp__law_plain_w (And.intro @sp__law_draw_w (And.intro @sp__law_pick_w (And.intro @sp__law_is_w (And.intro @sp_is_integer_w (And.intro @sp_is_between_w (And.intro @sp_is_rising_w (And.intro @sp_is_round_w (And.intro @sp_need_round_w (And.intro @sp_mirrored_by_w (And.intro @sp_word_by_w (And.intro @sp_period_of_w (And.intro @sp_period_w (And.intro @sp_axes_w (And.intro @sp__law_round_w (And.intro @sp__law_odd_round_w (And.intro @sp__law_turned_w (@sp__law_mirrored_w)))))))))))))))))
def topS (i : Nat) : Stmt := PySem.Challenge.pw_barhouse_k03_whole_own_turns_and_axes.main.body.getD i (.Pass ⟨0, 0, 0, 0⟩)
def flD : Nat → List Str
  | _ => []
def nCls : Nat := 2
def subC (c k : Nat) : Bool := (c == 0 && k == 0) || (c == 1 && k == 0) || (c == 1 && k == 1)
def isR (c : Nat) : Bool := decide (c < nCls)
def isC (k : Nat) : D → Option Bool
  | .exc c _ => if c < nCls then some (subC c k) else none
  | .st => none
  | .scr _ => none
  | _ => some false
theorem isC_out {k n : Nat} {ds : List D} : isC k (.exc (n + 2) ds) = none := by
  show (if n + 2 < 2 then some (subC (n + 2) k) else none) = none
  rw [if_neg (by omega)]
theorem isR_out {n : Nat} : isR (n + 2) = false := decide_eq_false (by show ¬ (n + 2 < 2); omega)
theorem isC_pl (k : Nat) (d : D) (h1 : ∀ c ds, d ≠ .exc c ds) (h2 : d ≠ .st) (h3 : ∀ ns, d ≠ .scr ns) : isC k d = some false := by
  cases d with
  | exc c ds => exact absurd rfl (h1 c ds)
  | st => exact absurd rfl h2
  | scr ns => exact absurd rfl (h3 ns)
  | _ => rfl
abbrev btL : List Str := ["abs", "all", "bool", "dict", "int", "isinstance", "len", "list", "min", "range", "repr", "sorted", "str", "tuple", "zip"]
abbrev kws_is_integer : List (Nat × List Str × List Nat) := []
abbrev kws_is_between : List (Nat × List Str × List Nat) := []
abbrev kws_is_rising : List (Nat × List Str × List Nat) := []
abbrev kws_is_round : List (Nat × List Str × List Nat) := []
abbrev kws_need_round : List (Nat × List Str × List Nat) := []
abbrev kws_mirrored_by : List (Nat × List Str × List Nat) := []
abbrev kws_word_by : List (Nat × List Str × List Nat) := []
abbrev kws_period_of : List (Nat × List Str × List Nat) := []
abbrev kws_period : List (Nat × List Str × List Nat) := [(0, ["circle"], [0])]
abbrev kws_axes : List (Nat × List Str × List Nat) := [(0, ["circle"], [0])]
abbrev kws__law_mixed : List (Nat × List Str × List Nat) := []
abbrev kws__law_draw : List (Nat × List Str × List Nat) := []
abbrev kws__law_pick : List (Nat × List Str × List Nat) := []
abbrev kws__law_plain : List (Nat × List Str × List Nat) := []
abbrev kws__law_is : List (Nat × List Str × List Nat) := []
abbrev kws__law_round : List (Nat × List Str × List Nat) := []
abbrev kws__law_turned : List (Nat × List Str × List Nat) := []
abbrev kws__law_mirrored : List (Nat × List Str × List Nat) := []
abbrev kws__law_odd_round : List (Nat × List Str × List Nat) := []
abbrev kws_law : List (Nat × List Str × List Nat) := []
/-! is_integer -/
abbrev s_is_integer : Stmt := topS 4
def N_is_integer : List Str := ["value"]
theorem fs_is_integer : FnScope N_is_integer ["value"] (defScope s_is_integer) := ⟨rfl, rfl, rfl, by decide +kernel, rfl, by decide +kernel, by decide +kernel⟩
def d_is_integer : DS :=
 (dBlk [(dRet (pu (pAnd (p1 (oIsT "int") (rd 0)) (pNot (p1 (oIsT "bool") (rd 0))))))])
theorem wk_is_integer {P : Program} {w : World} {K : PySem.W.Frag} {mg : Str → Option Value} {base : Heap} {cA : Nat → Addr} {fa : Addr} (BB : BT mg btL)  {cdv : Value} {A : Around} {outer : List PySem.Env} {s : Shared} {H : Hp} {E : XK} {W : Wd} {B : Nat} (hr : Room 2 (A.deeper (envOfC "is_integer" (defScope s_is_integer) s.heap.objs.size fa cdv))) (C : Ctx (cxOf (L2.CX P w) P w K mg base N_is_integer "is_integer" (defScope s_is_integer) fa cdv A outer s H E) ⟨⟨K, cA, flD⟩, W, mask H, fun _ _ => .own 0, E, B⟩) : JSs ⟨⟨K, cA, flD⟩, W, mask H, fun _ _ => .own 0, E, B⟩ (cxOf (L2.CX P w) P w K mg base N_is_integer "is_integer" (defScope s_is_integer) fa cdv A outer s H E) (defBody s_is_integer) (d_is_integer) :=
 (jss_cons (js_ret (je_andP (je_isTP (T := "int") C rfl BB.get (jb_own (pv 0)) (pe_bty BB.get rfl)) (je_one (je_notP (je_isTP (T := "bool") C rfl BB.get (jb_own (pv 0)) (pe_bty BB.get rfl))))))
 jss_nil)
/-! is_between -/
abbrev s_is_between : Stmt := topS 6
def N_is_between : List Str := ["value", "low", "high"]
theorem fs_is_between : FnScope N_is_between ["value", "low", "high"] (defScope s_is_between) := ⟨rfl, rfl, rfl, by decide +kernel, rfl, by decide +kernel, by decide +kernel⟩
def d_is_between : DS :=
 (dBlk [(dRet (dAndV (dCall 0 sp_is_integer [(dV (pu (rdv 0)))]) (pu (p3 oLe oLe (rd 1) (rd 0) (rd 2)))))])
theorem wk_is_between {P : Program} {w : World} {K : PySem.W.Frag} {mg : Str → Option Value} {base : Heap} {cA : Nat → Addr} {fa : Addr} (BB : BT mg btL) (T_is_integer : FT P w K mg base ⟨K, cA, flD⟩ "is_integer" ["value"] 3 0 sp_is_integer kws_is_integer) {cdv : Value} {A : Around} {outer : List PySem.Env} {s : Shared} {H : Hp} {E : XK} {W : Wd} {B : Nat} (hr : Room 3 (A.deeper (envOfC "is_between" (defScope s_is_between) s.heap.objs.size fa cdv))) (C : Ctx (cxOf (L2.CX P w) P w K mg base N_is_between "is_between" (defScope s_is_between) fa cdv A outer s H E) ⟨⟨K, cA, flD⟩, W, mask H, fun _ _ => .own 0, E, B⟩) : JSs ⟨⟨K, cA, flD⟩, W, mask H, fun _ _ => .own 0, E, B⟩ (cxOf (L2.CX P w) P w K mg base N_is_between "is_between" (defScope s_is_between) fa cdv A outer s H E) (defBody s_is_between) (d_is_between) :=
 (jss_cons (js_ret (je_and (je_ct C T_is_integer (hr.mono (by decide)) rfl (ja_cons (jv (je_var (pv 0))) ja_nil)) (je_one (je_chP op_le ok_le op_le ok_le (jb_own (pv 1)) (jb_own (pv 0)) (jb_own (pv 2))))))
 jss_nil)
/-! is_rising -/
abbrev s_is_rising : Stmt := topS 7
def N_is_rising : List Str := ["values", "one", "other"]
theorem fs_is_rising : FnScope N_is_rising ["values"] (defScope s_is_rising) := ⟨rfl, rfl, rfl, by decide +kernel, rfl, by decide +kernel, by decide +kernel⟩
def d_is_rising : DS :=
 (dBlk [(dRet (dCb bAll [(dV (dFz (dComp (dZip (pu (rdv 0)) (pu (pSl oSlT (rd 0) (.at (fun _ => some (.int 1))) .no))) [1, 2] (tgT [(tgN 1), (tgN 2)]) dYes (pu (p2 oLt (rd 1) (rd 2))))))]))])
theorem wk_is_rising {P : Program} {w : World} {K : PySem.W.Frag} {mg : Str → Option Value} {base : Heap} {cA : Nat → Addr} {fa : Addr} (BB : BT mg btL)  {cdv : Value} {A : Around} {outer : List PySem.Env} {s : Shared} {H : Hp} {E : XK} {W : Wd} {B : Nat} (hr : Room 2 (A.deeper (envOfC "is_rising" (defScope s_is_rising) s.heap.objs.size fa cdv))) (C : Ctx (cxOf (L2.CX P w) P w K mg base N_is_rising "is_rising" (defScope s_is_rising) fa cdv A outer s H E) ⟨⟨K, cA, flD⟩, W, mask H, fun _ _ => .own 0, E, B⟩) : JSs ⟨⟨K, cA, flD⟩, W, mask H, fun _ _ => .own 0, E, B⟩ (cxOf (L2.CX P w) P w K mg base N_is_rising "is_rising" (defScope s_is_rising) fa cdv A outer s H E) (defBody s_is_rising) (d_is_rising) :=
 (jss_cons (js_ret (je_bO (bo_all C BB) rfl (ja_cons (jv (jfz (jf_lc C (own := [("one", 1), ("other", 2)]) (ji_zip C rfl BB.get (je_var (pv 0)) (je_slP sr_ts ok_slT (jb_own (pv 0)) (jo_some je_int) jo_none)) (blkOk_by (by rfl)) (fun _ _ _ _ _ _ => (jg_tup C.blk (jgs_cons (jg_name (pg_name C.nd (i := 1) rfl (by first | exact .inl rfl | exact .inr rfl))) (jgs_cons (jg_name (pg_name C.nd (i := 2) rfl (by first | exact .inl rfl | exact .inr rfl))) jgs_nil)))) (fun _ _ _ _ _ _ => jts_nil) (fun _ _ _ _ _ _ => (je_cmpP op_lt ok_lt (jb_own (pv 1)) (jb_own (pv 2)) (nomark _)))))) ja_nil)))
 jss_nil)
/-! is_round -/
abbrev s_is_round : Stmt := topS 10
def N_is_round : List Str := ["thing", "pulses", "onsets", "onset"]
theorem fs_is_round : FnScope N_is_round ["thing"] (defScope s_is_round) := ⟨rfl, rfl, rfl, by decide +kernel, rfl, by decide +kernel, by decide +kernel⟩
def d_is_round : DS :=
 (dBlk [(dIf (dOr (pt (pNot (p1 (oIsT "tuple") (rd 0)))) (dOr (pt (p2 oNe (pC bLen [(rd 0)]) (fun _ => some (.int 2)))) (dNot (dTst (dCall 0 sp_is_between [(dV (pu (p2 oIx (rd 0) (fun _ => some (.int 0))))), (dV (pu (fun _ => some (.int 1)))), (dV (pu (fun _ => some (.int 240))))])))))
 (dBlk [(dRet (pu (fun _ => some (.bl false))))])
 (dBlk [])),
 (dAsg (pu (rdv 0)) (tgT [(tgN 1), (tgN 2)])),
 (dIf (dOr (pt (pNot (p1 (oIsT "tuple") (rd 2)))) (dNot (dTst (dCb bAll [(dV (dFz (dComp (dIt (pu (rdv 2))) [3] (tgN 3) dYes (dCall 0 sp_is_between [(dV (pu (rdv 3))), (dV (pu (fun _ => some (.int 0)))), (dV (pu (p2 oSub (rd 1) (fun _ => some (.int 1)))))]))))]))))
 (dBlk [(dRet (pu (fun _ => some (.bl false))))])
 (dBlk [])),
 (dRet (dCall 0 sp_is_rising [(dV (pu (rdv 2)))]))])
theorem wk_is_round {P : Program} {w : World} {K : PySem.W.Frag} {mg : Str → Option Value} {base : Heap} {cA : Nat → Addr} {fa : Addr} (BB : BT mg btL) (c_MOST_PULSES : ∃ t, mg "MOST_PULSES" = some (.int 240 t)) (T_is_between : FT P w K mg base ⟨K, cA, flD⟩ "is_between" ["value", "low", "high"] 4 0 sp_is_between kws_is_between) (T_is_rising : FT P w K mg base ⟨K, cA, flD⟩ "is_rising" ["values"] 3 0 sp_is_rising kws_is_rising) {cdv : Value} {A : Around} {outer : List PySem.Env} {s : Shared} {H : Hp} {E : XK} {W : Wd} {B : Nat} (hr : Room 4 (A.deeper (envOfC "is_round" (defScope s_is_round) s.heap.objs.size fa cdv))) (C : Ctx (cxOf (L2.CX P w) P w K mg base N_is_round "is_round" (defScope s_is_round) fa cdv A outer s H E) ⟨⟨K, cA, flD⟩, W, mask H, fun _ _ => .own 0, E, B⟩) : JSs ⟨⟨K, cA, flD⟩, W, mask H, fun _ _ => .own 0, E, B⟩ (cxOf (L2.CX P w) P w K mg base N_is_round "is_round" (defScope s_is_round) fa cdv A outer s H E) (defBody s_is_round) (d_is_round) :=
 (jss_cons (js_if (jt_w (jw_or (jt_notP (jt_valP (je_isTP (T := "tuple") C rfl BB.get (jb_own (pv 0)) (pe_bty BB.get rfl)))) (jw_or (jt_cmpP (op_neD (uu C 64)) ok_ne (jpb (je_bOP (fs := [(rd 0)]) (bo_len C BB) rfl (jb_cons (jb_own (pv 0)) ja_nil))) (jpb je_int) (nomark _)) (jw_or1 (jt_not (jt_val (je_ct C T_is_between (hr.mono (by decide)) rfl (ja_cons (jv (je_ixP ix_seq ok_ix (jb_own (pv 0)) (jpb je_int))) (ja_cons (jv je_int) (ja_cons (jv (je_gint c_MOST_PULSES rfl)) ja_nil))))))))))
 (jss_cons (js_ret je_bl)
 jss_nil)
 jss_nil)
 (jss_cons (js_asg (vs := [1, 2]) (je_var (pv 0)) (jg_tup C (jgs_cons (jg_name (pg_name C.nd (i := 1) rfl (by first | exact .inl rfl | exact .inr rfl))) (jgs_cons (jg_name (pg_name C.nd (i := 2) rfl (by first | exact .inl rfl | exact .inr rfl))) jgs_nil))))
 (jss_cons (js_if (jt_w (jw_or (jt_notP (jt_valP (je_isTP (T := "tuple") C rfl BB.get (jb_own (pv 2)) (pe_bty BB.get rfl)))) (jw_or1 (jt_not (jt_val (je_bO (bo_all C BB) rfl (ja_cons (jv (jfz (jf_lc C (own := [("onset", 3)]) (ji_seq C (je_var (pv 2))) (blkOk_by (by rfl)) (fun _ _ _ _ _ _ => (jg_name (pg_name C.nd (i := 3) rfl (by first | exact .inl rfl | exact .inr rfl)))) (fun _ _ _ _ _ _ => jts_nil) (fun _ _ _ _ _ _ => (je_ct C.blk T_is_between (hr.mono (by decide)) rfl (ja_cons (jv (je_var (pv 3))) (ja_cons (jv je_int) (ja_cons (jv (je_opP op_sub ok_sub (jb_own (pv 1)) (jpb je_int))) ja_nil)))))))) ja_nil)))))))
 (jss_cons (js_ret je_bl)
 jss_nil)
 jss_nil)
 (jss_cons (js_ret (je_ct C T_is_rising (hr.mono (by decide)) rfl (ja_cons (jv (je_var (pv 2))) ja_nil)))
 jss_nil))))
/-! need_round -/
abbrev s_need_round : Stmt := topS 11
def N_need_round : List Str := ["thing"]
theorem fs_need_round : FnScope N_need_round ["thing"] (defScope s_need_round) := ⟨rfl, rfl, rfl, by decide +kernel, rfl, by decide +kernel, by decide +kernel⟩
def d_need_round : DS :=
 (dBlk [(dIf (dNot (dTst (dCall 0 sp_is_round [(dV (pu (rdv 0)))])))
 (dBlk [(dRaise 1)])
 (dBlk []))])
theorem wk_need_round {P : Program} {w : World} {K : PySem.W.Frag} {mg : Str → Option Value} {base : Heap} {cA : Nat → Addr} {fa : Addr} (BB : BT mg btL) (T_is_round : FT P w K mg base ⟨K, cA, flD⟩ "is_round" ["thing"] 5 0 sp_is_round kws_is_round) (e_BadRound : ErrTT K mg ⟨K, cA, flD⟩ "BadRound" 1) {cdv : Value} {A : Around} {outer : List PySem.Env} {s : Shared} {H : Hp} {E : XK} {W : Wd} {B : Nat} (hr : Room 5 (A.deeper (envOfC "need_round" (defScope s_need_round) s.heap.objs.size fa cdv))) (C : Ctx (cxOf (L2.CX P w) P w K mg base N_need_round "need_round" (defScope s_need_round) fa cdv A outer s H E) ⟨⟨K, cA, flD⟩, W, mask H, fun _ _ => .own 0, E, B⟩) : JSs ⟨⟨K, cA, flD⟩, W, mask H, fun _ _ => .own 0, E, B⟩ (cxOf (L2.CX P w) P w K mg base N_need_round "need_round" (defScope s_need_round) fa cdv A outer s H E) (defBody s_need_round) (d_need_round) :=
 (jss_cons (js_if (jt_not (jt_val (je_ct C T_is_round (hr.mono (by decide)) rfl (ja_cons (jv (je_var (pv 0))) ja_nil))))
 (jss_cons (js_raiseT C e_BadRound rfl)
 jss_nil)
 jss_nil)
 jss_nil)
/-! mirrored_by -/
abbrev s_mirrored_by : Stmt := topS 12
def N_mirrored_by : List Str := ["circle", "by", "pulses", "onsets", "onset"]
theorem fs_mirrored_by : FnScope N_mirrored_by ["circle", "by"] (defScope s_mirrored_by) := ⟨rfl, rfl, rfl, by decide +kernel, rfl, by decide +kernel, by decide +kernel⟩
def d_mirrored_by : DS :=
 (dBlk [(dAsg (pu (rdv 0)) (tgT [(tgN 2), (tgN 3)])),
 (dRet (dTup [(dV (pu (rdv 2))), (dV (dCb bTuple [(dV (dFz (dCbF bSorted [(dV (dFz (dComp (dIt (pu (rdv 3))) [4] (tgN 4) dYes (pu (p2 oMod (p2 oSub (rd 1) (rd 4)) (rd 2))))))])))]))]))])
theorem wk_mirrored_by {P : Program} {w : World} {K : PySem.W.Frag} {mg : Str → Option Value} {base : Heap} {cA : Nat → Addr} {fa : Addr} (BB : BT mg btL)  {cdv : Value} {A : Around} {outer : List PySem.Env} {s : Shared} {H : Hp} {E : XK} {W : Wd} {B : Nat} (hr : Room 2 (A.deeper (envOfC "mirrored_by" (defScope s_mirrored_by) s.heap.objs.size fa cdv))) (C : Ctx (cxOf (L2.CX P w) P w K mg base N_mirrored_by "mirrored_by" (defScope s_mirrored_by) fa cdv A outer s H E) ⟨⟨K, cA, flD⟩, W, mask H, fun _ _ => .own 0, E, B⟩) : JSs ⟨⟨K, cA, flD⟩, W, mask H, fun _ _ => .own 0, E, B⟩ (cxOf (L2.CX P w) P w K mg base N_mirrored_by "mirrored_by" (defScope s_mirrored_by) fa cdv A outer s H E) (defBody s_mirrored_by) (d_mirrored_by) :=
 (jss_cons (js_asg (vs := [2, 3]) (je_var (pv 0)) (jg_tup C (jgs_cons (jg_name (pg_name C.nd (i := 2) rfl (by first | exact .inl rfl | exact .inr rfl))) (jgs_cons (jg_name (pg_name C.nd (i := 3) rfl (by first | exact .inl rfl | exact .inr rfl))) jgs_nil))))
 (jss_cons (js_ret (je_tup (ja_cons (jv (je_var (pv 2))) (ja_cons (jv (je_bO (bo_tuple C BB) rfl (ja_cons (jv (jfz (jf_bO (bo_sorted C BB) rfl (ja_cons (jv (jfz (jf_lc C (own := [("onset", 4)]) (ji_seq C (je_var (pv 3))) (blkOk_by (by rfl)) (fun _ _ _ _ _ _ => (jg_name (pg_name C.nd (i := 4) rfl (by first | exact .inl rfl | exact .inr rfl)))) (fun _ _ _ _ _ _ => jts_nil) (fun _ _ _ _ _ _ => (je_opP op_mod ok_mod (jpb (je_opP op_sub ok_sub (jb_own (pv 1)) (jb_own (pv 4)))) (jb_own (pv 2))))))) ja_nil)))) ja_nil))) ja_nil))))
 jss_nil))
/-! word_by -/
abbrev s_word_by : Stmt := topS 13
def N_word_by : List Str := ["circle", "pulses", "onsets", "marks", "onset"]
theorem fs_word_by : FnScope N_word_by ["circle"] (defScope s_word_by) := ⟨rfl, rfl, rfl, by decide +kernel, rfl, by decide +kernel, by decide +kernel⟩
def d_word_by : DS :=
 (dBlk [(dAsg (pu (rdv 0)) (tgT [(tgN 1), (tgN 2)])),
 (dSetM 3 (pf (p2F oRep (fun ρ => Option.map D.lst ((evs [(fun _ => some (.str "0"))]) ρ)) (rd 1)))),
 (dFor (dIt (pu (rdv 2))) (tgN 4)
 (dBlk [(dStI 3 (pu (fun _ => some (.str "1"))) (pu (rdv 4)))])),
 (dRet (pu (p1 (oJoin "") (rd 3))))])
theorem wk_word_by {P : Program} {w : World} {K : PySem.W.Frag} {mg : Str → Option Value} {base : Heap} {cA : Nat → Addr} {fa : Addr} (BB : BT mg btL)  {cdv : Value} {A : Around} {outer : List PySem.Env} {s : Shared} {H : Hp} {E : XK} {W : Wd} {B : Nat} (hr : Room 2 (A.deeper (envOfC "word_by" (defScope s_word_by) s.heap.objs.size fa cdv))) (C : Ctx (cxOf (L2.CX P w) P w K mg base N_word_by "word_by" (defScope s_word_by) fa cdv A outer s H E) ⟨⟨K, cA, flD⟩, W, mask H, fun _ _ => .own 0, E, B⟩) : JSs ⟨⟨K, cA, flD⟩, W, mask H, fun _ _ => .own 0, E, B⟩ (cxOf (L2.CX P w) P w K mg base N_word_by "word_by" (defScope s_word_by) fa cdv A outer s H E) (defBody s_word_by) (d_word_by) :=
 (jss_cons (js_asg (vs := [1, 2]) (je_var (pv 0)) (jg_tup C (jgs_cons (jg_name (pg_name C.nd (i := 1) rfl (by first | exact .inl rfl | exact .inr rfl))) (jgs_cons (jg_name (pg_name C.nd (i := 2) rfl (by first | exact .inl rfl | exact .inr rfl))) jgs_nil))))
 (jss_cons (js_setM C (jf_opP op_rep ok_rep (jpb (jpf (jf_lstP (fs := [(fun _ => some (.str "0"))]) (jc_cons je_str ja_nil)))) (jb_own (pv 1))) (i := 3) rfl (by first | exact .inl rfl | exact .inr rfl))
 (jss_cons (js_for C (vs := [4]) (ji_seq C (je_var (pv 2))) (jg_name (pg_name C.nd (i := 4) rfl (by first | exact .inl rfl | exact .inr rfl)))
 (jss_cons (js_stI (i := 3) (pv 3) je_str (je_var (pv 4)))
 jss_nil))
 (jss_cons (js_ret (je_join C (jb_own (pv 3))))
 jss_nil))))
/-! period_of -/
abbrev s_period_of : Stmt := topS 14
def N_period_of : List Str := ["word", "many", "step"]
theorem fs_period_of : FnScope N_period_of ["word"] (defScope s_period_of) := ⟨rfl, rfl, rfl, by decide +kernel, rfl, by decide +kernel, by decide +kernel⟩
def d_period_of : DS :=
 (dBlk [(dSet 1 (pu (pC bLen [(rd 0)]))),
 (dRet (dCb bMinT [(dV (dFz (dComp (dRg [(dV (pu (fun _ => some (.int 1)))), (dV (pu (p2 oAdd (rd 1) (fun _ => some (.int 1)))))]) [2] (tgN 2) (pt (pAnd (p2 oEq (p2 oMod (rd 1) (rd 2)) (fun _ => some (.int 0))) (p2 oEq (p2 oAdd (pSl oSlT (rd 0) (.at (rdv 2)) .no) (pSl oSlT (rd 0) .no (.at (rdv 2)))) (rd 0)))) (pu (rdv 2)))))]))])
theorem wk_period_of {P : Program} {w : World} {K : PySem.W.Frag} {mg : Str → Option Value} {base : Heap} {cA : Nat → Addr} {fa : Addr} (BB : BT mg btL)  {cdv : Value} {A : Around} {outer : List PySem.Env} {s : Shared} {H : Hp} {E : XK} {W : Wd} {B : Nat} (hr : Room 2 (A.deeper (envOfC "period_of" (defScope s_period_of) s.heap.objs.size fa cdv))) (C : Ctx (cxOf (L2.CX P w) P w K mg base N_period_of "period_of" (defScope s_period_of) fa cdv A outer s H E) ⟨⟨K, cA, flD⟩, W, mask H, fun _ _ => .own 0, E, B⟩) : JSs ⟨⟨K, cA, flD⟩, W, mask H, fun _ _ => .own 0, E, B⟩ (cxOf (L2.CX P w) P w K mg base N_period_of "period_of" (defScope s_period_of) fa cdv A outer s H E) (defBody s_period_of) (d_period_of) :=
 (jss_cons (js_set C (je_bOP (fs := [(rd 0)]) (bo_len C BB) rfl (jb_cons (jb_own (pv 0)) ja_nil)) (i := 1) rfl (by first | exact .inl rfl | exact .inr rfl))
 (jss_cons (js_ret (je_bO (bo_minT C BB) rfl (ja_cons (jv (jfz (jf_lc C (own := [("step", 2)]) (ji_rg2 rfl BB.get (ja_cons (jv je_int) (ja_cons (jv (je_opP or_add ok_add (jb_own (pv 1)) (jpb je_int))) ja_nil))) (blkOk_by (by rfl)) (fun _ _ _ _ _ _ => (jg_name (pg_name C.nd (i := 2) rfl (by first | exact .inl rfl | exact .inr rfl)))) (fun _ _ _ _ _ _ => (jts_one (jt_w (jw_andP (jt_cmpP (op_eqD (uu C 64)) ok_eq (jpb (je_opP op_mod ok_mod (jb_own (pv 1)) (jb_own (pv 2)))) (jpb je_int) (nomark _)) (jw_and1 (jt_cmpP (op_eqD (uu C 64)) ok_eq (jpb (je_opP or_add ok_add (jpb (je_slP sr_ts ok_slT (jb_own (pv 0)) (jo_some (je_var (pv 2))) jo_none)) (jpb (je_slP sr_ts ok_slT (jb_own (pv 0)) jo_none (jo_some (je_var (pv 2))))))) (jb_own (pv 0)) (nomark _))))))) (fun _ _ _ _ _ _ => (je_var (pv 2)))))) ja_nil)))
 jss_nil))
/-! period -/
abbrev s_period : Stmt := topS 15
def N_period : List Str := ["circle"]
theorem fs_period : FnScope N_period ["circle"] (defScope s_period) := ⟨rfl, rfl, rfl, by decide +kernel, rfl, by decide +kernel, by decide +kernel⟩
def d_period : DS :=
 (dBlk [(dDrop (dCall 0 sp_need_round [(dV (pu (rdv 0)))])),
 (dRet (dCall 0 sp_period_of [(dV (dCall 0 sp_word_by [(dV (pu (rdv 0)))]))]))])
theorem wk_period {P : Program} {w : World} {K : PySem.W.Frag} {mg : Str → Option Value} {base : Heap} {cA : Nat → Addr} {fa : Addr} (BB : BT mg btL) (T_need_round : FT P w K mg base ⟨K, cA, flD⟩ "need_round" ["thing"] 6 0 sp_need_round kws_need_round) (T_period_of : FT P w K mg base ⟨K, cA, flD⟩ "period_of" ["word"] 3 0 sp_period_of kws_period_of) (T_word_by : FT P w K mg base ⟨K, cA, flD⟩ "word_by" ["circle"] 3 0 sp_word_by kws_word_by) {cdv : Value} {A : Around} {outer : List PySem.Env} {s : Shared} {H : Hp} {E : XK} {W : Wd} {B : Nat} (hr : Room 6 (A.deeper (envOfC "period" (defScope s_period) s.heap.objs.size fa cdv))) (C : Ctx (cxOf (L2.CX P w) P w K mg base N_period "period" (defScope s_period) fa cdv A outer s H E) ⟨⟨K, cA, flD⟩, W, mask H, fun _ _ => .own 0, E, B⟩) : JSs ⟨⟨K, cA, flD⟩, W, mask H, fun _ _ => .own 0, E, B⟩ (cxOf (L2.CX P w) P w K mg base N_period "period" (defScope s_period) fa cdv A outer s H E) (defBody s_period) (d_period) :=
 (jss_cons (js_drop (je_ct C T_need_round (hr.mono (by decide)) rfl (ja_cons (jv (je_var (pv 0))) ja_nil)))
 (jss_cons (js_ret (je_ct C T_period_of (hr.mono (by decide)) rfl (ja_cons (jv (je_ct C T_word_by (hr.mono (by decide)) rfl (ja_cons (jv (je_var (pv 0))) ja_nil))) ja_nil)))
 jss_nil))
/-! axes -/
abbrev s_axes : Stmt := topS 16
def N_axes : List Str := ["circle", "by"]
theorem fs_axes : FnScope N_axes ["circle"] (defScope s_axes) := ⟨rfl, rfl, rfl, by decide +kernel, rfl, by decide +kernel, by decide +kernel⟩
def d_axes : DS :=
 (dBlk [(dDrop (dCall 0 sp_need_round [(dV (pu (rdv 0)))])),
 (dRet (dFz (dComp (dRg [(dV (pu (p2 oIx (rd 0) (fun _ => some (.int 0)))))]) [1] (tgN 1) (dTst (dOp2 oEq (dV (dCall 0 sp_mirrored_by [(dV (pu (rdv 0))), (dV (pu (rdv 1)))])) (dV (pu (rdv 0))))) (pu (rdv 1)))))])
theorem wk_axes {P : Program} {w : World} {K : PySem.W.Frag} {mg : Str → Option Value} {base : Heap} {cA : Nat → Addr} {fa : Addr} (BB : BT mg btL) (T_mirrored_by : FT P w K mg base ⟨K, cA, flD⟩ "mirrored_by" ["circle", "by"] 3 0 sp_mirrored_by kws_mirrored_by) (T_need_round : FT P w K mg base ⟨K, cA, flD⟩ "need_round" ["thing"] 6 0 sp_need_round kws_need_round) {cdv : Value} {A : Around} {outer : List PySem.Env} {s : Shared} {H : Hp} {E : XK} {W : Wd} {B : Nat} (hr : Room 6 (A.deeper (envOfC "axes" (defScope s_axes) s.heap.objs.size fa cdv))) (C : Ctx (cxOf (L2.CX P w) P w K mg base N_axes "axes" (defScope s_axes) fa cdv A outer s H E) ⟨⟨K, cA, flD⟩, W, mask H, fun _ _ => .own 0, E, B⟩) : JSs ⟨⟨K, cA, flD⟩, W, mask H, fun _ _ => .own 0, E, B⟩ (cxOf (L2.CX P w) P w K mg base N_axes "axes" (defScope s_axes) fa cdv A outer s H E) (defBody s_axes) (d_axes) :=
 (jss_cons (js_drop (je_ct C T_need_round (hr.mono (by decide)) rfl (ja_cons (jv (je_var (pv 0))) ja_nil)))
 (jss_cons (js_ret (jfz (jf_lc C (own := [("by", 1)]) (ji_rg1 rfl BB.get (ja_cons (jv (je_ixP ix_seq ok_ix (jb_own (pv 0)) (jpb je_int))) ja_nil)) (blkOk_by (by rfl)) (fun _ _ _ _ _ _ => (jg_name (pg_name C.nd (i := 1) rfl (by first | exact .inl rfl | exact .inr rfl)))) (fun _ _ _ _ _ _ => (jts_one (jt_cmp (op_eqD (uu C 64)) ok_eq (jv (je_ct C.blk T_mirrored_by (hr.mono (by decide)) rfl (ja_cons (jv (je_var (pv 0))) (ja_cons (jv (je_var (pv 1))) ja_nil)))) (jv (je_var (pv 0))) (nomark _)))) (fun _ _ _ _ _ _ => (je_var (pv 1))))))
 jss_nil))
/-! _law_mixed -/
abbrev s__law_mixed : Stmt := topS 19
def N__law_mixed : List Str := ["state", "turn", "found", "prime", "blend", "cell", "?"]
theorem fs__law_mixed : FnScope N__law_mixed ["state"] (defScope s__law_mixed) := ⟨rfl, rfl, rfl, by decide +kernel, rfl, by decide +kernel, by decide +kernel⟩
def d__law_mixed (big : Nat) : DS :=
 (dBlk [(dPar 1 2 (dOp2 oAdd (dV (dStT big (pu (rdv 0)))) (dV (pu (fun _ => some (.int 1))))) (pu (fun _ => some (.int 0)))),
 (dStST big (pu (rdv 1)) (pu (rdv 0))),
 (dFor (dIt (pu (fun ρ => Option.map D.lst ((evs [(fun _ => some (.int 2147483323)), (fun _ => some (.int 2147483269)), (fun _ => some (.int 2147483249)), (fun _ => some (.int 2147483237))]) ρ)))) (tgN 3)
 (dBlk [(dSet 4 (pu (p2 oAdd (p2 oMul (fun _ => some (.int 69621)) (rd 1)) (p2 oDiv (rd 3) (fun _ => some (.int 41)))))),
 (dFor (dIt (dStC (pu (rdv 0)))) (tgN 5)
 (dBlk [(dSet 4 (pu (p2 oMod (pC bInt [(p2 oAdd (p2 oAdd (p2 oMul (rd 4) (fun _ => some (.int 48271))) (rd 5)) (rd 1))]) (rd 3))))])),
 (dSet 2 (pu (p2 oAdd (p2 oMul (rd 2) (fun _ => some (.int 2147483659))) (p2 oMod (pC bInt [(p2 oPow (rd 4) (fun _ => some (.int 5)))]) (rd 3)))))])),
 (dRet (pu (rdv 2)))])
theorem wk__law_mixed {P : Program} {w : World} {K : PySem.W.Frag} {mg : Str → Option Value} {base : Heap} {cA : Nat → Addr} {fa : Addr} (BB : BT mg btL)  {cdv : Value} {A : Around} {outer : List PySem.Env} {s : Shared} {H : Hp} {E : XK} {W : Wd} {B : Nat} (hr : Room 2 (A.deeper (envOfC "_law_mixed" (defScope s__law_mixed) s.heap.objs.size fa cdv))) (C : Ctx (cxOf (L2.CX P w) P w K mg base N__law_mixed "_law_mixed" (defScope s__law_mixed) fa cdv A outer s H E) ⟨⟨K, cA, flD⟩, W, mask H, fun _ _ => .own 0, E, B⟩) : JSs ⟨⟨K, cA, flD⟩, W, mask H, fun _ _ => .own 0, E, B⟩ (cxOf (L2.CX P w) P w K mg base N__law_mixed "_law_mixed" (defScope s__law_mixed) fa cdv A outer s H E) (defBody s__law_mixed) (d__law_mixed B) :=
 (jss_cons (js_par C (je_op or_add ok_add (jv (je_stT C (je_var (pv 0)))) (jv je_int)) je_int (i := 1) (j := 2) rfl rfl (by decide) rfl rfl rfl)
 (jss_cons (js_stST C (je_var (pv 1)) (je_var (pv 0)))
 (jss_cons (js_for C (vs := [3]) (ji_seq C (jpf (jf_lstP (fs := [(fun _ => some (.int 2147483323)), (fun _ => some (.int 2147483269)), (fun _ => some (.int 2147483249)), (fun _ => some (.int 2147483237))]) (jc_cons je_int (jc_cons je_int (jc_cons je_int (jc_cons je_int ja_nil))))))) (jg_name (pg_name C.nd (i := 3) rfl (by first | exact .inl rfl | exact .inr rfl)))
 (jss_cons (js_set C (je_opP or_add ok_add (jpb (je_opP op_mulW ok_mul (jpb je_int) (jb_own (pv 1)))) (jpb (je_opP op_fdivW ok_div (jb_own (pv 3)) (jpb je_int)))) (i := 4) rfl (by first | exact .inl rfl | exact .inr rfl))
 (jss_cons (js_for C (vs := [5]) (ji_seq C (je_stC C (je_var (pv 0)))) (jg_name (pg_name C.nd (i := 5) rfl (by first | exact .inl rfl | exact .inr rfl)))
 (jss_cons (js_set C (je_opP op_mod ok_mod (jpb (je_bOP (fs := [(p2 oAdd (p2 oAdd (p2 oMul (rd 4) (fun _ => some (.int 48271))) (rd 5)) (rd 1))]) (bo_int C BB) rfl (jb_cons (jpb (je_opP or_add ok_add (jpb (je_opP or_add ok_add (jpb (je_opP op_mulW ok_mul (jb_own (pv 4)) (jpb je_int))) (jb_own (pv 5)))) (jb_own (pv 1)))) ja_nil))) (jb_own (pv 3))) (i := 4) rfl (by first | exact .inl rfl | exact .inr rfl))
 jss_nil))
 (jss_cons (js_set C (je_opP or_add ok_add (jpb (je_opP op_mulW ok_mul (jb_own (pv 2)) (jpb je_int))) (jpb (je_opP op_mod ok_mod (jpb (je_bOP (fs := [(p2 oPow (rd 4) (fun _ => some (.int 5)))]) (bo_int C BB) rfl (jb_cons (jpb (je_opP op_pow ok_pow (jb_own (pv 4)) (jpb je_int))) ja_nil))) (jb_own (pv 3))))) (i := 2) rfl (by first | exact .inl rfl | exact .inr rfl))
 jss_nil))))
 (jss_cons (js_ret (je_var (pv 2)))
 jss_nil))))
/-! _law_draw -/
abbrev s__law_draw : Stmt := topS 20
def N__law_draw : List Str := ["state", "room", "found", "?"]
theorem fs__law_draw : FnScope N__law_draw ["state", "room"] (defScope s__law_draw) := ⟨rfl, rfl, rfl, by decide +kernel, rfl, by decide +kernel, by decide +kernel⟩
def d__law_draw : DS :=
 (dBlk [(dIf (dTst (dOp2 oEq (dV (dStG (pu (rdv 0)))) (dV (pu (fun _ => some (.int 0))))))
 (dBlk [(dStSR (dStP 0 (dCall 1 sp__law_mixed [(dV (pu (rdv 0)))])) (pu (rdv 0)))])
 (dBlk [])),
 (dSet 2 (dOp2 oMod (dV (dCb bInt [(dV (dStG (pu (rdv 0))))])) (dV (pu (rdv 1))))),
 (dStSR (dOp2 oDiv (dV (dStG (pu (rdv 0)))) (dV (pu (rdv 1)))) (pu (rdv 0))),
 (dRet (pu (rdv 2)))])
theorem wk__law_draw {P : Program} {w : World} {K : PySem.W.Frag} {mg : Str → Option Value} {base : Heap} {cA : Nat → Addr} {fa : Addr} (BB : BT mg btL) (T__law_mixed : FT P w K mg base ⟨K, cA, flD⟩ "_law_mixed" ["state"] 3 1 sp__law_mixed kws__law_mixed) {cdv : Value} {A : Around} {outer : List PySem.Env} {s : Shared} {H : Hp} {E : XK} {W : Wd} {B : Nat} (hr : Room 3 (A.deeper (envOfC "_law_draw" (defScope s__law_draw) s.heap.objs.size fa cdv))) (C : Ctx (cxOf (L2.CX P w) P w K mg base N__law_draw "_law_draw" (defScope s__law_draw) fa cdv A outer s H E) ⟨⟨K, cA, flD⟩, W, mask H, fun _ _ => .own 0, E, B⟩) : JSs ⟨⟨K, cA, flD⟩, W, mask H, fun _ _ => .own 0, E, B⟩ (cxOf (L2.CX P w) P w K mg base N__law_draw "_law_draw" (defScope s__law_draw) fa cdv A outer s H E) (defBody s__law_draw) (d__law_draw) :=
 (jss_cons (js_if (jt_cmp (op_eqD (uu C 64)) ok_eq (jv (je_stR C (je_var (pv 0)))) (jv je_int) (nomark _))
 (jss_cons (js_stSR C (je_stP (i := 0) C (pv 0) (pv 0) (je_ct C T__law_mixed (hr.mono (by decide)) rfl (ja_cons (jv (je_var (pv 0))) ja_nil))) (je_var (pv 0)))
 jss_nil)
 jss_nil)
 (jss_cons (js_set C (je_op op_mod ok_mod (jv (je_bO (bo_int C BB) rfl (ja_cons (jv (je_stR C (je_var (pv 0)))) ja_nil))) (jv (je_var (pv 1)))) (i := 2) rfl (by first | exact .inl rfl | exact .inr rfl))
 (jss_cons (js_stSR C (je_op op_fdivW ok_div (jv (je_stR C (je_var (pv 0)))) (jv (je_var (pv 1)))) (je_var (pv 0)))
 (jss_cons (js_ret (je_var (pv 2)))
 jss_nil))))
/-! _law_pick -/
abbrev s__law_pick : Stmt := topS 21
def N__law_pick : List Str := ["state", "some", "?"]
theorem fs__law_pick : FnScope N__law_pick ["state", "some"] (defScope s__law_pick) := ⟨rfl, rfl, rfl, by decide +kernel, rfl, by decide +kernel, by decide +kernel⟩
def d__law_pick : DS :=
 (dBlk [(dRet (dOp2 oIx (dV (pu (rdv 1))) (dV (dCall 1 sp__law_draw [(dV (pu (rdv 0))), (dV (pu (pC bLen [(rd 1)])))]))))])
theorem wk__law_pick {P : Program} {w : World} {K : PySem.W.Frag} {mg : Str → Option Value} {base : Heap} {cA : Nat → Addr} {fa : Addr} (BB : BT mg btL) (T__law_draw : FT P w K mg base ⟨K, cA, flD⟩ "_law_draw" ["state", "room"] 4 1 sp__law_draw kws__law_draw) {cdv : Value} {A : Around} {outer : List PySem.Env} {s : Shared} {H : Hp} {E : XK} {W : Wd} {B : Nat} (hr : Room 4 (A.deeper (envOfC "_law_pick" (defScope s__law_pick) s.heap.objs.size fa cdv))) (C : Ctx (cxOf (L2.CX P w) P w K mg base N__law_pick "_law_pick" (defScope s__law_pick) fa cdv A outer s H E) ⟨⟨K, cA, flD⟩, W, mask H, fun _ _ => .own 0, E, B⟩) : JSs ⟨⟨K, cA, flD⟩, W, mask H, fun _ _ => .own 0, E, B⟩ (cxOf (L2.CX P w) P w K mg base N__law_pick "_law_pick" (defScope s__law_pick) fa cdv A outer s H E) (defBody s__law_pick) (d__law_pick) :=
 (jss_cons (js_ret (je_ix ix_seq ok_ix (jv (je_var (pv 1))) (jv (je_ct C T__law_draw (hr.mono (by decide)) rfl (ja_cons (jv (je_var (pv 0))) (ja_cons (jv (je_bOP (fs := [(rd 1)]) (bo_len C BB) rfl (jb_cons (jb_own (pv 1)) ja_nil))) ja_nil))))))
 jss_nil)
/-! _law_plain -/
abbrev s__law_plain : Stmt := topS 22
def N__law_plain : List Str := ["value", "one"]
theorem fs__law_plain : FnScope N__law_plain ["value"] (defScope s__law_plain) := ⟨rfl, rfl, rfl, by decide +kernel, rfl, by decide +kernel, by decide +kernel⟩
def d__law_plain (sp__law_plain : DSp) : DS :=
 (dBlk [(dIf (pt (p1 (oIsTs ["list", "tuple"]) (rd 0)))
 (dBlk [(dRet (dOp2 oEq (dV (dFz (dComp (dIt (pu (rdv 0))) [1] (tgN 1) (dNot (dTst (dCall 0 sp__law_plain [(dV (pu (rdv 1)))]))) (pu (fun _ => some (.int 1)))))) (dV (pu (fun ρ => Option.map D.lst ((evs []) ρ))))))])
 (dBlk [])),
 (dIf (pt (p1 (oIsT "dict") (rd 0)))
 (fun _ _ => False)
 (dBlk [])),
 (dRet (pu (pOr (p2 (oIs false) (rd 0) (fun _ => some .non)) (p1 (oIsTs ["int", "str"]) (rd 0)))))])
theorem wk__law_plain {P : Program} {w : World} {K : PySem.W.Frag} {mg : Str → Option Value} {base : Heap} {cA : Nat → Addr} {fa : Addr} (BB : BT mg btL) {k : Nat} {sp__law_plain : DSp} (T__law_plain : FT P w K mg base ⟨K, cA, flD⟩ "_law_plain" ["value"] (k + 3) 0 sp__law_plain kws__law_plain) {cdv : Value} {A : Around} {outer : List PySem.Env} {s : Shared} {H : Hp} {E : XK} {W : Wd} {B : Nat} (hr : Room (k + 3) (A.deeper (envOfC "_law_plain" (defScope s__law_plain) s.heap.objs.size fa cdv))) (C : Ctx (cxOf (L2.CX P w) P w K mg base N__law_plain "_law_plain" (defScope s__law_plain) fa cdv A outer s H E) ⟨⟨K, cA, flD⟩, W, mask H, fun _ _ => .own 0, E, B⟩) : JSs ⟨⟨K, cA, flD⟩, W, mask H, fun _ _ => .own 0, E, B⟩ (cxOf (L2.CX P w) P w K mg base N__law_plain "_law_plain" (defScope s__law_plain) fa cdv A outer s H E) (defBody s__law_plain) (d__law_plain sp__law_plain) :=
 (jss_cons (js_if (jt_valP (je_isTsP (Ts := ["list", "tuple"]) C rfl BB.get (jb_own (pv 0)) (pa_ty (pe_bty BB.get rfl) (pa_ty (pe_bty BB.get rfl) pa_ty0))))
 (jss_cons (js_ret (je_cmp (op_eqD (uu C 64)) ok_eq (jv (jfz (jf_lc C (own := [("one", 1)]) (ji_seq C (je_var (pv 0))) (blkOk_by (by rfl)) (fun _ _ _ _ _ _ => (jg_name (pg_name C.nd (i := 1) rfl (by first | exact .inl rfl | exact .inr rfl)))) (fun _ _ _ _ _ _ => (jts_one (jt_not (jt_val (je_ct C.blk T__law_plain (hr.mono (by omega)) rfl (ja_cons (jv (je_var (pv 1))) ja_nil)))))) (fun _ _ _ _ _ _ => je_int)))) (jv (jpf (jf_lstP (fs := []) ja_nil))) (nomark _)))
 jss_nil)
 jss_nil)
 (jss_cons (js_if (jt_valP (je_isTP (T := "dict") C rfl BB.get (jb_own (pv 0)) (pe_bty BB.get rfl)))
 jss_dead
 jss_nil)
 (jss_cons (js_ret (je_orP (je_cmpP or_is ok_is (jb_own (pv 0)) (jpb je_non) (nomark _)) (je_one (je_isTsP (Ts := ["int", "str"]) C rfl BB.get (jb_own (pv 0)) (pa_ty (pe_bty BB.get rfl) (pa_ty (pe_bty BB.get rfl) pa_ty0))))))
 jss_nil)))
/-! _law_is -/
abbrev s__law_is : Stmt := topS 23
def N__law_is : List Str := ["found", "due"]
theorem fs__law_is : FnScope N__law_is ["found", "due"] (defScope s__law_is) := ⟨rfl, rfl, rfl, by decide +kernel, rfl, by decide +kernel, by decide +kernel⟩
def d__law_is : DS :=
 (dBlk [(dRet (dAndV (dCall 0 sp__law_plain [(dV (pu (rdv 0)))]) (dAndV (pu (p2 oEq (rd 0) (rd 1))) (dAndV (pu (p2 oEq (rd 1) (rd 0))) (pu (p2 oReprEq (rd 0) (rd 1)))))))])
theorem wk__law_is {P : Program} {w : World} {K : PySem.W.Frag} {mg : Str → Option Value} {base : Heap} {cA : Nat → Addr} {fa : Addr} (BB : BT mg btL) (T__law_plain : FT P w K mg base ⟨K, cA, flD⟩ "_law_plain" ["value"] 12 0 sp__law_plain kws__law_plain) {cdv : Value} {A : Around} {outer : List PySem.Env} {s : Shared} {H : Hp} {E : XK} {W : Wd} {B : Nat} (hr : Room 12 (A.deeper (envOfC "_law_is" (defScope s__law_is) s.heap.objs.size fa cdv))) (C : Ctx (cxOf (L2.CX P w) P w K mg base N__law_is "_law_is" (defScope s__law_is) fa cdv A outer s H E) ⟨⟨K, cA, flD⟩, W, mask H, fun _ _ => .own 0, E, B⟩) : JSs ⟨⟨K, cA, flD⟩, W, mask H, fun _ _ => .own 0, E, B⟩ (cxOf (L2.CX P w) P w K mg base N__law_is "_law_is" (defScope s__law_is) fa cdv A outer s H E) (defBody s__law_is) (d__law_is) :=
 (jss_cons (js_ret (je_and (je_ct C T__law_plain (hr.mono (by decide)) rfl (ja_cons (jv (je_var (pv 0))) ja_nil)) (je_and (je_cmpP (op_eqD (uu C 64)) ok_eq (jb_own (pv 0)) (jb_own (pv 1)) (nomark _)) (je_and (je_cmpP (op_eqD (uu C 64)) ok_eq (jb_own (pv 1)) (jb_own (pv 0)) (nomark _)) (je_one (je_reprEqP C BB (uu C 66) rfl (jb_own (pv 0)) (jb_own (pv 1))))))))
 jss_nil)
/-! _law_round -/
abbrev s__law_round : Stmt := topS 25
def N__law_round : List Str := ["state", "most", "pulses", "way", "odds", "onsets", "part", "many", "shift", "pulse", "one", "index", "?"]
theorem fs__law_round : FnScope N__law_round ["state", "most"] (defScope s__law_round) := ⟨rfl, rfl, rfl, by decide +kernel, rfl, by decide +kernel, by decide +kernel⟩
def d__law_round : DS :=
 (dBlk [(dAsg (dTup [(dV (dOp2 oAdd (dV (pu (fun _ => some (.int 1)))) (dV (dCall 1 sp__law_draw [(dV (pu (rdv 0))), (dV (pu (rdv 1)))])))), (dV (dCall 1 sp__law_draw [(dV (pu (rdv 0))), (dV (pu (fun _ => some (.int 6))))]))]) (tgT [(tgN 2), (tgN 3)])),
 (dSet 4 (dCall 1 sp__law_pick [(dV (pu (rdv 0))), (dV (pu (fun ρ => Option.map D.lst ((evs [(fun _ => some (.int 2)), (fun _ => some (.int 2)), (fun _ => some (.int 3)), (fun _ => some (.int 5)), (fun _ => some (.int 1))]) ρ))))])),
 (dSet 5 (dFz (dComp (dRg [(dV (pu (rdv 2)))]) [9] (tgN 9) (dTst (dOp2 oEq (dV (dCall 1 sp__law_draw [(dV (pu (rdv 0))), (dV (pu (rdv 4)))])) (dV (pu (fun _ => some (.int 0)))))) (pu (rdv 9))))),
 (dIf (pt (p2 oEq (rd 3) (fun _ => some (.int 0))))
 (dBlk [(dSet 6 (dCall 1 sp__law_pick [(dV (pu (rdv 0))), (dV (dFz (dComp (dRg [(dV (pu (fun _ => some (.int 1)))), (dV (pu (p2 oAdd (rd 2) (fun _ => some (.int 1)))))]) [10] (tgN 10) (pt (p2 oEq (p2 oMod (rd 2) (rd 10)) (fun _ => some (.int 0)))) (pu (rdv 10)))))])),
 (dSet 5 (dFz (dComp (dRg [(dV (pu (rdv 2)))]) [9] (tgN 9) (pt (p2 (inD false) (p2 oMod (rd 9) (rd 6)) (rd 5))) (pu (rdv 9)))))])
 (dBlk [])),
 (dIf (pt (p2 oEq (rd 3) (fun _ => some (.int 1))))
 (dBlk [(dAsg (dTup [(dV (dOp2 oAdd (dV (pu (fun _ => some (.int 1)))) (dV (dCall 1 sp__law_draw [(dV (pu (rdv 0))), (dV (pu (rdv 2)))])))), (dV (dCall 1 sp__law_draw [(dV (pu (rdv 0))), (dV (pu (rdv 2)))]))]) (tgT [(tgN 7), (tgN 8)])),
 (dSet 5 (dFz (dSD (dFz (dComp (dRg [(dV (pu (rdv 7)))]) [11] (tgN 11) dYes (pu (pTup [(p2 oMod (p2 oDiv (p2 oAdd (p2 oMul (rd 11) (rd 2)) (rd 8)) (rd 7)) (rd 2)), (fun _ => some (.bl true))])))))))])
 (dBlk [])),
 (dIf (pt (pAnd (p2 oEq (rd 3) (fun _ => some (.int 2))) (p2 oGt (rd 2) (fun _ => some (.int 2)))))
 (dBlk [(dSet 7 (dOp2 oAdd (dV (pu (fun _ => some (.int 1)))) (dV (dCall 1 sp__law_draw [(dV (pu (rdv 0))), (dV (pu (rdv 2)))])))),
 (dSet 5 (dFz (dSD (dFz (dOpF oCat (dV (dFz (dComp (dRg [(dV (pu (rdv 7)))]) [11] (tgN 11) dYes (pu (pTup [(p2 oDiv (p2 oMul (rd 11) (rd 2)) (rd 7)), (fun _ => some (.bl true))]))))) (dV (dFz (dLst [(dV (dTup [(dV (dCall 1 sp__law_draw [(dV (pu (rdv 0))), (dV (pu (rdv 2)))])), (dV (pu (fun _ => some (.bl true))))]))]))))))))])
 (dBlk [])),
 (dRet (pu (pTup [(rdv 2), (pC bTuple [(rd 5)])])))])
theorem wk__law_round {P : Program} {w : World} {K : PySem.W.Frag} {mg : Str → Option Value} {base : Heap} {cA : Nat → Addr} {fa : Addr} (BB : BT mg btL) (T__law_draw : FT P w K mg base ⟨K, cA, flD⟩ "_law_draw" ["state", "room"] 4 1 sp__law_draw kws__law_draw) (T__law_pick : FT P w K mg base ⟨K, cA, flD⟩ "_law_pick" ["state", "some"] 5 1 sp__law_pick kws__law_pick) {cdv : Value} {A : Around} {outer : List PySem.Env} {s : Shared} {H : Hp} {E : XK} {W : Wd} {B : Nat} (hr : Room 5 (A.deeper (envOfC "_law_round" (defScope s__law_round) s.heap.objs.size fa cdv))) (C : Ctx (cxOf (L2.CX P w) P w K mg base N__law_round "_law_round" (defScope s__law_round) fa cdv A outer s H E) ⟨⟨K, cA, flD⟩, W, mask H, fun _ _ => .own 0, E, B⟩) : JSs ⟨⟨K, cA, flD⟩, W, mask H, fun _ _ => .own 0, E, B⟩ (cxOf (L2.CX P w) P w K mg base N__law_round "_law_round" (defScope s__law_round) fa cdv A outer s H E) (defBody s__law_round) (d__law_round) :=
 (jss_cons (js_asg (vs := [2, 3]) (je_tup (ja_cons (jv (je_op or_add ok_add (jv je_int) (jv (je_ct C T__law_draw (hr.mono (by decide)) rfl (ja_cons (jv (je_var (pv 0))) (ja_cons (jv (je_var (pv 1))) ja_nil)))))) (ja_cons (jv (je_ct C T__law_draw (hr.mono (by decide)) rfl (ja_cons (jv (je_var (pv 0))) (ja_cons (jv je_int) ja_nil)))) ja_nil))) (jg_tup C (jgs_cons (jg_name (pg_name C.nd (i := 2) rfl (by first | exact .inl rfl | exact .inr rfl))) (jgs_cons (jg_name (pg_name C.nd (i := 3) rfl (by first | exact .inl rfl | exact .inr rfl))) jgs_nil))))
 (jss_cons (js_set C (je_ct C T__law_pick (hr.mono (by decide)) rfl (ja_cons (jv (je_var (pv 0))) (ja_cons (jv (jpf (jf_lstP (fs := [(fun _ => some (.int 2)), (fun _ => some (.int 2)), (fun _ => some (.int 3)), (fun _ => some (.int 5)), (fun _ => some (.int 1))]) (jc_cons je_int (jc_cons je_int (jc_cons je_int (jc_cons je_int (jc_cons je_int ja_nil)))))))) ja_nil))) (i := 4) rfl (by first | exact .inl rfl | exact .inr rfl))
 (jss_cons (js_set C (jfz (jf_lc C (own := [("pulse", 9)]) (ji_rg1 rfl BB.get (ja_cons (jv (je_var (pv 2))) ja_nil)) (blkOk_by (by rfl)) (fun _ _ _ _ _ _ => (jg_name (pg_name C.nd (i := 9) rfl (by first | exact .inl rfl | exact .inr rfl)))) (fun _ _ _ _ _ _ => (jts_one (jt_cmp (op_eqD (uu C 64)) ok_eq (jv (je_ct C.blk T__law_draw (hr.mono (by decide)) rfl (ja_cons (jv (je_var (pv 0))) (ja_cons (jv (je_var (pv 4))) ja_nil)))) (jv je_int) (nomark _)))) (fun _ _ _ _ _ _ => (je_var (pv 9))))) (i := 5) rfl (by first | exact .inl rfl | exact .inr rfl))
 (jss_cons (js_if (jt_cmpP (op_eqD (uu C 64)) ok_eq (jb_own (pv 3)) (jpb je_int) (nomark _))
 (jss_cons (js_set C (je_ct C T__law_pick (hr.mono (by decide)) rfl (ja_cons (jv (je_var (pv 0))) (ja_cons (jv (jfz (jf_lc C (own := [("one", 10)]) (ji_rg2 rfl BB.get (ja_cons (jv je_int) (ja_cons (jv (je_opP or_add ok_add (jb_own (pv 2)) (jpb je_int))) ja_nil))) (blkOk_by (by rfl)) (fun _ _ _ _ _ _ => (jg_name (pg_name C.nd (i := 10) rfl (by first | exact .inl rfl | exact .inr rfl)))) (fun _ _ _ _ _ _ => (jts_one (jt_cmpP (op_eqD (uu C 64)) ok_eq (jpb (je_opP op_mod ok_mod (jb_own (pv 2)) (jb_own (pv 10)))) (jpb je_int) (nomark _)))) (fun _ _ _ _ _ _ => (je_var (pv 10)))))) ja_nil))) (i := 6) rfl (by first | exact .inl rfl | exact .inr rfl))
 (jss_cons (js_set C (jfz (jf_lc C (own := [("pulse", 9)]) (ji_rg1 rfl BB.get (ja_cons (jv (je_var (pv 2))) ja_nil)) (blkOk_by (by rfl)) (fun _ _ _ _ _ _ => (jg_name (pg_name C.nd (i := 9) rfl (by first | exact .inl rfl | exact .inr rfl)))) (fun _ _ _ _ _ _ => (jts_one (jt_cmpP op_in_seq ok_in (jpb (je_opP op_mod ok_mod (jb_own (pv 9)) (jb_own (pv 6)))) (jb_own (pv 5)) (by with_unfolding_all rfl)))) (fun _ _ _ _ _ _ => (je_var (pv 9))))) (i := 5) rfl (by first | exact .inl rfl | exact .inr rfl))
 jss_nil))
 jss_nil)
 (jss_cons (js_if (jt_cmpP (op_eqD (uu C 64)) ok_eq (jb_own (pv 3)) (jpb je_int) (nomark _))
 (jss_cons (js_asg (vs := [7, 8]) (je_tup (ja_cons (jv (je_op or_add ok_add (jv je_int) (jv (je_ct C T__law_draw (hr.mono (by decide)) rfl (ja_cons (jv (je_var (pv 0))) (ja_cons (jv (je_var (pv 2))) ja_nil)))))) (ja_cons (jv (je_ct C T__law_draw (hr.mono (by decide)) rfl (ja_cons (jv (je_var (pv 0))) (ja_cons (jv (je_var (pv 2))) ja_nil)))) ja_nil))) (jg_tup C (jgs_cons (jg_name (pg_name C.nd (i := 7) rfl (by first | exact .inl rfl | exact .inr rfl))) (jgs_cons (jg_name (pg_name C.nd (i := 8) rfl (by first | exact .inl rfl | exact .inr rfl))) jgs_nil))))
 (jss_cons (js_set C (jfz (jf_sortD C rfl BB.get rfl BB.get (jfz (jf_lc C (own := [("index", 11)]) (ji_rg1 rfl BB.get (ja_cons (jv (je_var (pv 7))) ja_nil)) (blkOk_by (by rfl)) (fun _ _ _ _ _ _ => (jg_name (pg_name C.nd (i := 11) rfl (by first | exact .inl rfl | exact .inr rfl)))) (fun _ _ _ _ _ _ => jts_nil) (fun _ _ _ _ _ _ => (je_tupP (fs := [(p2 oMod (p2 oDiv (p2 oAdd (p2 oMul (rd 11) (rd 2)) (rd 8)) (rd 7)) (rd 2)), (fun _ => some (.bl true))]) (jc_cons (je_opP op_mod ok_mod (jpb (je_opP op_fdivW ok_div (jpb (je_opP or_add ok_add (jpb (je_opP op_mulW ok_mul (jb_own (pv 11)) (jb_own (pv 2)))) (jb_own (pv 8)))) (jb_own (pv 7)))) (jb_own (pv 2))) (jc_cons je_bl ja_nil)))))))) (i := 5) rfl (by first | exact .inl rfl | exact .inr rfl))
 jss_nil))
 jss_nil)
 (jss_cons (js_if (jt_w (jw_andP (jt_cmpP (op_eqD (uu C 64)) ok_eq (jb_own (pv 3)) (jpb je_int) (nomark _)) (jw_and1 (jt_cmpP op_gt ok_gt (jb_own (pv 2)) (jpb je_int) (nomark _)))))
 (jss_cons (js_set C (je_op or_add ok_add (jv je_int) (jv (je_ct C T__law_draw (hr.mono (by decide)) rfl (ja_cons (jv (je_var (pv 0))) (ja_cons (jv (je_var (pv 2))) ja_nil))))) (i := 7) rfl (by first | exact .inl rfl | exact .inr rfl))
 (jss_cons (js_set C (jfz (jf_sortD C rfl BB.get rfl BB.get (jfz (jf_op op_cat ok_cat (jv (jfz (jf_lc C (own := [("index", 11)]) (ji_rg1 rfl BB.get (ja_cons (jv (je_var (pv 7))) ja_nil)) (blkOk_by (by rfl)) (fun _ _ _ _ _ _ => (jg_name (pg_name C.nd (i := 11) rfl (by first | exact .inl rfl | exact .inr rfl)))) (fun _ _ _ _ _ _ => jts_nil) (fun _ _ _ _ _ _ => (je_tupP (fs := [(p2 oDiv (p2 oMul (rd 11) (rd 2)) (rd 7)), (fun _ => some (.bl true))]) (jc_cons (je_opP op_fdivW ok_div (jpb (je_opP op_mulW ok_mul (jb_own (pv 11)) (jb_own (pv 2)))) (jb_own (pv 7))) (jc_cons je_bl ja_nil))))))) (jv (jfz (jf_lst (ja_cons (jv (je_tup (ja_cons (jv (je_ct C T__law_draw (hr.mono (by decide)) rfl (ja_cons (jv (je_var (pv 0))) (ja_cons (jv (je_var (pv 2))) ja_nil)))) (ja_cons (jv je_bl) ja_nil)))) ja_nil)))))))) (i := 5) rfl (by first | exact .inl rfl | exact .inr rfl))
 jss_nil))
 jss_nil)
 (jss_cons (js_ret (je_tupP (fs := [(rdv 2), (pC bTuple [(rd 5)])]) (jc_cons (je_var (pv 2)) (jc_cons (je_bOP (fs := [(rd 5)]) (bo_tuple C BB) rfl (jb_cons (jb_own (pv 5)) ja_nil)) ja_nil))))
 jss_nil)))))))
/-! _law_turned -/
abbrev s__law_turned : Stmt := topS 26
def N__law_turned : List Str := ["circle", "by", "onset"]
theorem fs__law_turned : FnScope N__law_turned ["circle", "by"] (defScope s__law_turned) := ⟨rfl, rfl, rfl, by decide +kernel, rfl, by decide +kernel, by decide +kernel⟩
def d__law_turned : DS :=
 (dBlk [(dRet (dTup [(dV (pu (p2 oIx (rd 0) (fun _ => some (.int 0))))), (dV (dCb bTuple [(dV (dFz (dCbF bSorted [(dV (dFz (dComp (dIt (pu (p2 oIx (rd 0) (fun _ => some (.int 1))))) [2] (tgN 2) dYes (pu (p2 oMod (p2 oAdd (rd 2) (rd 1)) (p2 oIx (rd 0) (fun _ => some (.int 0))))))))])))]))]))])
theorem wk__law_turned {P : Program} {w : World} {K : PySem.W.Frag} {mg : Str → Option Value} {base : Heap} {cA : Nat → Addr} {fa : Addr} (BB : BT mg btL)  {cdv : Value} {A : Around} {outer : List PySem.Env} {s : Shared} {H : Hp} {E : XK} {W : Wd} {B : Nat} (hr : Room 2 (A.deeper (envOfC "_law_turned" (defScope s__law_turned) s.heap.objs.size fa cdv))) (C : Ctx (cxOf (L2.CX P w) P w K mg base N__law_turned "_law_turned" (defScope s__law_turned) fa cdv A outer s H E) ⟨⟨K, cA, flD⟩, W, mask H, fun _ _ => .own 0, E, B⟩) : JSs ⟨⟨K, cA, flD⟩, W, mask H, fun _ _ => .own 0, E, B⟩ (cxOf (L2.CX P w) P w K mg base N__law_turned "_law_turned" (defScope s__law_turned) fa cdv A outer s H E) (defBody s__law_turned) (d__law_turned) :=
 (jss_cons (js_ret (je_tup (ja_cons (jv (je_ixP ix_seq ok_ix (jb_own (pv 0)) (jpb je_int))) (ja_cons (jv (je_bO (bo_tuple C BB) rfl (ja_cons (jv (jfz (jf_bO (bo_sorted C BB) rfl (ja_cons (jv (jfz (jf_lc C (own := [("onset", 2)]) (ji_seq C (je_ixP ix_seq ok_ix (jb_own (pv 0)) (jpb je_int))) (blkOk_by (by rfl)) (fun _ _ _ _ _ _ => (jg_name (pg_name C.nd (i := 2) rfl (by first | exact .inl rfl | exact .inr rfl)))) (fun _ _ _ _ _ _ => jts_nil) (fun _ _ _ _ _ _ => (je_opP op_mod ok_mod (jpb (je_opP or_add ok_add (jb_own (pv 2)) (jb_own (pv 1)))) (jpb (je_ixP ix_seq ok_ix (jb_own (pv 0)) (jpb je_int)))))))) ja_nil)))) ja_nil))) ja_nil))))
 jss_nil)
/-! _law_mirrored -/
abbrev s__law_mirrored : Stmt := topS 27
def N__law_mirrored : List Str := ["circle", "by", "onset"]
theorem fs__law_mirrored : FnScope N__law_mirrored ["circle", "by"] (defScope s__law_mirrored) := ⟨rfl, rfl, rfl, by decide +kernel, rfl, by decide +kernel, by decide +kernel⟩
def d__law_mirrored : DS :=
 (dBlk [(dRet (dTup [(dV (pu (p2 oIx (rd 0) (fun _ => some (.int 0))))), (dV (dCb bTuple [(dV (dFz (dCbF bSorted [(dV (dFz (dComp (dIt (pu (p2 oIx (rd 0) (fun _ => some (.int 1))))) [2] (tgN 2) dYes (pu (p2 oMod (p2 oSub (rd 1) (rd 2)) (p2 oIx (rd 0) (fun _ => some (.int 0))))))))])))]))]))])
theorem wk__law_mirrored {P : Program} {w : World} {K : PySem.W.Frag} {mg : Str → Option Value} {base : Heap} {cA : Nat → Addr} {fa : Addr} (BB : BT mg btL)  {cdv : Value} {A : Around} {outer : List PySem.Env} {s : Shared} {H : Hp} {E : XK} {W : Wd} {B : Nat} (hr : Room 2 (A.deeper (envOfC "_law_mirrored" (defScope s__law_mirrored) s.heap.objs.size fa cdv))) (C : Ctx (cxOf (L2.CX P w) P w K mg base N__law_mirrored "_law_mirrored" (defScope s__law_mirrored) fa cdv A outer s H E) ⟨⟨K, cA, flD⟩, W, mask H, fun _ _ => .own 0, E, B⟩) : JSs ⟨⟨K, cA, flD⟩, W, mask H, fun _ _ => .own 0, E, B⟩ (cxOf (L2.CX P w) P w K mg base N__law_mirrored "_law_mirrored" (defScope s__law_mirrored) fa cdv A outer s H E) (defBody s__law_mirrored) (d__law_mirrored) :=
 (jss_cons (js_ret (je_tup (ja_cons (jv (je_ixP ix_seq ok_ix (jb_own (pv 0)) (jpb je_int))) (ja_cons (jv (je_bO (bo_tuple C BB) rfl (ja_cons (jv (jfz (jf_bO (bo_sorted C BB) rfl (ja_cons (jv (jfz (jf_lc C (own := [("onset", 2)]) (ji_seq C (je_ixP ix_seq ok_ix (jb_own (pv 0)) (jpb je_int))) (blkOk_by (by rfl)) (fun _ _ _ _ _ _ => (jg_name (pg_name C.nd (i := 2) rfl (by first | exact .inl rfl | exact .inr rfl)))) (fun _ _ _ _ _ _ => jts_nil) (fun _ _ _ _ _ _ => (je_opP op_mod ok_mod (jpb (je_opP op_sub ok_sub (jb_own (pv 1)) (jb_own (pv 2)))) (jpb (je_ixP ix_seq ok_ix (jb_own (pv 0)) (jpb je_int)))))))) ja_nil)))) ja_nil))) ja_nil))))
 jss_nil)
/-! _law_odd_round -/
abbrev s__law_odd_round : Stmt := topS 28
def N__law_odd_round : List Str := ["state", "?"]
theorem fs__law_odd_round : FnScope N__law_odd_round ["state"] (defScope s__law_odd_round) := ⟨rfl, rfl, rfl, by decide +kernel, rfl, by decide +kernel, by decide +kernel⟩
def d__law_odd_round : DS :=
 (dBlk [(dRet (dCall 1 sp__law_pick [(dV (pu (rdv 0))), (dV (pu (fun ρ => Option.map D.lst ((evs [(fun _ => some .non), (pTup [(fun _ => some (.int 0)), (pTup [])]), (pTup [(fun _ => some (.int 241)), (pTup [])]), (pTup [(fun _ => some (.int 4)), (fun ρ => Option.map D.lst ((evs [(fun _ => some (.int 0))]) ρ))]), (fun ρ => Option.map D.lst ((evs [(fun _ => some (.int 4)), (pTup [(fun _ => some (.int 0))])]) ρ)), (pTup [(fun _ => some (.int 4)), (pTup [(fun _ => some (.int 0)), (fun _ => some (.int 0))])]), (pTup [(fun _ => some (.int 4)), (pTup [(fun _ => some (.int 1)), (fun _ => some (.int 0))])]), (pTup [(fun _ => some (.int 4)), (pTup [(fun _ => some (.int 4))])]), (pTup [(fun _ => some (.int 4)), (pTup [(p1 oNeg (fun _ => some (.int 1)))])]), (pTup [(fun _ => some (.int 4)), (pTup [(fun _ => some (.bl true))])]), (pTup [(fun _ => some (.bl true)), (pTup [])]), (pTup [(fun _ => some (.int 4))]), (pTup [(fun _ => some (.int 4)), (pTup [(fun _ => some (.int 0))]), (fun _ => some (.int 0))]), (fun _ => some (.str "4")), (pTup [(fun _ => some (.int 4)), (fun _ => some (.str "0"))]), (pTup [(fun _ => some (.int 4)), (fun _ => some .non)])]) ρ))))]))])
theorem wk__law_odd_round {P : Program} {w : World} {K : PySem.W.Frag} {mg : Str → Option Value} {base : Heap} {cA : Nat → Addr} {fa : Addr} (BB : BT mg btL) (T__law_pick : FT P w K mg base ⟨K, cA, flD⟩ "_law_pick" ["state", "some"] 5 1 sp__law_pick kws__law_pick) {cdv : Value} {A : Around} {outer : List PySem.Env} {s : Shared} {H : Hp} {E : XK} {W : Wd} {B : Nat} (hr : Room 5 (A.deeper (envOfC "_law_odd_round" (defScope s__law_odd_round) s.heap.objs.size fa cdv))) (C : Ctx (cxOf (L2.CX P w) P w K mg base N__law_odd_round "_law_odd_round" (defScope s__law_odd_round) fa cdv A outer s H E) ⟨⟨K, cA, flD⟩, W, mask H, fun _ _ => .own 0, E, B⟩) : JSs ⟨⟨K, cA, flD⟩, W, mask H, fun _ _ => .own 0, E, B⟩ (cxOf (L2.CX P w) P w K mg base N__law_odd_round "_law_odd_round" (defScope s__law_odd_round) fa cdv A outer s H E) (defBody s__law_odd_round) (d__law_odd_round) :=
 (jss_cons (js_ret (je_ct C T__law_pick (hr.mono (by decide)) rfl (ja_cons (jv (je_var (pv 0))) (ja_cons (jv (jpf (jf_lstP (fs := [(fun _ => some .non), (pTup [(fun _ => some (.int 0)), (pTup [])]), (pTup [(fun _ => some (.int 241)), (pTup [])]), (pTup [(fun _ => some (.int 4)), (fun ρ => Option.map D.lst ((evs [(fun _ => some (.int 0))]) ρ))]), (fun ρ => Option.map D.lst ((evs [(fun _ => some (.int 4)), (pTup [(fun _ => some (.int 0))])]) ρ)), (pTup [(fun _ => some (.int 4)), (pTup [(fun _ => some (.int 0)), (fun _ => some (.int 0))])]), (pTup [(fun _ => some (.int 4)), (pTup [(fun _ => some (.int 1)), (fun _ => some (.int 0))])]), (pTup [(fun _ => some (.int 4)), (pTup [(fun _ => some (.int 4))])]), (pTup [(fun _ => some (.int 4)), (pTup [(p1 oNeg (fun _ => some (.int 1)))])]), (pTup [(fun _ => some (.int 4)), (pTup [(fun _ => some (.bl true))])]), (pTup [(fun _ => some (.bl true)), (pTup [])]), (pTup [(fun _ => some (.int 4))]), (pTup [(fun _ => some (.int 4)), (pTup [(fun _ => some (.int 0))]), (fun _ => some (.int 0))]), (fun _ => some (.str "4")), (pTup [(fun _ => some (.int 4)), (fun _ => some (.str "0"))]), (pTup [(fun _ => some (.int 4)), (fun _ => some .non)])]) (jc_cons je_non (jc_cons (je_tupP (fs := [(fun _ => some (.int 0)), (pTup [])]) (jc_cons je_int (jc_cons (je_tupP (fs := []) ja_nil) ja_nil))) (jc_cons (je_tupP (fs := [(fun _ => some (.int 241)), (pTup [])]) (jc_cons je_int (jc_cons (je_tupP (fs := []) ja_nil) ja_nil))) (jc_cons (je_tupP (fs := [(fun _ => some (.int 4)), (fun ρ => Option.map D.lst ((evs [(fun _ => some (.int 0))]) ρ))]) (jc_cons je_int (jc_cons (jpf (jf_lstP (fs := [(fun _ => some (.int 0))]) (jc_cons je_int ja_nil))) ja_nil))) (jc_cons (jpf (jf_lstP (fs := [(fun _ => some (.int 4)), (pTup [(fun _ => some (.int 0))])]) (jc_cons je_int (jc_cons (je_tupP (fs := [(fun _ => some (.int 0))]) (jc_cons je_int ja_nil)) ja_nil)))) (jc_cons (je_tupP (fs := [(fun _ => some (.int 4)), (pTup [(fun _ => some (.int 0)), (fun _ => some (.int 0))])]) (jc_cons je_int (jc_cons (je_tupP (fs := [(fun _ => some (.int 0)), (fun _ => some (.int 0))]) (jc_cons je_int (jc_cons je_int ja_nil))) ja_nil))) (jc_cons (je_tupP (fs := [(fun _ => some (.int 4)), (pTup [(fun _ => some (.int 1)), (fun _ => some (.int 0))])]) (jc_cons je_int (jc_cons (je_tupP (fs := [(fun _ => some (.int 1)), (fun _ => some (.int 0))]) (jc_cons je_int (jc_cons je_int ja_nil))) ja_nil))) (jc_cons (je_tupP (fs := [(fun _ => some (.int 4)), (pTup [(fun _ => some (.int 4))])]) (jc_cons je_int (jc_cons (je_tupP (fs := [(fun _ => some (.int 4))]) (jc_cons je_int ja_nil)) ja_nil))) (jc_cons (je_tupP (fs := [(fun _ => some (.int 4)), (pTup [(p1 oNeg (fun _ => some (.int 1)))])]) (jc_cons je_int (jc_cons (je_tupP (fs := [(p1 oNeg (fun _ => some (.int 1)))]) (jc_cons (je_unP un_neg ok_neg (jpb je_int)) ja_nil)) ja_nil))) (jc_cons (je_tupP (fs := [(fun _ => some (.int 4)), (pTup [(fun _ => some (.bl true))])]) (jc_cons je_int (jc_cons (je_tupP (fs := [(fun _ => some (.bl true))]) (jc_cons je_bl ja_nil)) ja_nil))) (jc_cons (je_tupP (fs := [(fun _ => some (.bl true)), (pTup [])]) (jc_cons je_bl (jc_cons (je_tupP (fs := []) ja_nil) ja_nil))) (jc_cons (je_tupP (fs := [(fun _ => some (.int 4))]) (jc_cons je_int ja_nil)) (jc_cons (je_tupP (fs := [(fun _ => some (.int 4)), (pTup [(fun _ => some (.int 0))]), (fun _ => some (.int 0))]) (jc_cons je_int (jc_cons (je_tupP (fs := [(fun _ => some (.int 0))]) (jc_cons je_int ja_nil)) (jc_cons je_int ja_nil)))) (jc_cons je_str (jc_cons (je_tupP (fs := [(fun _ => some (.int 4)), (fun _ => some (.str "0"))]) (jc_cons je_int (jc_cons je_str ja_nil))) (jc_cons (je_tupP (fs := [(fun _ => some (.int 4)), (fun _ => some .non)]) (jc_cons je_int (jc_cons je_non ja_nil))) ja_nil))))))))))))))))))) ja_nil))))
 jss_nil)
/-! law -/
abbrev s_law : Stmt := topS 29
def N_law : List Str := ["script", "state", "turn", "circle", "pulses", "onsets", "due", "own", "by", "odd", "one", "onset", "?"]
theorem fs_law : FnScope N_law ["script"] (defScope s_law) := ⟨rfl, rfl, rfl, by decide +kernel, rfl, by decide +kernel, by decide +kernel⟩
def b_law_1 : DS :=
 (dBlk [(dSet 3 (dCall 300 sp__law_round [(dV (pu (rdv 1))), (dV (dCall 1 sp__law_pick [(dV (pu (rdv 1))), (dV (pu (fun ρ => Option.map D.lst ((evs [(fun _ => some (.int 30)), (fun _ => some (.int 12)), (fun _ => some (.int 60)), (pIf (p2 oEq (rd 2) (fun _ => some (.int 0))) (fun _ => some (.int 240)) (fun _ => some (.int 24)))]) ρ))))]))])),
 (dIf (dTst (dOp2 oEq (dV (dCall 1 sp__law_draw [(dV (pu (rdv 1))), (dV (pu (fun _ => some (.int 3))))])) (dV (pu (fun _ => some (.int 0))))))
 (dBlk [(dSet 8 (dCall 1 sp__law_draw [(dV (pu (rdv 1))), (dV (pu (p2 oIx (rd 3) (fun _ => some (.int 0)))))])),
 (dSet 3 (dTup [(dV (pu (p2 oIx (rd 3) (fun _ => some (.int 0))))), (dV (dCb bTuple [(dV (dFz (dSD (dFz (dComp (dIt (dOp2 oAdd (dV (pu (p2 oIx (rd 3) (fun _ => some (.int 1))))) (dV (dOp2 oIx (dV (dCall 0 sp__law_mirrored [(dV (pu (rdv 3))), (dV (pu (rdv 8)))])) (dV (pu (fun _ => some (.int 1)))))))) [11] (tgN 11) dYes (pu (pTup [(rdv 11), (fun _ => some (.bl true))])))))))]))]))])
 (dBlk [])),
 (dAsg (pu (rdv 3)) (tgT [(tgN 4), (tgN 5)])),
 (dSet 6 (dOp2 oIx (dV (dFz (dComp (dRg [(dV (pu (fun _ => some (.int 1)))), (dV (pu (p2 oAdd (rd 4) (fun _ => some (.int 1)))))]) [8] (tgN 8) (dTst (dOp2 oEq (dV (dCall 0 sp__law_turned [(dV (pu (rdv 3))), (dV (pu (rdv 8)))])) (dV (pu (rdv 3))))) (pu (rdv 8))))) (dV (pu (fun _ => some (.int 0)))))),
 (dIf (dOr (dNot (dTst (dCall 0 sp__law_is [(dV (dFz (dLst [(dV (dCall 0 sp_period [(dV (pu (rdv 3)))])), (dV (dCallK 0 sp_period [0] [] [(dV (pu (rdv 3)))]))]))), (dV (pu (fun ρ => Option.map D.lst ((evs [(rdv 6), (rdv 6)]) ρ))))]))) (dOr (pt (p2 oNe (p2 oMod (rd 4) (rd 6)) (fun _ => some (.int 0)))) (pt (p2 oNe (p2 oMod (pC bLen [(rd 5)]) (p2 oDiv (rd 4) (rd 6))) (fun _ => some (.int 0))))))
 (dBlk [(dRet (pu (fun _ => some (.bl false))))])
 (dBlk [])),
 (dSetF 7 (dComp (dRg [(dV (pu (rdv 4)))]) [8] (tgN 8) (dTst (dOp2 oEq (dV (dCall 0 sp__law_mirrored [(dV (pu (rdv 3))), (dV (pu (rdv 8)))])) (dV (pu (rdv 3))))) (pu (rdv 8)))),
 (dIf (dOr (dNot (dTst (dCall 0 sp__law_is [(dV (dFz (dLst [(dV (dCall 0 sp_axes [(dV (pu (rdv 3)))])), (dV (dCallK 0 sp_axes [0] [] [(dV (pu (rdv 3)))]))]))), (dV (pu (fun ρ => Option.map D.lst ((evs [(rdv 7), (rdv 7)]) ρ))))]))) (pt (p2 (inD true) (pC bLen [(rd 7)]) (fun ρ => Option.map D.lst ((evs [(fun _ => some (.int 0)), (p2 oDiv (rd 4) (rd 6))]) ρ)))))
 (dBlk [(dRet (pu (fun _ => some (.bl false))))])
 (dBlk [])),
 (dSet 8 (dCall 1 sp__law_draw [(dV (pu (rdv 1))), (dV (pu (rdv 4)))])),
 (dIf (dNot (dTst (dCall 0 sp__law_is [(dV (dFz (dLst [(dV (dCall 0 sp_period [(dV (dCall 0 sp__law_turned [(dV (pu (rdv 3))), (dV (pu (rdv 8)))]))])), (dV (dCall 0 sp_period [(dV (dCall 0 sp__law_mirrored [(dV (pu (rdv 3))), (dV (pu (rdv 8)))]))]))]))), (dV (pu (fun ρ => Option.map D.lst ((evs [(rdv 6), (rdv 6)]) ρ))))])))
 (dBlk [(dRet (pu (fun _ => some (.bl false))))])
 (dBlk [])),
 (dIf (dOr (dTst (dOp2 oNe (dV (dCb bLen [(dV (dCall 0 sp_axes [(dV (dCall 0 sp__law_turned [(dV (pu (rdv 3))), (dV (pu (rdv 8)))]))]))])) (dV (pu (pC bLen [(rd 7)]))))) (dTst (dOp2 oNe (dV (dCall 0 sp_axes [(dV (dCall 0 sp__law_turned [(dV (pu (rdv 3))), (dV (pu (rdv 8)))]))])) (dV (dFz (dCbF bSorted [(dV (dFz (dComp (dIt (pu (rdv 7))) [10] (tgN 10) dYes (pu (p2 oMod (p2 oAdd (rd 10) (p2 oMul (fun _ => some (.int 2)) (rd 8))) (rd 4))))))]))))))
 (dBlk [(dRet (pu (fun _ => some (.bl false))))])
 (dBlk [])),
 (dSet 9 (dCall 1 sp__law_odd_round [(dV (pu (rdv 1)))])),
 (dIf (dNot (dTst (dUn (oIsI (isC 1)) (dV (dCaught isR (dCall 0 sp_period [(dV (pu (rdv 9)))]))))))
 (dBlk [(dRet (pu (fun _ => some (.bl false))))])
 (dBlk [])),
 (dIf (dNot (dTst (dUn (oIsI (isC 1)) (dV (dCaught isR (dCall 0 sp_axes [(dV (pu (rdv 9)))]))))))
 (dBlk [(dRet (pu (fun _ => some (.bl false))))])
 (dBlk []))])
def d_law : DS :=
 (dBlk [(dFor (dRg [(dV (pu (p2 oAdd (fun _ => some (.int 4)) (pC bMinT [(pC bLen [(rd 0)]), (fun _ => some (.int 8))]))))]) (tgN 2)
 b_law_1),
 (dRet (pu (fun _ => some (.bl true))))])
theorem wk_law {P : Program} {w : World} {K : PySem.W.Frag} {mg : Str → Option Value} {base : Heap} {cA : Nat → Addr} {fa : Addr} (BB : BT mg btL) {h0 : Hp} {lo : Nat → Addr → HO} {fg CS cc cP : Addr} (T__law_draw : FT P w K mg base ⟨K, cA, flD⟩ "_law_draw" ["state", "room"] 4 1 sp__law_draw kws__law_draw) (T__law_is : FT P w K mg base ⟨K, cA, flD⟩ "_law_is" ["found", "due"] 13 0 sp__law_is kws__law_is) (T__law_mirrored : FT P w K mg base ⟨K, cA, flD⟩ "_law_mirrored" ["circle", "by"] 3 0 sp__law_mirrored kws__law_mirrored) (T__law_odd_round : FT P w K mg base ⟨K, cA, flD⟩ "_law_odd_round" ["state"] 6 1 sp__law_odd_round kws__law_odd_round) (T__law_pick : FT P w K mg base ⟨K, cA, flD⟩ "_law_pick" ["state", "some"] 5 1 sp__law_pick kws__law_pick) (T__law_round : FT P w K mg base ⟨K, cA, flD⟩ "_law_round" ["state", "most"] 6 300 sp__law_round kws__law_round) (T__law_turned : FT P w K mg base ⟨K, cA, flD⟩ "_law_turned" ["circle", "by"] 3 0 sp__law_turned kws__law_turned) (T_axes : FT P w K mg base ⟨K, cA, flD⟩ "axes" ["circle"] 7 0 sp_axes kws_axes) (T_period : FT P w K mg base ⟨K, cA, flD⟩ "period" ["circle"] 7 0 sp_period kws_period) (i_BadRound : mg "BadRound" = some (.ref (cA 1)) ∧ IsOk ⟨K, cA, flD⟩ (.ref (cA 1)) (isC 1)) {cdv : Value} {A : Around} {outer : List PySem.Env} {s : Shared} {H : Hp} {E : XK} {W : Wd} {B : Nat} (hr : Room 15 (A.deeper (envOfC "law" (defScope s_law) s.heap.objs.size fa cdv))) (C : Ctx (cxOf (L2.CX P w) P w K mg base N_law "law" (defScope s_law) fa cdv A outer s H E) ⟨⟨K, cA, flD⟩, W, h0, lo, E, B⟩) (LT : LamT (cxOf (L2.CX P w) P w K mg base N_law "law" (defScope s_law) fa cdv A outer s H E) ⟨⟨K, cA, flD⟩, W, h0, lo, E, B⟩ fg CS cc cP isR) : JSs ⟨⟨K, cA, flD⟩, W, h0, lo, E, B⟩ (cxOf (L2.CX P w) P w K mg base N_law "law" (defScope s_law) fa cdv A outer s H E) ((defBody s_law).drop 1) (d_law) :=
 (jss_cons (js_for C (vs := [2]) (ji_rg1 rfl BB.get (ja_cons (jv (je_opP or_add ok_add (jpb je_int) (jpb (je_bOP (fs := [(pC bLen [(rd 0)]), (fun _ => some (.int 8))]) (bo_minT C BB) rfl (jb_cons (jpb (je_bOP (fs := [(rd 0)]) (bo_len C BB) rfl (jb_cons (jb_own (pv 0)) ja_nil))) (jb_cons (jpb je_int) ja_nil)))))) ja_nil)) (jg_name (pg_name C.nd (i := 2) rfl (by first | exact .inl rfl | exact .inr rfl)))
 (jss_cons (js_set C (je_ct C T__law_round (hr.mono (by decide)) rfl (ja_cons (jv (je_var (pv 1))) (ja_cons (jv (je_ct C T__law_pick (hr.mono (by decide)) rfl (ja_cons (jv (je_var (pv 1))) (ja_cons (jv (jpf (jf_lstP (fs := [(fun _ => some (.int 30)), (fun _ => some (.int 12)), (fun _ => some (.int 60)), (pIf (p2 oEq (rd 2) (fun _ => some (.int 0))) (fun _ => some (.int 240)) (fun _ => some (.int 24)))]) (jc_cons je_int (jc_cons je_int (jc_cons je_int (jc_cons (je_ifP (jt_cmpP (op_eqD (uu C 64)) ok_eq (jb_own (pv 2)) (jpb je_int) (nomark _)) je_int je_int) ja_nil))))))) ja_nil)))) ja_nil))) (i := 3) rfl (by first | exact .inl rfl | exact .inr rfl))
 (jss_cons (js_if (jt_cmp (op_eqD (uu C 64)) ok_eq (jv (je_ct C T__law_draw (hr.mono (by decide)) rfl (ja_cons (jv (je_var (pv 1))) (ja_cons (jv je_int) ja_nil)))) (jv je_int) (nomark _))
 (jss_cons (js_set C (je_ct C T__law_draw (hr.mono (by decide)) rfl (ja_cons (jv (je_var (pv 1))) (ja_cons (jv (je_ixP ix_seq ok_ix (jb_own (pv 3)) (jpb je_int))) ja_nil))) (i := 8) rfl (by first | exact .inl rfl | exact .inr rfl))
 (jss_cons (js_set C (je_tup (ja_cons (jv (je_ixP ix_seq ok_ix (jb_own (pv 3)) (jpb je_int))) (ja_cons (jv (je_bO (bo_tuple C BB) rfl (ja_cons (jv (jfz (jf_sortD C rfl BB.get rfl BB.get (jfz (jf_lc C (own := [("onset", 11)]) (ji_seq C (je_op or_add ok_add (jv (je_ixP ix_seq ok_ix (jb_own (pv 3)) (jpb je_int))) (jv (je_ix ix_seq ok_ix (jv (je_ct C T__law_mirrored (hr.mono (by decide)) rfl (ja_cons (jv (je_var (pv 3))) (ja_cons (jv (je_var (pv 8))) ja_nil)))) (jv je_int))))) (blkOk_by (by rfl)) (fun _ _ _ _ _ _ => (jg_name (pg_name C.nd (i := 11) rfl (by first | exact .inl rfl | exact .inr rfl)))) (fun _ _ _ _ _ _ => jts_nil) (fun _ _ _ _ _ _ => (je_tupP (fs := [(rdv 11), (fun _ => some (.bl true))]) (jc_cons (je_var (pv 11)) (jc_cons je_bl ja_nil))))))))) ja_nil))) ja_nil))) (i := 3) rfl (by first | exact .inl rfl | exact .inr rfl))
 jss_nil))
 jss_nil)
 (jss_cons (js_asg (vs := [4, 5]) (je_var (pv 3)) (jg_tup C (jgs_cons (jg_name (pg_name C.nd (i := 4) rfl (by first | exact .inl rfl | exact .inr rfl))) (jgs_cons (jg_name (pg_name C.nd (i := 5) rfl (by first | exact .inl rfl | exact .inr rfl))) jgs_nil))))
 (jss_cons (js_set C (je_ix ix_seq ok_ix (jv (jfz (jf_lc C (own := [("by", 8)]) (ji_rg2 rfl BB.get (ja_cons (jv je_int) (ja_cons (jv (je_opP or_add ok_add (jb_own (pv 4)) (jpb je_int))) ja_nil))) (blkOk_by (by rfl)) (fun _ _ _ _ _ _ => (jg_name (pg_name C.nd (i := 8) rfl (by first | exact .inl rfl | exact .inr rfl)))) (fun _ _ _ _ _ _ => (jts_one (jt_cmp (op_eqD (uu C 64)) ok_eq (jv (je_ct C.blk T__law_turned (hr.mono (by decide)) rfl (ja_cons (jv (je_var (pv 3))) (ja_cons (jv (je_var (pv 8))) ja_nil)))) (jv (je_var (pv 3))) (nomark _)))) (fun _ _ _ _ _ _ => (je_var (pv 8)))))) (jv je_int)) (i := 6) rfl (by first | exact .inl rfl | exact .inr rfl))
 (jss_cons (js_if (jt_w (jw_or (jt_not (jt_val (je_ct C T__law_is (hr.mono (by decide)) rfl (ja_cons (jv (jfz (jf_lst (ja_cons (jv (je_ct C T_period (hr.mono (by decide)) rfl (ja_cons (jv (je_var (pv 3))) ja_nil))) (ja_cons (jv (je_ctK0 (js := [0]) (ks := ["circle"]) C T_period (hr.mono (by decide)) rfl (by decide) (fun xs h => pick_len xs h (by decide)) (jk_cons (jv (je_var (pv 3))) jk_nil))) ja_nil))))) (ja_cons (jv (jpf (jf_lstP (fs := [(rdv 6), (rdv 6)]) (jc_cons (je_var (pv 6)) (jc_cons (je_var (pv 6)) ja_nil))))) ja_nil))))) (jw_or (jt_cmpP (op_neD (uu C 64)) ok_ne (jpb (je_opP op_mod ok_mod (jb_own (pv 4)) (jb_own (pv 6)))) (jpb je_int) (nomark _)) (jw_or1 (jt_cmpP (op_neD (uu C 64)) ok_ne (jpb (je_opP op_mod ok_mod (jpb (je_bOP (fs := [(rd 5)]) (bo_len C BB) rfl (jb_cons (jb_own (pv 5)) ja_nil))) (jpb (je_opP op_fdivW ok_div (jb_own (pv 4)) (jb_own (pv 6)))))) (jpb je_int) (nomark _))))))
 (jss_cons (js_ret je_bl)
 jss_nil)
 jss_nil)
 (jss_cons (js_lcF (js_lc C (i := 7) rfl rfl rfl (own := [("by", 8)]) (ji_rg1 rfl BB.get (ja_cons (jv (je_var (pv 4))) ja_nil)) (blkOk_by (by rfl)) (fun _ _ _ _ _ _ => (jg_name (pg_name C.nd (i := 8) rfl (by first | exact .inl rfl | exact .inr rfl)))) (fun _ _ _ _ _ _ => (jts_one (jt_cmp (op_eqD (uu C 64)) ok_eq (jv (je_ct C.blk T__law_mirrored (hr.mono (by decide)) rfl (ja_cons (jv (je_var (pv 3))) (ja_cons (jv (je_var (pv 8))) ja_nil)))) (jv (je_var (pv 3))) (nomark _)))) (fun _ _ _ _ _ _ => (je_var (pv 8)))))
 (jss_cons (js_if (jt_w (jw_or (jt_not (jt_val (je_ct C T__law_is (hr.mono (by decide)) rfl (ja_cons (jv (jfz (jf_lst (ja_cons (jv (je_ct C T_axes (hr.mono (by decide)) rfl (ja_cons (jv (je_var (pv 3))) ja_nil))) (ja_cons (jv (je_ctK0 (js := [0]) (ks := ["circle"]) C T_axes (hr.mono (by decide)) rfl (by decide) (fun xs h => pick_len xs h (by decide)) (jk_cons (jv (je_var (pv 3))) jk_nil))) ja_nil))))) (ja_cons (jv (jpf (jf_lstP (fs := [(rdv 7), (rdv 7)]) (jc_cons (je_var (pv 7)) (jc_cons (je_var (pv 7)) ja_nil))))) ja_nil))))) (jw_or1 (jt_cmpP op_notIn_seq ok_in (jpb (je_bOP (fs := [(rd 7)]) (bo_len C BB) rfl (jb_cons (jb_own (pv 7)) ja_nil))) (jpb (jpf (jf_lstP (fs := [(fun _ => some (.int 0)), (p2 oDiv (rd 4) (rd 6))]) (jc_cons je_int (jc_cons (je_opP op_fdivW ok_div (jb_own (pv 4)) (jb_own (pv 6))) ja_nil))))) (by with_unfolding_all rfl)))))
 (jss_cons (js_ret je_bl)
 jss_nil)
 jss_nil)
 (jss_cons (js_set C (je_ct C T__law_draw (hr.mono (by decide)) rfl (ja_cons (jv (je_var (pv 1))) (ja_cons (jv (je_var (pv 4))) ja_nil))) (i := 8) rfl (by first | exact .inl rfl | exact .inr rfl))
 (jss_cons (js_if (jt_not (jt_val (je_ct C T__law_is (hr.mono (by decide)) rfl (ja_cons (jv (jfz (jf_lst (ja_cons (jv (je_ct C T_period (hr.mono (by decide)) rfl (ja_cons (jv (je_ct C T__law_turned (hr.mono (by decide)) rfl (ja_cons (jv (je_var (pv 3))) (ja_cons (jv (je_var (pv 8))) ja_nil)))) ja_nil))) (ja_cons (jv (je_ct C T_period (hr.mono (by decide)) rfl (ja_cons (jv (je_ct C T__law_mirrored (hr.mono (by decide)) rfl (ja_cons (jv (je_var (pv 3))) (ja_cons (jv (je_var (pv 8))) ja_nil)))) ja_nil))) ja_nil))))) (ja_cons (jv (jpf (jf_lstP (fs := [(rdv 6), (rdv 6)]) (jc_cons (je_var (pv 6)) (jc_cons (je_var (pv 6)) ja_nil))))) ja_nil)))))
 (jss_cons (js_ret je_bl)
 jss_nil)
 jss_nil)
 (jss_cons (js_if (jt_w (jw_or (jt_cmp (op_neD (uu C 64)) ok_ne (jv (je_bO (bo_len C BB) rfl (ja_cons (jv (je_ct C T_axes (hr.mono (by decide)) rfl (ja_cons (jv (je_ct C T__law_turned (hr.mono (by decide)) rfl (ja_cons (jv (je_var (pv 3))) (ja_cons (jv (je_var (pv 8))) ja_nil)))) ja_nil))) ja_nil))) (jv (je_bOP (fs := [(rd 7)]) (bo_len C BB) rfl (jb_cons (jb_own (pv 7)) ja_nil))) (nomark _)) (jw_or1 (jt_cmp (op_neD (uu C 64)) ok_ne (jv (je_ct C T_axes (hr.mono (by decide)) rfl (ja_cons (jv (je_ct C T__law_turned (hr.mono (by decide)) rfl (ja_cons (jv (je_var (pv 3))) (ja_cons (jv (je_var (pv 8))) ja_nil)))) ja_nil))) (jv (jfz (jf_bO (bo_sorted C BB) rfl (ja_cons (jv (jfz (jf_lc C (own := [("one", 10)]) (ji_seq C (je_var (pv 7))) (blkOk_by (by rfl)) (fun _ _ _ _ _ _ => (jg_name (pg_name C.nd (i := 10) rfl (by first | exact .inl rfl | exact .inr rfl)))) (fun _ _ _ _ _ _ => jts_nil) (fun _ _ _ _ _ _ => (je_opP op_mod ok_mod (jpb (je_opP or_add ok_add (jb_own (pv 10)) (jpb (je_opP op_mulW ok_mul (jpb je_int) (jb_own (pv 8)))))) (jb_own (pv 4))))))) ja_nil)))) (nomark _)))))
 (jss_cons (js_ret je_bl)
 jss_nil)
 jss_nil)
 (jss_cons (js_set C (je_ct C T__law_odd_round (hr.mono (by decide)) rfl (ja_cons (jv (je_var (pv 1))) ja_nil)) (i := 9) rfl (by first | exact .inl rfl | exact .inr rfl))
 (jss_cons (js_if (jt_not (jt_val (je_isI C (i_BadRound).2 cls_rel rfl BB.get (jv (je_caught (k := 13) C LT rfl (hr.mono (by decide)) (LamX.lamS_by (by rfl)) (fun _ _ _ _ _ _ _ hrl CL => (je_ct CL T_period (hrl.mono (by decide)) rfl (ja_cons (jv (je_var (pv 9))) ja_nil))))) (pe_glob rfl (i_BadRound).1 rfl))))
 (jss_cons (js_ret je_bl)
 jss_nil)
 jss_nil)
 (jss_cons (js_if (jt_not (jt_val (je_isI C (i_BadRound).2 cls_rel rfl BB.get (jv (je_caught (k := 13) C LT rfl (hr.mono (by decide)) (LamX.lamS_by (by rfl)) (fun _ _ _ _ _ _ _ hrl CL => (je_ct CL T_axes (hrl.mono (by decide)) rfl (ja_cons (jv (je_var (pv 9))) ja_nil))))) (pe_glob rfl (i_BadRound).1 rfl))))
 (jss_cons (js_ret je_bl)
 jss_nil)
 jss_nil)
 jss_nil))))))))))))))
 (jss_cons (js_ret je_bl)
 jss_nil))
def d1__law_begun : DF := (dComp (dIt (pu (rdv 0))) [2] (tgN 2) (pt (p2 oGe (pC bAbs [(rd 2)]) (p2 oPow (fun _ => some (.int 10)) (fun _ => some (.int 18))))) (pu (p2 oSub (pC bAbs [(rd 2)]) (p2 oPow (fun _ => some (.int 10)) (fun _ => some (.int 18))))))
def d2__law_begun : DF := (dComp (dIt (pu (rdv 0))) [2] (tgN 2) dYes (pu (pC bAbs [(rd 2)])))
theorem isR_0 : isR 0 = true := rfl
theorem isC_n_0 : isC 0 .non = some false := rfl
theorem isC_0_0 {ds : List D} : isC 0 (.exc 0 ds) = some true := rfl
theorem isC_1_0 {ds : List D} : isC 1 (.exc 0 ds) = some false := rfl
theorem isR_1 : isR 1 = true := rfl
theorem isC_n_1 : isC 1 .non = some false := rfl
theorem isC_0_1 {ds : List D} : isC 0 (.exc 1 ds) = some true := rfl
theorem isC_1_1 {ds : List D} : isC 1 (.exc 1 ds) = some true := rfl
def WCL := And.intro @isR_0 (And.intro @isC_n_0 (And.intro @isC_0_0 (And.intro @isC_1_0 (And.intro @isR_1 (And.intro @isC_n_1 (And.intro @isC_0_1 (@isC_1_1)))))))
end K03
namespace K03
open PySem PySem.Spec PyProof.Rows L2 DL

theorem sem__law_draw (ds : List D) (PQ : D → Prop) (PX : Nat → List D → Prop) (hl : ds.length = 2) (h : sp__law_draw ds PQ PX) : d__law_draw (startE N__law_draw.length 1 ds) ⟨fun _ => PQ .non, PQ, fun _ => False, fun _ => False, PX⟩ := by
  have ⟨room, e, ⟨h0, h1⟩, k⟩ : ∃ room, ds = [.st, .int room] ∧ sd (0 < room ∧ room < 2 ^ 200) (anyI room PQ) := by
    unfold sp__law_draw spDraw at h
    split at h
    · exact ⟨_, rfl, h⟩
    · exact h.elim
  subst e
  show d__law_draw [.val .st, .val (.int room), .un, .fuel 1] _
  refine blk_w (fun ρ => ∃ fu, ρ = [.val .st, .val (.int room), .un, .fuel fu]) (fun K hK => ?_) ?_
  · (try simp -dsimp (disch := first | omega | assumption | (refine id ?_; with_unfolding_all exact Eq.refl true) | (and_intros <;> first | assumption | omega | with_unfolding_all exact Eq.refl true | with_unfolding_all exact le1 (Eq.refl true)) | (simp only [WLEN]; omega) | fail) only [↓WA, ↓dCL_c, ↓WRV, ↓dPar3_w, ↓dSD_w, ↓WS, ↓WM, ↓WG, WCL, WB, WC, WD, WEE, WTY, WRE, WF, WH, Int.zero_add, Int.reduceToNat, Int.reducePow, Nat.reduceBEq, Nat.reduceAdd, Nat.reduceSub, Nat.reduceMul, Nat.reduceEqDiff, Int.reduceAdd, Int.reduceSub, Int.reduceMul, Int.reduceNeg, Int.reduceEq, Int.reduceLT, Int.reduceLE, Int.cast_ofNat_Int, Int.natCast_one, Int.natCast_zero])
    intro n hn
    refine wif_i (fun _ => ?_) (fun _ => ?_)
    · (try simp -dsimp (disch := first | omega | assumption | (refine id ?_; with_unfolding_all exact Eq.refl true) | (and_intros <;> first | assumption | omega | with_unfolding_all exact Eq.refl true | with_unfolding_all exact le1 (Eq.refl true)) | (simp only [WLEN]; omega) | fail) only [↓WA, ↓dCL_c, ↓WRV, ↓dPar3_w, ↓dSD_w, ↓WS, ↓WM, ↓WG, WCL, WB, WC, WD, WEE, WTY, WRE, WF, WH, Int.zero_add, Int.reduceToNat, Int.reducePow, Nat.reduceBEq, Nat.reduceAdd, Nat.reduceSub, Nat.reduceMul, Nat.reduceEqDiff, Int.reduceAdd, Int.reduceSub, Int.reduceMul, Int.reduceNeg, Int.reduceEq, Int.reduceLT, Int.reduceLE, Int.cast_ofNat_Int, Int.natCast_one, Int.natCast_zero])
      refine ⟨fun m hm => ?_, rfl, fun m hm => ?_⟩
      · (try simp -dsimp (disch := first | omega | assumption | (refine id ?_; with_unfolding_all exact Eq.refl true) | (and_intros <;> first | assumption | omega | with_unfolding_all exact Eq.refl true | with_unfolding_all exact le1 (Eq.refl true)) | (simp only [WLEN]; omega) | fail) only [↓WA, ↓dCL_c, ↓WRV, ↓dPar3_w, ↓dSD_w, ↓WS, ↓WM, ↓WG, WCL, WB, WC, WD, WEE, WTY, WRE, WF, WH, Int.zero_add, Int.reduceToNat, Int.reducePow, Nat.reduceBEq, Nat.reduceAdd, Nat.reduceSub, Nat.reduceMul, Nat.reduceEqDiff, Int.reduceAdd, Int.reduceSub, Int.reduceMul, Int.reduceNeg, Int.reduceEq, Int.reduceLT, Int.reduceLE, Int.cast_ofNat_Int, Int.natCast_one, Int.natCast_zero])
        exact hK _ ⟨_, rfl⟩
      · (try simp -dsimp (disch := first | omega | assumption | (refine id ?_; with_unfolding_all exact Eq.refl true) | (and_intros <;> first | assumption | omega | with_unfolding_all exact Eq.refl true | with_unfolding_all exact le1 (Eq.refl true)) | (simp only [WLEN]; omega) | fail) only [↓WA, ↓dCL_c, ↓WRV, ↓dPar3_w, ↓dSD_w, ↓WS, ↓WM, ↓WG, WCL, WB, WC, WD, WEE, WTY, WRE, WF, WH, Int.zero_add, Int.reduceToNat, Int.reducePow, Nat.reduceBEq, Nat.reduceAdd, Nat.reduceSub, Nat.reduceMul, Nat.reduceEqDiff, Int.reduceAdd, Int.reduceSub, Int.reduceMul, Int.reduceNeg, Int.reduceEq, Int.reduceLT, Int.reduceLE, Int.cast_ofNat_Int, Int.natCast_one, Int.natCast_zero])
        exact hK _ ⟨_, rfl⟩
    · (try simp -dsimp (disch := first | omega | assumption | (refine id ?_; with_unfolding_all exact Eq.refl true) | (and_intros <;> first | assumption | omega | with_unfolding_all exact Eq.refl true | with_unfolding_all exact le1 (Eq.refl true)) | (simp only [WLEN]; omega) | fail) only [↓WA, ↓dCL_c, ↓WRV, ↓dPar3_w, ↓dSD_w, ↓WS, ↓WM, ↓WG, WCL, WB, WC, WD, WEE, WTY, WRE, WF, WH, Int.zero_add, Int.reduceToNat, Int.reducePow, Nat.reduceBEq, Nat.reduceAdd, Nat.reduceSub, Nat.reduceMul, Nat.reduceEqDiff, Int.reduceAdd, Int.reduceSub, Int.reduceMul, Int.reduceNeg, Int.reduceEq, Int.reduceLT, Int.reduceLE, Int.cast_ofNat_Int, Int.natCast_one, Int.natCast_zero])
      exact hK _ ⟨_, rfl⟩
  · rintro _ ⟨fu, rfl⟩
    (try simp -dsimp (disch := first | omega | assumption | (refine id ?_; with_unfolding_all exact Eq.refl true) | (and_intros <;> first | assumption | omega | with_unfolding_all exact Eq.refl true | with_unfolding_all exact le1 (Eq.refl true)) | (simp only [WLEN]; omega) | fail) only [↓WA, ↓dCL_c, ↓WRV, ↓dPar3_w, ↓dSD_w, ↓WS, ↓WM, ↓WG, WCL, WB, WC, WD, WEE, WTY, WRE, WF, WH, Int.zero_add, Int.reduceToNat, Int.reducePow, Nat.reduceBEq, Nat.reduceAdd, Nat.reduceSub, Nat.reduceMul, Nat.reduceEqDiff, Int.reduceAdd, Int.reduceSub, Int.reduceMul, Int.reduceNeg, Int.reduceEq, Int.reduceLT, Int.reduceLE, Int.cast_ofNat_Int, Int.natCast_one, Int.natCast_zero])
    intro n hn m hm
    refine sd_i (Int.ediv_nonneg hm (Int.le_of_lt h0)) ?_
    (try simp -dsimp (disch := first | omega | assumption | (refine id ?_; with_unfolding_all exact Eq.refl true) | (and_intros <;> first | assumption | omega | with_unfolding_all exact Eq.refl true | with_unfolding_all exact le1 (Eq.refl true)) | (simp only [WLEN]; omega) | fail) only [↓WA, ↓dCL_c, ↓WRV, ↓dPar3_w, ↓dSD_w, ↓WS, ↓WM, ↓WG, WCL, WB, WC, WD, WEE, WTY, WRE, WF, WH, Int.zero_add, Int.reduceToNat, Int.reducePow, Nat.reduceBEq, Nat.reduceAdd, Nat.reduceSub, Nat.reduceMul, Nat.reduceEqDiff, Int.reduceAdd, Int.reduceSub, Int.reduceMul, Int.reduceNeg, Int.reduceEq, Int.reduceLT, Int.reduceLE, Int.cast_ofNat_Int, Int.natCast_one, Int.natCast_zero])
    exact k _ (Int.emod_nonneg _ (Int.ne_of_gt h0)) (Int.emod_lt_of_pos _ h0)

def pL : List D := [.int 2147483323, .int 2147483269, .int 2147483249, .int 2147483237]
theorem pL_ok {i : Nat} {p : D} (h : pL[i]? = some p) : ∃ q : Int, p = .int q ∧ 2147483200 < q ∧ q < 2147483647 ∧ i < 4 := by
  rcases i with _ | _ | _ | _ | i
  · cases h; exact ⟨2147483323, rfl, by omega, by omega, by omega⟩
  · cases h; exact ⟨2147483269, rfl, by omega, by omega, by omega⟩
  · cases h; exact ⟨2147483249, rfl, by omega, by omega, by omega⟩
  · cases h; exact ⟨2147483237, rfl, by omega, by omega, by omega⟩
  · cases h
theorem pow_le {a b : Nat} (h : a ≤ b) : (2 : Int) ^ a ≤ 2 ^ b := by exact_mod_cast Nat.pow_le_pow_right (n := 2) (by decide) h
/-- one prime's turn: what the body needs -/
def mixB : DS := (dBlk [(dSet 4 (pu (p2 oAdd (p2 oMul (fun _ => some (.int 69621)) (rd 1)) (p2 oDiv (rd 3) (fun _ => some (.int 41)))))),
 (dFor (dIt (dStC (pu (rdv 0)))) (tgN 5)
 (dBlk [(dSet 4 (pu (p2 oMod (pC bInt [(p2 oAdd (p2 oAdd (p2 oMul (rd 4) (fun _ => some (.int 48271))) (rd 5)) (rd 1))]) (rd 3))))])),
 (dSet 2 (pu (p2 oAdd (p2 oMul (rd 2) (fun _ => some (.int 2147483659))) (p2 oMod (pC bInt [(p2 oPow (rd 4) (fun _ => some (.int 5)))]) (rd 3)))))])
theorem mixB_ok {t m q : Int} {y z : SV} {N : DN} (t0 : 0 ≤ t) (t1 : t < 2 ^ 46) (m0 : 0 ≤ m) (m1 : m < 2 ^ 200) (q0 : 2147483200 < q) (q1 : q < 2147483647) (k : ∀ r y z, 0 ≤ r → r < q → N.nx [.val .st, .val (.int t), .val (.int (m * 2147483659 + r)), .val (.int q), y, z, .fuel 0]) :
    mixB [.val .st, .val (.int t), .val (.int m), .val (.int q), y, z, .fuel 0] N := by
  refine blk_m (fun ρ => ∃ b : Int, 0 ≤ b ∧ b < 2 ^ 63 ∧ ρ = [.val .st, .val (.int t), .val (.int m), .val (.int q), .val (.int b), z, .fuel 0]) ?_ fun K hK => ?_
  · rintro _ ⟨b, b0, b1, rfl⟩
    refine blk_m (fun ρ => ∃ b : Int, ∃ z, 0 ≤ b ∧ b < 2 ^ 63 ∧ ρ = [.val .st, .val (.int t), .val (.int m), .val (.int q), .val (.int b), z, .fuel 0]) ?_ fun K hK => ?_
    · rintro _ ⟨b, z, b0, b1, rfl⟩
      simp only [dBlk, dSeq, dNx, dIf, dRet, dRetN, dSet, dSetM, dSetF, dPar, dParMM, dParMV, dParVM, dDrop, dFor, dIt, dAsg, dOp2, dOpF, dUn, dV, dFz, pu, pb, pt, pf, po, po0, dTst, dNot, dAnd, dOr, dAndV, dOrV, dNotV, dIfE, dCh, dCall, dCallK, dArgs, dCb, dCbF, dTup, dLst, dStG, dStT, dStC, dStSR, dStST, dStP, dRaise, dRaise1, dRg, dEnum, dZip, dLRg1, dLRg2, dComp, dComp2, dApp, dPop, dPopI, dVF, dFrz, dSlF, DN.x]
      exact ⟨_, p2_e (p2_e rfl rfl (mul_i (by omega) (by decide))) (p2_e (pC_e1 (p2_e rfl rfl (oPow_i (by decide) (by decide) (by omega))) (bInt_i _)) rfl (oMod_i (by omega))) rfl, k _ _ _ (Int.emod_nonneg _ (by omega)) (Int.emod_lt_of_pos _ (by omega))⟩
    · simp only [dBlk, dSeq, dNx, dIf, dRet, dRetN, dSet, dSetM, dSetF, dPar, dParMM, dParMV, dParVM, dDrop, dFor, dIt, dAsg, dOp2, dOpF, dUn, dV, dFz, pu, pb, pt, pf, po, po0, dTst, dNot, dAnd, dOr, dAndV, dOrV, dNotV, dIfE, dCh, dCall, dCallK, dArgs, dCb, dCbF, dTup, dLst, dStG, dStT, dStC, dStSR, dStST, dStP, dRaise, dRaise1, dRg, dEnum, dZip, dLRg1, dLRg2, dComp, dComp2, dApp, dPop, dPopI, dVF, dFrz, dSlF, DN.x]
      refine ⟨_, rfl, rfl, fun ns hns => ⟨_, rfl, ?_⟩⟩
      refine dFL_all (fun ρ => ∃ b : Int, ∃ z, 0 ≤ b ∧ b < 2 ^ 63 ∧ ρ = [.val .st, .val (.int t), .val (.int m), .val (.int q), .val (.int b), z, .fuel 0]) ⟨b, z, b0, b1, rfl⟩ ?_ hK
      rintro x _ K hx ⟨b, z, b0, b1, rfl⟩ hK
      obtain ⟨c, _, rfl⟩ := List.mem_map.mp hx
      exact ⟨_, rfl, _, p2_e (pC_e1 (p2_e (p2_e (p2_e rfl rfl (mul_i (by omega) (by decide))) rfl rfl) rfl rfl) (bInt_i _)) rfl (oMod_i (by omega)), hK _ ⟨_, _, Int.emod_nonneg _ (by omega), Int.lt_trans (Int.emod_lt_of_pos _ (by omega)) (by omega), rfl⟩⟩
  · simp only [dBlk, dSeq, dNx, dIf, dRet, dRetN, dSet, dSetM, dSetF, dPar, dParMM, dParMV, dParVM, dDrop, dFor, dIt, dAsg, dOp2, dOpF, dUn, dV, dFz, pu, pb, pt, pf, po, po0, dTst, dNot, dAnd, dOr, dAndV, dOrV, dNotV, dIfE, dCh, dCall, dCallK, dArgs, dCb, dCbF, dTup, dLst, dStG, dStT, dStC, dStSR, dStST, dStP, dRaise, dRaise1, dRg, dEnum, dZip, dLRg1, dLRg2, dComp, dComp2, dApp, dPop, dPopI, dVF, dFrz, dSlF, DN.x]
    exact ⟨_, p2_e (p2_e rfl rfl (mul_i (by decide) (by omega))) (p2_e rfl rfl (oDiv_i (by decide) (by decide))) rfl, hK _ ⟨_, by omega, by omega, rfl⟩⟩
theorem sem__law_mixed (B : Nat) (ds : List D) (PQ : D → Prop) (PX : Nat → List D → Prop) (hB : B ≤ BIG) (hl : ds.length = 1) (h : sp__law_mixed ds PQ PX) : d__law_mixed B (startE N__law_mixed.length 1 ds) ⟨fun _ => PQ .non, PQ, fun _ => False, fun _ => False, PX⟩ := by
  obtain ⟨rfl, k⟩ := h
  show d__law_mixed B [.val .st, .un, .un, .un, .un, .un, .fuel 1] _
  refine blk_m (fun ρ => ∃ t : Int, 0 ≤ t ∧ t ≤ B ∧ ρ = [.val .st, .val (.int t), .val (.int 0), .un, .un, .un, .fuel 1]) ?_ fun K hK => ?_
  · rintro _ ⟨t, t0, t1, rfl⟩
    have t2 : t < 2 ^ 46 := Int.lt_of_le_of_lt t1 (Int.lt_of_le_of_lt (Int.ofNat_le.mpr hB) (by decide))
    refine blk_m (fun ρ => ρ = [.val .st, .val (.int t), .val (.int 0), .un, .un, .un, .fuel 0]) ?_ fun K hK => ?_
    · rintro _ rfl
      refine blk_m (fun ρ => ∃ m : Int, 0 ≤ m ∧ ∃ x y z, ρ = [.val .st, .val (.int t), .val (.int m), x, y, z, .fuel 0]) ?_ fun K hK => ?_
      · rintro _ ⟨m, m0, x, y, z, rfl⟩
        simp only [dBlk, dSeq, dNx, dIf, dRet, dRetN, dSet, dSetM, dSetF, dPar, dParMM, dParMV, dParVM, dDrop, dFor, dIt, dAsg, dOp2, dOpF, dUn, dV, dFz, pu, pb, pt, pf, po, po0, dTst, dNot, dAnd, dOr, dAndV, dOrV, dNotV, dIfE, dCh, dCall, dCallK, dArgs, dCb, dCbF, dTup, dLst, dStG, dStT, dStC, dStSR, dStST, dStP, dRaise, dRaise1, dRg, dEnum, dZip, dLRg1, dLRg2, dComp, dComp2, dApp, dPop, dPopI, dVF, dFrz, dSlF, DN.x]
        exact ⟨_, rfl, k m m0⟩
      · refine ⟨_, rfl, pL, rfl, ?_⟩
        refine dFL_ind (fun k ρ => ∃ m : Int, 0 ≤ m ∧ m < 2 ^ (40 * k) ∧ ∃ x y z, ρ = [.val .st, .val (.int t), .val (.int m), x, y, z, .fuel 0]) _ 0 _ ⟨0, by decide, by decide, _, _, _, rfl⟩ ?_ fun ρ' ⟨m, m0, _, hx⟩ => hK _ ⟨m, m0, hx⟩
        rintro i p _ K hp ⟨m, m0, m1, x, y, z, rfl⟩ hK
        obtain ⟨q, rfl, q0, q1, hi⟩ := pL_ok hp
        have m2 : m < 2 ^ 200 := Int.lt_of_lt_of_le m1 (pow_le (by omega))
        refine ⟨_, rfl, mixB_ok t0 t2 m0 m2 q0 q1 fun r y z r0 r1 => hK _ ⟨_, by omega, ?_, _, _, _, rfl⟩⟩
        have e : (2 : Int) ^ (40 * (0 + i + 1)) = 2 ^ (40 * (0 + i)) * 2 ^ 40 := by rw [show 40 * (0 + i + 1) = 40 * (0 + i) + 40 by omega, Int.pow_add]
        rw [e]
        generalize (2 : Int) ^ (40 * (0 + i)) = w at m1
        omega
    · simp only [dBlk, dSeq, dNx, dIf, dRet, dRetN, dSet, dSetM, dSetF, dPar, dParMM, dParMV, dParVM, dDrop, dFor, dIt, dAsg, dOp2, dOpF, dUn, dV, dFz, pu, pb, pt, pf, po, po0, dTst, dNot, dAnd, dOr, dAndV, dOrV, dNotV, dIfE, dCh, dCall, dCallK, dArgs, dCb, dCbF, dTup, dLst, dStG, dStT, dStC, dStSR, dStST, dStP, dRaise, dRaise1, dRg, dEnum, dZip, dLRg1, dLRg2, dComp, dComp2, dApp, dPop, dPopI, dVF, dFrz, dSlF, DN.x]
      exact ⟨_, rfl, _, rfl, rfl, ⟨_, rfl, t0, by show t + ((0 : Nat) : Int) ≤ _; omega⟩, hK _ rfl⟩
  · simp only [dBlk, dSeq, dNx, dIf, dRet, dRetN, dSet, dSetM, dSetF, dPar, dParMM, dParMV, dParVM, dDrop, dFor, dIt, dAsg, dOp2, dOpF, dUn, dV, dFz, pu, pb, pt, pf, po, po0, dTst, dNot, dAnd, dOr, dAndV, dOrV, dNotV, dIfE, dCh, dCall, dCallK, dArgs, dCb, dCbF, dTup, dLst, dStG, dStT, dStC, dStSR, dStST, dStP, dRaise, dRaise1, dRg, dEnum, dZip, dLRg1, dLRg2, dComp, dComp2, dApp, dPop, dPopI, dVF, dFrz, dSlF, DN.x]
    refine ⟨_, rfl, rfl, fun n hn hb _ => ⟨_, rfl, _, _, _, rfl, rfl, rfl, _, rfl, hK _ ⟨n + 1, by omega, by have : n + ((1 : Nat) : Int) ≤ B := hb; omega, rfl⟩⟩⟩

theorem sem__law_pick (ds : List D) (PQ : D → Prop) (PX : Nat → List D → Prop) (hl : ds.length = 2) (h : sp__law_pick ds PQ PX) : d__law_pick (startE N__law_pick.length 1 ds) ⟨fun _ => PQ .non, PQ, fun _ => False, fun _ => False, PX⟩ := by
  have ⟨s, e, xs, e2, ⟨h0, h1⟩, k⟩ : ∃ s, ds = [.st, s] ∧ oe (seqOf s) fun xs => sd (0 < xs.length ∧ xs.length ≤ 2 ^ 24) (alls xs PQ) := by
    unfold sp__law_pick spPick at h
    split at h
    · exact ⟨_, rfl, h⟩
    · exact h.elim
  subst e
  show d__law_pick [.val .st, .val s, .fuel 1] _
  unfold d__law_pick
  (try simp -dsimp (disch := first | omega | assumption | (refine id ?_; with_unfolding_all exact Eq.refl true) | (and_intros <;> first | assumption | omega | with_unfolding_all exact Eq.refl true | with_unfolding_all exact le1 (Eq.refl true)) | (simp only [WLEN]; omega) | fail) only [↓WA, ↓dCL_c, ↓WRV, ↓dPar3_w, ↓dSD_w, ↓WS, ↓WM, ↓WG, WCL, WB, WC, WD, WEE, WTY, WRE, WF, WH, Int.zero_add, Int.reduceToNat, Int.reducePow, Nat.reduceBEq, Nat.reduceAdd, Nat.reduceSub, Nat.reduceMul, Nat.reduceEqDiff, Int.reduceAdd, Int.reduceSub, Int.reduceMul, Int.reduceNeg, Int.reduceEq, Int.reduceLT, Int.reduceLE, Int.cast_ofNat_Int, Int.natCast_one, Int.natCast_zero, seq_len e2])
  intro n h0 h1
  obtain ⟨m, rfl⟩ := Int.eq_ofNat_of_zero_le h0
  have hm : m < xs.length := by omega
  exact ⟨_, seq_ix e2 (List.getElem?_eq_getElem hm), k xs[m] (List.getElem_mem hm)⟩

theorem sem__law_plain (j : Nat) (ds : List D) (PQ : D → Prop) (PX : Nat → List D → Prop) (hl : ds.length = 1) (h : spP (j + 1) ds PQ PX) : d__law_plain (spP j) (startE N__law_plain.length 0 ds) ⟨fun _ => PQ .non, PQ, fun _ => False, fun _ => False, PX⟩ := by
  obtain ⟨d, rfl, h1, h2, k⟩ := h
  show d__law_plain (spP j) [.val d, .un] _
  have seq : ∀ xs : List D, itemsOf d = some xs → D.pls xs = true → D.deps xs < j → oIsTs ["list", "tuple"] d = some (.bl true) → d__law_plain (spP j) [.val d, .un] ⟨fun _ => PQ .non, PQ, fun _ => False, fun _ => False, PX⟩ := by
    intro xs e p1' p2' e2
    unfold d__law_plain
    (try simp -dsimp (disch := first | omega | assumption | (refine id ?_; with_unfolding_all exact Eq.refl true) | (and_intros <;> first | assumption | omega | with_unfolding_all exact Eq.refl true | with_unfolding_all exact le1 (Eq.refl true)) | (simp only [WLEN]; omega) | fail) only [↓WA, ↓dCL_c, ↓WRV, ↓dPar3_w, ↓dSD_w, ↓WS, ↓WM, ↓WG, WCL, WB, WC, WD, WEE, WTY, WRE, WF, WH, Int.zero_add, Int.reduceToNat, Int.reducePow, Nat.reduceBEq, Nat.reduceAdd, Nat.reduceSub, Nat.reduceMul, Nat.reduceEqDiff, Int.reduceAdd, Int.reduceSub, Int.reduceMul, Int.reduceNeg, Int.reduceEq, Int.reduceLT, Int.reduceLE, Int.cast_ofNat_Int, Int.natCast_one, Int.natCast_zero, e2])
    rw [e, oe_some]
    (try simp -dsimp (disch := first | omega | assumption | (refine id ?_; with_unfolding_all exact Eq.refl true) | (and_intros <;> first | assumption | omega | with_unfolding_all exact Eq.refl true | with_unfolding_all exact le1 (Eq.refl true)) | (simp only [WLEN]; omega) | fail) only [↓WA, ↓dCL_c, ↓WRV, ↓dPar3_w, ↓dSD_w, ↓WS, ↓WM, ↓WG, WCL, WB, WC, WD, WEE, WTY, WRE, WF, WH, Int.zero_add, Int.reduceToNat, Int.reducePow, Nat.reduceBEq, Nat.reduceAdd, Nat.reduceSub, Nat.reduceMul, Nat.reduceEqDiff, Int.reduceAdd, Int.reduceSub, Int.reduceMul, Int.reduceNeg, Int.reduceEq, Int.reduceLT, Int.reduceLE, Int.cast_ofNat_Int, Int.natCast_one, Int.natCast_zero])
    refine dCL_ind (fun _ acc ρ => acc = [] ∧ ρ = [.val d, .un]) _ 0 _ _ ⟨rfl, rfl⟩ ?_ ?_
    · rintro i x acc ρ K hx ⟨rfl, rfl⟩ hK
      have hm := List.mem_of_getElem? hx
      cases j with
      | zero => omega
      | succ j =>
        have q1 := pls_mem p1' x hm
        have q2 := deps_mem p2' x hm
        refine ⟨_, rfl, ?_⟩
        (try simp -dsimp (disch := first | omega | assumption | (refine id ?_; with_unfolding_all exact Eq.refl true) | (and_intros <;> first | assumption | omega | with_unfolding_all exact Eq.refl true | with_unfolding_all exact le1 (Eq.refl true)) | (simp only [WLEN]; omega) | fail) only [↓WA, ↓dCL_c, ↓WRV, ↓dPar3_w, ↓dSD_w, ↓WS, ↓WM, ↓WG, WCL, WB, WC, WD, WEE, WTY, WRE, WF, WH, Int.zero_add, Int.reduceToNat, Int.reducePow, Nat.reduceBEq, Nat.reduceAdd, Nat.reduceSub, Nat.reduceMul, Nat.reduceEqDiff, Int.reduceAdd, Int.reduceSub, Int.reduceMul, Int.reduceNeg, Int.reduceEq, Int.reduceLT, Int.reduceLE, Int.cast_ofNat_Int, Int.natCast_one, Int.natCast_zero, ↓spP_w])
        exact hK _ _ ⟨rfl, rfl⟩
    · rintro acc ρ ⟨rfl, rfl⟩
      refine ⟨_, rfl, ?_⟩
      (try simp -dsimp (disch := first | omega | assumption | (refine id ?_; with_unfolding_all exact Eq.refl true) | (and_intros <;> first | assumption | omega | with_unfolding_all exact Eq.refl true | with_unfolding_all exact le1 (Eq.refl true)) | (simp only [WLEN]; omega) | fail) only [↓WA, ↓dCL_c, ↓WRV, ↓dPar3_w, ↓dSD_w, ↓WS, ↓WM, ↓WG, WCL, WB, WC, WD, WEE, WTY, WRE, WF, WH, Int.zero_add, Int.reduceToNat, Int.reducePow, Nat.reduceBEq, Nat.reduceAdd, Nat.reduceSub, Nat.reduceMul, Nat.reduceEqDiff, Int.reduceAdd, Int.reduceSub, Int.reduceMul, Int.reduceNeg, Int.reduceEq, Int.reduceLT, Int.reduceLE, Int.cast_ofNat_Int, Int.natCast_one, Int.natCast_zero])
      exact k
  have flat : oIsTs ["list", "tuple"] d = some (.bl false) → oIsT "dict" d = some (.bl false) → bor (oIs false d .non) (oIsTs ["int", "str"] d) = some (.bl true) → d__law_plain (spP j) [.val d, .un] ⟨fun _ => PQ .non, PQ, fun _ => False, fun _ => False, PX⟩ := by
    intro e1 e2 e3
    exact ⟨_, e1, _, e2, _, e3, k⟩
  cases d with
  | non => exact flat rfl rfl rfl
  | bl b => exact flat rfl rfl rfl
  | int i => exact flat rfl rfl rfl
  | str x => exact flat rfl rfl rfl
  | tup xs => exact seq xs rfl (by unfold D.pl at h1; exact h1) (by unfold D.dep at h2; omega) rfl
  | lst xs => exact seq xs rfl (by unfold D.pl at h1; exact h1) (by unfold D.dep at h2; omega) rfl
  | dct _ => cases h1
  | exc _ _ => cases h1
  | st => cases h1
  | scr _ => cases h1

theorem sem__law_is (ds : List D) (PQ : D → Prop) (PX : Nat → List D → Prop) (hl : ds.length = 2) (h : sp__law_is ds PQ PX) : d__law_is (startE N__law_is.length 0 ds) ⟨fun _ => PQ .non, PQ, fun _ => False, fun _ => False, PX⟩ := by
  have ⟨a, b, e, ⟨⟨a1, a2, a3⟩, b1, b2, b3⟩, k⟩ : ∃ a b, ds = [a, b] ∧ sd (isG a ∧ isG b) (PQ (.bl (sameD a b))) := by
    unfold sp__law_is spIs at h
    split at h
    · exact ⟨_, _, rfl, h⟩
    · exact h.elim
  subst e
  show d__law_is [.val a, .val b] _
  unfold d__law_is
  have e1 : oEq a b = some (.bl (PyData.eqv a.py b.py)) := if_pos ⟨a1, b1⟩
  have e2 : oEq b a = some (.bl (PyData.eqv b.py a.py)) := if_pos ⟨b1, a1⟩
  have e3 : oReprEq a b = some (.bl (decide (a.py.shown = b.py.shown))) := if_pos ⟨a3, b3⟩
  have e4 := ok_pl a1
  unfold sameD at k
  (try simp -dsimp (disch := first | omega | assumption | (refine id ?_; with_unfolding_all exact Eq.refl true) | (and_intros <;> first | assumption | omega | with_unfolding_all exact Eq.refl true | with_unfolding_all exact le1 (Eq.refl true)) | (simp only [WLEN]; omega) | fail) only [↓WA, ↓dCL_c, ↓WRV, ↓dPar3_w, ↓dSD_w, ↓WS, ↓WM, ↓WG, WCL, WB, WC, WD, WEE, WTY, WRE, WF, WH, Int.zero_add, Int.reduceToNat, Int.reducePow, Nat.reduceBEq, Nat.reduceAdd, Nat.reduceSub, Nat.reduceMul, Nat.reduceEqDiff, Int.reduceAdd, Int.reduceSub, Int.reduceMul, Int.reduceNeg, Int.reduceEq, Int.reduceLT, Int.reduceLE, Int.cast_ofNat_Int, Int.natCast_one, Int.natCast_zero])
  cases h1 : PyData.eqv a.py b.py with
  | false => rw [h1] at k e1; (try simp -dsimp (disch := first | omega | assumption | (refine id ?_; with_unfolding_all exact Eq.refl true) | (and_intros <;> first | assumption | omega | with_unfolding_all exact Eq.refl true | with_unfolding_all exact le1 (Eq.refl true)) | (simp only [WLEN]; omega) | fail) only [↓WA, ↓dCL_c, ↓WRV, ↓dPar3_w, ↓dSD_w, ↓WS, ↓WM, ↓WG, WCL, WB, WC, WD, WEE, WTY, WRE, WF, WH, Int.zero_add, Int.reduceToNat, Int.reducePow, Nat.reduceBEq, Nat.reduceAdd, Nat.reduceSub, Nat.reduceMul, Nat.reduceEqDiff, Int.reduceAdd, Int.reduceSub, Int.reduceMul, Int.reduceNeg, Int.reduceEq, Int.reduceLT, Int.reduceLE, Int.cast_ofNat_Int, Int.natCast_one, Int.natCast_zero, e1]); exact k
  | true =>
    cases h2 : PyData.eqv b.py a.py with
    | false => rw [h1, h2] at k; rw [h1] at e1; rw [h2] at e2; (try simp -dsimp (disch := first | omega | assumption | (refine id ?_; with_unfolding_all exact Eq.refl true) | (and_intros <;> first | assumption | omega | with_unfolding_all exact Eq.refl true | with_unfolding_all exact le1 (Eq.refl true)) | (simp only [WLEN]; omega) | fail) only [↓WA, ↓dCL_c, ↓WRV, ↓dPar3_w, ↓dSD_w, ↓WS, ↓WM, ↓WG, WCL, WB, WC, WD, WEE, WTY, WRE, WF, WH, Int.zero_add, Int.reduceToNat, Int.reducePow, Nat.reduceBEq, Nat.reduceAdd, Nat.reduceSub, Nat.reduceMul, Nat.reduceEqDiff, Int.reduceAdd, Int.reduceSub, Int.reduceMul, Int.reduceNeg, Int.reduceEq, Int.reduceLT, Int.reduceLE, Int.cast_ofNat_Int, Int.natCast_one, Int.natCast_zero, e1, e2]); exact k
    | true => rw [h1, h2] at k; rw [h1] at e1; rw [h2] at e2; (try simp -dsimp (disch := first | omega | assumption | (refine id ?_; with_unfolding_all exact Eq.refl true) | (and_intros <;> first | assumption | omega | with_unfolding_all exact Eq.refl true | with_unfolding_all exact le1 (Eq.refl true)) | (simp only [WLEN]; omega) | fail) only [↓WA, ↓dCL_c, ↓WRV, ↓dPar3_w, ↓dSD_w, ↓WS, ↓WM, ↓WG, WCL, WB, WC, WD, WEE, WTY, WRE, WF, WH, Int.zero_add, Int.reduceToNat, Int.reducePow, Nat.reduceBEq, Nat.reduceAdd, Nat.reduceSub, Nat.reduceMul, Nat.reduceEqDiff, Int.reduceAdd, Int.reduceSub, Int.reduceMul, Int.reduceNeg, Int.reduceEq, Int.reduceLT, Int.reduceLE, Int.cast_ofNat_Int, Int.natCast_one, Int.natCast_zero, e1, e2, e3]); exact k

theorem bAbs_i (n : Int) : ∃ a, 0 ≤ a ∧ bAbs [.int n] = some (.int a) := ⟨_, by split <;> omega, rfl⟩
theorem sem1__law_begun (ns : List Int) (h : ns.length ≤ 63) : d1__law_begun [.val (.scr ns), .un, .un] (fun r ρ' => ρ' = [.val (.scr ns), .un, .un] ∧ ∃ gs : List Int, r = gs.map .int ∧ (∀ x ∈ gs, 0 ≤ x) ∧ gs.length ≤ 63) noX := by
  refine ⟨_, rfl, ns.map .int, rfl, rfl, ?_⟩
  refine dCL_ind (fun k acc ρ => ρ = [.val (.scr ns), .un, .un] ∧ ∃ gs : List Int, acc = gs.map .int ∧ (∀ x ∈ gs, 0 ≤ x) ∧ gs.length ≤ k) _ 0 _ _ ⟨rfl, [], rfl, fun _ q => (by cases q), Nat.le_refl 0⟩ ?_ ?_
  · rintro i x acc ρ K hx ⟨rfl, gs, rfl, g0, g1⟩ hK
    obtain ⟨n, hn, rfl⟩ := List.mem_map.mp (List.mem_of_getElem? hx)
    obtain ⟨a, a0, ea⟩ := bAbs_i n
    refine ⟨_, rfl, _, p2_e (pC_e1 rfl ea) (p2_e rfl rfl (oPow_i (by decide) (by decide) (by decide))) rfl, ?_⟩
    by_cases hc : (10 : Int) ^ Int.toNat 18 ≤ a
    · dsimp only
      rw [if_pos (decide_eq_true hc)]
      refine ⟨_, p2_e (pC_e1 rfl ea) (p2_e rfl rfl (oPow_i (by decide) (by decide) (by decide))) rfl, hK _ _ ⟨rfl, gs ++ [a - 10 ^ Int.toNat 18], ?_, ?_, ?_⟩⟩
      · rw [List.map_append]; rfl
      · intro x hx
        rcases List.mem_append.mp hx with hx | hx
        · exact g0 x hx
        · rw [List.mem_singleton] at hx; subst hx; exact Int.sub_nonneg_of_le hc
      · rw [List.length_append]; show _ + 1 ≤ _; omega
    · dsimp only
      rw [if_neg (by rw [decide_eq_true_eq]; exact hc)]
      exact hK _ _ ⟨rfl, gs, rfl, g0, by omega⟩
  · rintro acc ρ ⟨rfl, gs, rfl, g0, g1⟩
    exact ⟨rfl, gs, rfl, g0, by rw [List.length_map] at g1; omega⟩
theorem sem2__law_begun (ns : List Int) (gs : List D) (h : ns.length ≤ 63) : d2__law_begun [.val (.scr ns), .ml gs, .un] (fun r ρ' => ρ' = [.val (.scr ns), .ml gs, .un] ∧ ∃ cs : List Int, r = cs.map .int ∧ cs.length ≤ 63) noX := by
  refine ⟨_, rfl, ns.map .int, rfl, rfl, ?_⟩
  refine dCL_ind (fun k acc ρ => ρ = [.val (.scr ns), .ml gs, .un] ∧ ∃ cs : List Int, acc = cs.map .int ∧ cs.length ≤ k) _ 0 _ _ ⟨rfl, [], rfl, Nat.le_refl 0⟩ ?_ ?_
  · rintro i x acc ρ K hx ⟨rfl, cs, rfl, g1⟩ hK
    obtain ⟨n, hn, rfl⟩ := List.mem_map.mp (List.mem_of_getElem? hx)
    obtain ⟨a, a0, ea⟩ := bAbs_i n
    refine ⟨_, rfl, ?_⟩
    show ∃ d, _ ∧ _
    refine ⟨_, pC_e1 rfl ea, hK _ _ ⟨rfl, cs ++ [a], ?_, ?_⟩⟩
    · rw [List.map_append]; rfl
    · rw [List.length_append]; show _ + 1 ≤ _; omega
  · rintro acc ρ ⟨rfl, cs, rfl, g1⟩
    exact ⟨rfl, cs, rfl, by rw [List.length_map] at g1; omega⟩
end K03
namespace K03
open PySem PySem.Spec PyProof.Rows L2 DL
theorem wi_int {d : D} {lo hi : Int} (h : wi d lo hi = true) : ∃ i, d = .int i ∧ lo ≤ i ∧ i ≤ hi := by
  cases d <;> first | (cases h; done) | skip
  rename_i i
  have h : (decide (lo ≤ i) && decide (i ≤ hi)) = true := h
  simp only [Bool.and_eq_true, decide_eq_true_eq] at h
  exact ⟨i, rfl, h⟩
theorem semx_is_integer (d : D) (Q : D → Prop) (X : Nat → List D → Prop) (h : sd (d.pl = true) (Q (.bl (isI d)))) : d_is_integer [.val d] ⟨fun _ => Q .non, Q, fun _ => False, fun _ => False, X⟩ := by
  unfold d_is_integer
  obtain ⟨h1, k⟩ := h
  cases d <;> first | (cases h1; done) | exact ⟨_, rfl, k⟩
theorem sem_is_integer (ds : List D) (Q : D → Prop) (X : Nat → List D → Prop) (hl : ds.length = 1) (h : sp_is_integer ds Q X) : d_is_integer (startE N_is_integer.length 0 ds) ⟨fun _ => Q .non, Q, fun _ => False, fun _ => False, X⟩ := by
  have ⟨d, e, h⟩ : ∃ (d : D), ds = [d] ∧ (sd (d.pl = true) (Q (.bl (isI d)))) := by
    unfold sp_is_integer at h
    split at h
    · exact ⟨_, rfl, h⟩
    · exact h.elim
  subst e
  exact semx_is_integer d Q X h
theorem semx_is_between (d : D) (lo hi : Int) (Q : D → Prop) (X : Nat → List D → Prop) (h : sd (d.pl = true) (Q (.bl (wi d lo hi)))) : d_is_between [.val d, .val (.int lo), .val (.int hi)] ⟨fun _ => Q .non, Q, fun _ => False, fun _ => False, X⟩ := by
  unfold d_is_between
  obtain ⟨h1, k⟩ := h
  cases d with
  | int i =>
    (try simp -dsimp (disch := first | omega | assumption | (refine id ?_; with_unfolding_all exact Eq.refl true) | (and_intros <;> first | assumption | omega | with_unfolding_all exact Eq.refl true | with_unfolding_all exact le1 (Eq.refl true)) | (simp only [WLEN]; omega) | fail) only [↓WA, ↓dCL_c, ↓WRV, ↓dPar3_w, ↓dSD_w, ↓WS, ↓WM, ↓WG, WCL, WB, WC, WD, WEE, WTY, WRE, WF, WH, Int.zero_add, Int.reduceToNat, Int.reducePow, Nat.reduceBEq, Nat.reduceAdd, Nat.reduceSub, Nat.reduceMul, Nat.reduceEqDiff, Int.reduceAdd, Int.reduceSub, Int.reduceMul, Int.reduceNeg, Int.reduceEq, Int.reduceLT, Int.reduceLE, Int.cast_ofNat_Int, Int.natCast_one, Int.natCast_zero, isI])
    exact k
  | _ => first | (cases h1; done) | ((try simp -dsimp (disch := first | omega | assumption | (refine id ?_; with_unfolding_all exact Eq.refl true) | (and_intros <;> first | assumption | omega | with_unfolding_all exact Eq.refl true | with_unfolding_all exact le1 (Eq.refl true)) | (simp only [WLEN]; omega) | fail) only [↓WA, ↓dCL_c, ↓WRV, ↓dPar3_w, ↓dSD_w, ↓WS, ↓WM, ↓WG, WCL, WB, WC, WD, WEE, WTY, WRE, WF, WH, Int.zero_add, Int.reduceToNat, Int.reducePow, Nat.reduceBEq, Nat.reduceAdd, Nat.reduceSub, Nat.reduceMul, Nat.reduceEqDiff, Int.reduceAdd, Int.reduceSub, Int.reduceMul, Int.reduceNeg, Int.reduceEq, Int.reduceLT, Int.reduceLE, Int.cast_ofNat_Int, Int.natCast_one, Int.natCast_zero, isI]); exact k)
theorem sem_is_between (ds : List D) (Q : D → Prop) (X : Nat → List D → Prop) (hl : ds.length = 3) (h : sp_is_between ds Q X) : d_is_between (startE N_is_between.length 0 ds) ⟨fun _ => Q .non, Q, fun _ => False, fun _ => False, X⟩ := by
  have ⟨d, lo, hi, e, h⟩ : ∃ (d : D) (lo hi : Int), ds = [d, .int lo, .int hi] ∧ (sd (d.pl = true) (Q (.bl (wi d lo hi)))) := by
    unfold sp_is_between at h
    split at h
    · exact ⟨_, _, _, rfl, h⟩
    · exact h.elim
  subst e
  exact semx_is_between d lo hi Q X h
def incL : List Int → List Bool
  | a :: b :: xs => decide (a < b) :: incL (b :: xs)
  | _ => []
theorem incL_all : ∀ xs : List Int, (incL xs).all id = incD (xs.map .int)
  | [] => rfl
  | [_] => rfl
  | a :: b :: xs => by
    show (decide (a < b) && (incL (b :: xs)).all id) = (decide (a < b) && incD ((b :: xs).map .int))
    rw [incL_all (b :: xs)]
def pairB : D → D
  | .tup [.int a, .int b] => .bl (decide (a < b))
  | _ => .non
theorem zip_inc : ∀ xs : List Int, (zipD (xs.map .int) ((xs.map D.int).drop 1)).map pairB = (incL xs).map .bl
  | [] => rfl
  | [_] => rfl
  | a :: b :: xs => by
    have ih := zip_inc (b :: xs)
    show D.bl (decide (a < b)) :: (zipD ((b :: xs).map .int) (((b :: xs).map D.int).drop 1)).map pairB = _
    rw [ih]; rfl
theorem zip_mem {xs : List Int} {y : D} (h : y ∈ zipD (xs.map .int) ((xs.map D.int).drop 1)) : ∃ a b, y = .tup [.int a, .int b] := by
  obtain ⟨i, hi⟩ := List.getElem?_of_mem h
  unfold zipD at hi
  rw [List.getElem?_zipWith] at hi
  cases e1 : (xs.map D.int)[i]? with
  | none => rw [e1] at hi; cases hi
  | some p =>
    cases e2 : ((xs.map D.int).drop 1)[i]? with
    | none => rw [e1, e2] at hi; cases hi
    | some q =>
      rw [e1, e2] at hi
      cases hi
      obtain ⟨a, _, rfl⟩ := map_get e1
      rw [List.getElem?_drop] at e2
      obtain ⟨b, _, rfl⟩ := map_get e2
      exact ⟨a, b, rfl⟩
theorem all_int {os : List D} {lo hi : Int} (h : (os.all fun o => wi o lo hi) = true) : ∃ is : List Int, os = is.map .int := by
  induction os with
  | nil => exact ⟨[], rfl⟩
  | cons o os ih =>
    rw [List.all_cons, Bool.and_eq_true] at h
    obtain ⟨i, rfl, _⟩ := wi_int h.1
    obtain ⟨is, rfl⟩ := ih h.2
    exact ⟨i :: is, rfl⟩
theorem semx_is_rising (os : List D) (Q : D → Prop) (X : Nat → List D → Prop) (h : oe (asInts os) fun O => Q (.bl (incD (O.map .int)))) : d_is_rising [.val (.tup os), .un, .un] ⟨fun _ => Q .non, Q, fun _ => False, fun _ => False, X⟩ := by
  unfold d_is_rising
  obtain ⟨O, e, k⟩ := h
  have e := asInts_eq e
  subst e
  (try simp -dsimp (disch := first | omega | assumption | (refine id ?_; with_unfolding_all exact Eq.refl true) | (and_intros <;> first | assumption | omega | with_unfolding_all exact Eq.refl true | with_unfolding_all exact le1 (Eq.refl true)) | (simp only [WLEN]; omega) | fail) only [↓WA, ↓dCL_c, ↓WRV, ↓dPar3_w, ↓dSD_w, ↓WS, ↓WM, ↓WG, WCL, WB, WC, WD, WEE, WTY, WRE, WF, WH, Int.zero_add, Int.reduceToNat, Int.reducePow, Nat.reduceBEq, Nat.reduceAdd, Nat.reduceSub, Nat.reduceMul, Nat.reduceEqDiff, Int.reduceAdd, Int.reduceSub, Int.reduceMul, Int.reduceNeg, Int.reduceEq, Int.reduceLT, Int.reduceLE, Int.cast_ofNat_Int, Int.natCast_one, Int.natCast_zero])
  refine dCL_m pairB _ [] (fun x hx K hK => ?_) ?_
  · obtain ⟨a, b, rfl⟩ := zip_mem hx
    (try simp -dsimp (disch := first | omega | assumption | (refine id ?_; with_unfolding_all exact Eq.refl true) | (and_intros <;> first | assumption | omega | with_unfolding_all exact Eq.refl true | with_unfolding_all exact le1 (Eq.refl true)) | (simp only [WLEN]; omega) | fail) only [↓WA, ↓dCL_c, ↓WRV, ↓dPar3_w, ↓dSD_w, ↓WS, ↓WM, ↓WG, WCL, WB, WC, WD, WEE, WTY, WRE, WF, WH, Int.zero_add, Int.reduceToNat, Int.reducePow, Nat.reduceBEq, Nat.reduceAdd, Nat.reduceSub, Nat.reduceMul, Nat.reduceEqDiff, Int.reduceAdd, Int.reduceSub, Int.reduceMul, Int.reduceNeg, Int.reduceEq, Int.reduceLT, Int.reduceLE, Int.cast_ofNat_Int, Int.natCast_one, Int.natCast_zero])
    exact hK _ rfl
  rw [List.nil_append, zip_inc]
  (try simp -dsimp (disch := first | omega | assumption | (refine id ?_; with_unfolding_all exact Eq.refl true) | (and_intros <;> first | assumption | omega | with_unfolding_all exact Eq.refl true | with_unfolding_all exact le1 (Eq.refl true)) | (simp only [WLEN]; omega) | fail) only [↓WA, ↓dCL_c, ↓WRV, ↓dPar3_w, ↓dSD_w, ↓WS, ↓WM, ↓WG, WCL, WB, WC, WD, WEE, WTY, WRE, WF, WH, Int.zero_add, Int.reduceToNat, Int.reducePow, Nat.reduceBEq, Nat.reduceAdd, Nat.reduceSub, Nat.reduceMul, Nat.reduceEqDiff, Int.reduceAdd, Int.reduceSub, Int.reduceMul, Int.reduceNeg, Int.reduceEq, Int.reduceLT, Int.reduceLE, Int.cast_ofNat_Int, Int.natCast_one, Int.natCast_zero])
  rw [incL_all]
  exact k
theorem sem_is_rising (ds : List D) (Q : D → Prop) (X : Nat → List D → Prop) (hl : ds.length = 1) (h : sp_is_rising ds Q X) : d_is_rising (startE N_is_rising.length 0 ds) ⟨fun _ => Q .non, Q, fun _ => False, fun _ => False, X⟩ := by
  have ⟨os, e, h⟩ : ∃ (os : List D), ds = [.tup os] ∧ (oe (asInts os) fun O => Q (.bl (incD (O.map .int)))) := by
    unfold sp_is_rising at h
    split at h
    · exact ⟨_, rfl, h⟩
    · exact h.elim
  subst e
  exact semx_is_rising os Q X h
theorem isRd2 (p os : D) : isRd (.tup [p, os]) = (wi p 1 240 && match p, os with
    | .int p, .tup os => os.all (fun o => wi o 0 (p - 1)) && incD os
    | _, _ => false) := rfl
theorem isRd_len {xs : List D} (h : xs.length ≠ 2) : isRd (.tup xs) = false := by
  unfold isRd
  split
  · rename_i e; cases e; exact absurd rfl h
  · rfl
theorem semx_is_round (d : D) (Q : D → Prop) (X : Nat → List D → Prop) (h : sd (d.pl = true) (Q (.bl (isRd d)))) : d_is_round [.val d, .un, .un, .un] ⟨fun _ => Q .non, Q, fun _ => False, fun _ => False, X⟩ := by
  unfold d_is_round
  obtain ⟨h1, k⟩ := h
  have nt : (∀ xs, d ≠ .tup xs) → Q (.bl false) → d_is_round [.val d, .un, .un, .un] ⟨fun _ => Q .non, Q, fun _ => False, fun _ => False, X⟩ := by
    intro hn k
    have e : oIsT "tuple" d = some (.bl false) := by
      cases d <;> first | rfl | (cases h1; done) | exact absurd rfl (hn _)
    unfold d_is_round
    (try simp -dsimp (disch := first | omega | assumption | (refine id ?_; with_unfolding_all exact Eq.refl true) | (and_intros <;> first | assumption | omega | with_unfolding_all exact Eq.refl true | with_unfolding_all exact le1 (Eq.refl true)) | (simp only [WLEN]; omega) | fail) only [↓WA, ↓dCL_c, ↓WRV, ↓dPar3_w, ↓dSD_w, ↓WS, ↓WM, ↓WG, WCL, WB, WC, WD, WEE, WTY, WRE, WF, WH, Int.zero_add, Int.reduceToNat, Int.reducePow, Nat.reduceBEq, Nat.reduceAdd, Nat.reduceSub, Nat.reduceMul, Nat.reduceEqDiff, Int.reduceAdd, Int.reduceSub, Int.reduceMul, Int.reduceNeg, Int.reduceEq, Int.reduceLT, Int.reduceLE, Int.cast_ofNat_Int, Int.natCast_one, Int.natCast_zero, e])
    exact k
  cases d with
  | tup xs =>
    by_cases h3 : xs.length = 2
    rotate_left
    · rw [isRd_len h3] at k
      (try simp -dsimp (disch := first | omega | assumption | (refine id ?_; with_unfolding_all exact Eq.refl true) | (and_intros <;> first | assumption | omega | with_unfolding_all exact Eq.refl true | with_unfolding_all exact le1 (Eq.refl true)) | (simp only [WLEN]; omega) | fail) only [↓WA, ↓dCL_c, ↓WRV, ↓dPar3_w, ↓dSD_w, ↓WS, ↓WM, ↓WG, WCL, WB, WC, WD, WEE, WTY, WRE, WF, WH, Int.zero_add, Int.reduceToNat, Int.reducePow, Nat.reduceBEq, Nat.reduceAdd, Nat.reduceSub, Nat.reduceMul, Nat.reduceEqDiff, Int.reduceAdd, Int.reduceSub, Int.reduceMul, Int.reduceNeg, Int.reduceEq, Int.reduceLT, Int.reduceLE, Int.cast_ofNat_Int, Int.natCast_one, Int.natCast_zero, decide_eq_false (show ¬ (xs.length : Int) = 2 by omega)])
      exact k
    match xs, h3 with
    | [p, os], _ =>
      have hp := pls_mem (by unfold D.pl at h1; exact h1)
      have hl := hp p (by simp)
      have ho := hp os (by simp)
      rw [isRd2] at k
      cases el : wi p 1 240 with
      | false => rw [el, Bool.false_and] at k; (try simp -dsimp (disch := first | omega | assumption | (refine id ?_; with_unfolding_all exact Eq.refl true) | (and_intros <;> first | assumption | omega | with_unfolding_all exact Eq.refl true | with_unfolding_all exact le1 (Eq.refl true)) | (simp only [WLEN]; omega) | fail) only [↓WA, ↓dCL_c, ↓WRV, ↓dPar3_w, ↓dSD_w, ↓WS, ↓WM, ↓WG, WCL, WB, WC, WD, WEE, WTY, WRE, WF, WH, Int.zero_add, Int.reduceToNat, Int.reducePow, Nat.reduceBEq, Nat.reduceAdd, Nat.reduceSub, Nat.reduceMul, Nat.reduceEqDiff, Int.reduceAdd, Int.reduceSub, Int.reduceMul, Int.reduceNeg, Int.reduceEq, Int.reduceLT, Int.reduceLE, Int.cast_ofNat_Int, Int.natCast_one, Int.natCast_zero, el]); exact k
      | true =>
      rw [el, Bool.true_and] at k
      obtain ⟨n, rfl, n1, n2⟩ := wi_int el
      cases os with
      | tup xs =>
        unfold D.pl at ho
        have k : Q (.bl (xs.all (fun o => wi o 0 (n - 1)) && incD xs)) := k
        (try simp -dsimp (disch := first | omega | assumption | (refine id ?_; with_unfolding_all exact Eq.refl true) | (and_intros <;> first | assumption | omega | with_unfolding_all exact Eq.refl true | with_unfolding_all exact le1 (Eq.refl true)) | (simp only [WLEN]; omega) | fail) only [↓WA, ↓dCL_c, ↓WRV, ↓dPar3_w, ↓dSD_w, ↓WS, ↓WM, ↓WG, WCL, WB, WC, WD, WEE, WTY, WRE, WF, WH, Int.zero_add, Int.reduceToNat, Int.reducePow, Nat.reduceBEq, Nat.reduceAdd, Nat.reduceSub, Nat.reduceMul, Nat.reduceEqDiff, Int.reduceAdd, Int.reduceSub, Int.reduceMul, Int.reduceNeg, Int.reduceEq, Int.reduceLT, Int.reduceLE, Int.cast_ofNat_Int, Int.natCast_one, Int.natCast_zero, el])
        refine dCL_m (fun o => .bl (wi o 0 (n - 1))) xs [] (fun o ho' K hK => ?_) ?_
        · have := pls_mem ho o ho'
          (try simp -dsimp (disch := first | omega | assumption | (refine id ?_; with_unfolding_all exact Eq.refl true) | (and_intros <;> first | assumption | omega | with_unfolding_all exact Eq.refl true | with_unfolding_all exact le1 (Eq.refl true)) | (simp only [WLEN]; omega) | fail) only [↓WA, ↓dCL_c, ↓WRV, ↓dPar3_w, ↓dSD_w, ↓WS, ↓WM, ↓WG, WCL, WB, WC, WD, WEE, WTY, WRE, WF, WH, Int.zero_add, Int.reduceToNat, Int.reducePow, Nat.reduceBEq, Nat.reduceAdd, Nat.reduceSub, Nat.reduceMul, Nat.reduceEqDiff, Int.reduceAdd, Int.reduceSub, Int.reduceMul, Int.reduceNeg, Int.reduceEq, Int.reduceLT, Int.reduceLE, Int.cast_ofNat_Int, Int.natCast_one, Int.natCast_zero])
          exact hK _ rfl
        rw [List.nil_append, show (xs.map fun o => D.bl (wi o 0 (n - 1))) = (xs.map fun o => wi o 0 (n - 1)).map .bl by rw [List.map_map]; rfl]
        (try simp -dsimp (disch := first | omega | assumption | (refine id ?_; with_unfolding_all exact Eq.refl true) | (and_intros <;> first | assumption | omega | with_unfolding_all exact Eq.refl true | with_unfolding_all exact le1 (Eq.refl true)) | (simp only [WLEN]; omega) | fail) only [↓WA, ↓dCL_c, ↓WRV, ↓dPar3_w, ↓dSD_w, ↓WS, ↓WM, ↓WG, WCL, WB, WC, WD, WEE, WTY, WRE, WF, WH, Int.zero_add, Int.reduceToNat, Int.reducePow, Nat.reduceBEq, Nat.reduceAdd, Nat.reduceSub, Nat.reduceMul, Nat.reduceEqDiff, Int.reduceAdd, Int.reduceSub, Int.reduceMul, Int.reduceNeg, Int.reduceEq, Int.reduceLT, Int.reduceLE, Int.cast_ofNat_Int, Int.natCast_one, Int.natCast_zero])
        rw [show (xs.map fun o => wi o 0 (n - 1)).all id = xs.all fun o => wi o 0 (n - 1) by rw [List.all_map]; rfl]
        cases ea : xs.all fun o => wi o 0 (n - 1) with
        | false => rw [ea, Bool.false_and] at k; (try simp -dsimp (disch := first | omega | assumption | (refine id ?_; with_unfolding_all exact Eq.refl true) | (and_intros <;> first | assumption | omega | with_unfolding_all exact Eq.refl true | with_unfolding_all exact le1 (Eq.refl true)) | (simp only [WLEN]; omega) | fail) only [↓WA, ↓dCL_c, ↓WRV, ↓dPar3_w, ↓dSD_w, ↓WS, ↓WM, ↓WG, WCL, WB, WC, WD, WEE, WTY, WRE, WF, WH, Int.zero_add, Int.reduceToNat, Int.reducePow, Nat.reduceBEq, Nat.reduceAdd, Nat.reduceSub, Nat.reduceMul, Nat.reduceEqDiff, Int.reduceAdd, Int.reduceSub, Int.reduceMul, Int.reduceNeg, Int.reduceEq, Int.reduceLT, Int.reduceLE, Int.cast_ofNat_Int, Int.natCast_one, Int.natCast_zero]); exact k
        | true =>
          rw [ea, Bool.true_and] at k
          obtain ⟨is, rfl⟩ := all_int ea
          (try simp -dsimp (disch := first | omega | assumption | (refine id ?_; with_unfolding_all exact Eq.refl true) | (and_intros <;> first | assumption | omega | with_unfolding_all exact Eq.refl true | with_unfolding_all exact le1 (Eq.refl true)) | (simp only [WLEN]; omega) | fail) only [↓WA, ↓dCL_c, ↓WRV, ↓dPar3_w, ↓dSD_w, ↓WS, ↓WM, ↓WG, WCL, WB, WC, WD, WEE, WTY, WRE, WF, WH, Int.zero_add, Int.reduceToNat, Int.reducePow, Nat.reduceBEq, Nat.reduceAdd, Nat.reduceSub, Nat.reduceMul, Nat.reduceEqDiff, Int.reduceAdd, Int.reduceSub, Int.reduceMul, Int.reduceNeg, Int.reduceEq, Int.reduceLT, Int.reduceLE, Int.cast_ofNat_Int, Int.natCast_one, Int.natCast_zero])
          exact k
      | _ => first | (cases ho; done) | ((try simp -dsimp (disch := first | omega | assumption | (refine id ?_; with_unfolding_all exact Eq.refl true) | (and_intros <;> first | assumption | omega | with_unfolding_all exact Eq.refl true | with_unfolding_all exact le1 (Eq.refl true)) | (simp only [WLEN]; omega) | fail) only [↓WA, ↓dCL_c, ↓WRV, ↓dPar3_w, ↓dSD_w, ↓WS, ↓WM, ↓WG, WCL, WB, WC, WD, WEE, WTY, WRE, WF, WH, Int.zero_add, Int.reduceToNat, Int.reducePow, Nat.reduceBEq, Nat.reduceAdd, Nat.reduceSub, Nat.reduceMul, Nat.reduceEqDiff, Int.reduceAdd, Int.reduceSub, Int.reduceMul, Int.reduceNeg, Int.reduceEq, Int.reduceLT, Int.reduceLE, Int.cast_ofNat_Int, Int.natCast_one, Int.natCast_zero, el]); exact k)
  | non => exact nt (fun _ h => nomatch h) k
  | bl _ => exact nt (fun _ h => nomatch h) k
  | int _ => exact nt (fun _ h => nomatch h) k
  | str _ => exact nt (fun _ h => nomatch h) k
  | lst _ => exact nt (fun _ h => nomatch h) k
  | dct _ => cases h1
  | exc _ _ => cases h1
  | st => cases h1
  | scr _ => cases h1
theorem sem_is_round (ds : List D) (Q : D → Prop) (X : Nat → List D → Prop) (hl : ds.length = 1) (h : sp_is_round ds Q X) : d_is_round (startE N_is_round.length 0 ds) ⟨fun _ => Q .non, Q, fun _ => False, fun _ => False, X⟩ := by
  have ⟨d, e, h⟩ : ∃ (d : D), ds = [d] ∧ (sd (d.pl = true) (Q (.bl (isRd d)))) := by
    unfold sp_is_round at h
    split at h
    · exact ⟨_, rfl, h⟩
    · exact h.elim
  subst e
  exact semx_is_round d Q X h
theorem semx_need_round (d : D) (Q : D → Prop) (X : Nat → List D → Prop) (h : sd (d.pl = true) (wif (isRd d) (Q .non) (X 1 []))) : d_need_round [.val d] ⟨fun _ => Q .non, Q, fun _ => False, fun _ => False, X⟩ := by
  unfold d_need_round
  obtain ⟨h1, k⟩ := h
  cases e : isRd d with
  | false => rw [e, wif_f] at k; (try simp -dsimp (disch := first | omega | assumption | (refine id ?_; with_unfolding_all exact Eq.refl true) | (and_intros <;> first | assumption | omega | with_unfolding_all exact Eq.refl true | with_unfolding_all exact le1 (Eq.refl true)) | (simp only [WLEN]; omega) | fail) only [↓WA, ↓dCL_c, ↓WRV, ↓dPar3_w, ↓dSD_w, ↓WS, ↓WM, ↓WG, WCL, WB, WC, WD, WEE, WTY, WRE, WF, WH, Int.zero_add, Int.reduceToNat, Int.reducePow, Nat.reduceBEq, Nat.reduceAdd, Nat.reduceSub, Nat.reduceMul, Nat.reduceEqDiff, Int.reduceAdd, Int.reduceSub, Int.reduceMul, Int.reduceNeg, Int.reduceEq, Int.reduceLT, Int.reduceLE, Int.cast_ofNat_Int, Int.natCast_one, Int.natCast_zero, e]); exact k
  | true => rw [e, wif_t] at k; (try simp -dsimp (disch := first | omega | assumption | (refine id ?_; with_unfolding_all exact Eq.refl true) | (and_intros <;> first | assumption | omega | with_unfolding_all exact Eq.refl true | with_unfolding_all exact le1 (Eq.refl true)) | (simp only [WLEN]; omega) | fail) only [↓WA, ↓dCL_c, ↓WRV, ↓dPar3_w, ↓dSD_w, ↓WS, ↓WM, ↓WG, WCL, WB, WC, WD, WEE, WTY, WRE, WF, WH, Int.zero_add, Int.reduceToNat, Int.reducePow, Nat.reduceBEq, Nat.reduceAdd, Nat.reduceSub, Nat.reduceMul, Nat.reduceEqDiff, Int.reduceAdd, Int.reduceSub, Int.reduceMul, Int.reduceNeg, Int.reduceEq, Int.reduceLT, Int.reduceLE, Int.cast_ofNat_Int, Int.natCast_one, Int.natCast_zero, e]); exact k
theorem sem_need_round (ds : List D) (Q : D → Prop) (X : Nat → List D → Prop) (hl : ds.length = 1) (h : sp_need_round ds Q X) : d_need_round (startE N_need_round.length 0 ds) ⟨fun _ => Q .non, Q, fun _ => False, fun _ => False, X⟩ := by
  have ⟨d, e, h⟩ : ∃ (d : D), ds = [d] ∧ (sd (d.pl = true) (wif (isRd d) (Q .non) (X 1 []))) := by
    unfold sp_need_round at h
    split at h
    · exact ⟨_, rfl, h⟩
    · exact h.elim
  subst e
  exact semx_need_round d Q X h
theorem rng_N (n : Nat) : rng 0 n = (List.range n).map fun i : Nat => D.int (i : Nat) := by
  unfold rng
  exact List.map_congr_left fun i _ => by rw [Int.zero_add]
theorem rng_1 (n : Nat) : rng 1 n = (List.range n).map fun i : Nat => D.int ((i : Int) + 1) := by
  unfold rng
  exact List.map_congr_left fun i _ => by rw [Int.add_comm]
end K03
namespace K03
open PySem PySem.Spec PyProof.Rows L2 DL
theorem inc_len {l : Int} : ∀ {xs : List Int} {a : Int}, xs.Pairwise (· < ·) → (∀ x ∈ xs, a ≤ x ∧ x < l) → (xs.length : Int) ≤ max 0 (l - a)
  | [], a, _, _ => by simp; omega
  | x :: xs, a, h, h2 => by
    rw [List.pairwise_cons] at h
    have h3 := h2 x List.mem_cons_self
    have := inc_len (a := x + 1) h.2 fun y hy => ⟨by have := h.1 y hy; omega, (h2 y (List.mem_cons_of_mem _ hy)).2⟩
    rw [List.length_cons]
    omega
theorem incD_pw {is : List Int} (h6 : incD (is.map .int) = true) : is.Pairwise (· < ·) := by
  induction is with
  | nil => exact .nil
  | cons a is ih =>
    cases is with
    | nil => exact List.pairwise_singleton _ _
    | cons b is =>
      have h6 : (decide (a < b) && incD ((b :: is).map .int)) = true := h6
      rw [Bool.and_eq_true, decide_eq_true_eq] at h6
      have := ih h6.2
      rw [List.pairwise_cons] at this ⊢
      refine ⟨fun x hx => ?_, ih h6.2⟩
      rcases List.mem_cons.mp hx with rfl | hx
      · exact h6.1
      · have := this.1 x hx; omega
theorem incD_of {xs : List Int} (h : xs.Pairwise (· < ·)) : incD (xs.map .int) = true := by
  induction xs with
  | nil => rfl
  | cons a xs ih =>
    rw [List.pairwise_cons] at h
    cases xs with
    | nil => rfl
    | cons b xs =>
      show (decide (a < b) && incD ((b :: xs).map .int)) = true
      rw [ih h.2, decide_eq_true (h.1 b List.mem_cons_self)]; rfl
theorem isRd_ok {p : Int} {O : List Int} (h : RdOk p O) : isRd (.tup [.int p, .tup (O.map .int)]) = true := by
  rw [isRd2]
  have e : wi (.int p) 1 240 = true := by
    show (decide (1 ≤ p) && decide (p ≤ 240)) = true
    rw [decide_eq_true h.p1, decide_eq_true h.p2]; rfl
  rw [e, Bool.true_and]
  show ((O.map D.int).all (fun o => wi o 0 (p - 1)) && incD (O.map .int)) = true
  rw [incD_of h.inc, Bool.and_true, List.all_eq_true]
  intro d hd
  obtain ⟨o, ho, rfl⟩ := List.mem_map.mp hd
  have := h.lt o ho
  show (decide (0 ≤ o) && decide (o ≤ p - 1)) = true
  rw [decide_eq_true this.1, decide_eq_true (by omega)]; rfl
theorem isRd_inv {d : D} (h : isRd d = true) : ∃ p O, d = .tup [.int p, .tup (O.map .int)] ∧ RdOk p O := by
  unfold isRd at h
  split at h
  · rename_i p os
    rw [Bool.and_eq_true] at h
    obtain ⟨h1, h2⟩ := h
    obtain ⟨p, rfl, p1, p2⟩ := wi_int h1
    cases os with
    | tup os =>
      have h2 : (os.all (fun o => wi o 0 (p - 1)) && incD os) = true := h2
      rw [Bool.and_eq_true] at h2
      obtain ⟨O, rfl⟩ := all_int h2.1
      refine ⟨p, O, rfl, p1, p2, fun o ho => ?_, incD_pw h2.2⟩
      have := List.all_eq_true.mp h2.1 (.int o) (List.mem_map.mpr ⟨o, ho, rfl⟩)
      obtain ⟨i, e, i1, i2⟩ := wi_int this
      cases e
      omega
    | _ => cases h2
  · cases h
theorem rdOf_t (p : Int) (O : List Int) : rdOf (.tup [.int p, .tup (O.map .int)]) = some (p, O) := by
  show (asInts (O.map D.int)).map _ = _
  rw [asInts_map]; rfl
theorem rd_pl (p : Int) (O : List Int) : D.pl (.tup [.int p, .tup (O.map .int)]) = true := by
  unfold D.pl D.pls D.pls D.pls D.pl
  rw [pls_all fun d hd => (int_ok d hd).1]; rfl
theorem RdOk.len {p : Int} {O : List Int} (h : RdOk p O) : O.length ≤ 240 := by
  have := inc_len h.inc (a := 0) h.lt
  have := h.p2
  omega
end K03
namespace K03
open PySem PySem.Spec PyProof.Rows L2 DL
theorem getD_at {xs : List Int} {i : Nat} (h : i < xs.length) : xs.getD i 0 = xs[i] := by rw [List.getD_eq_getElem?_getD, List.getElem?_eq_getElem h, Option.getD_some]
theorem oIx_ints {xs : List Int} {i : Int} (h0 : 0 ≤ i) (h1 : i < xs.length) : oIx (.tup (xs.map .int)) (.int i) = some (.int (xs.getD i.toNat 0)) := by
  rw [oIx_tw h0 (by rw [List.length_map]; exact h1), List.getElem?_map, List.getElem?_eq_getElem (show i.toNat < xs.length by omega), getD_at (show i.toNat < xs.length by omega)]; rfl
theorem O_bd {p : Int} {O : List Int} (h : RdOk p O) (i : Nat) : 0 ≤ O.getD i 0 ∧ O.getD i 0 < 240 := by
  rcases Nat.lt_or_ge i O.length with q | q
  · rw [getD_at q]
    have := h.lt _ (List.getElem_mem q)
    have := h.p2
    omega
  · rw [List.getD_eq_getElem?_getD, List.getElem?_eq_none q]; decide
theorem foldl_mx (ns : List Int) : ∀ n, ∃ a, most (n :: ns) = some a ∧ a = ns.foldl max n := fun n => ⟨_, rfl, rfl⟩
theorem mm_lst {xs : List Int} (h : xs ≠ []) : ∃ a b, most xs = some a ∧ least xs = some b ∧ bMaxT [.lst (xs.map .int)] = some (.int a) ∧ bMinT [.lst (xs.map .int)] = some (.int b) := by
  cases xs with
  | nil => exact absurd rfl h
  | cons x xs =>
    refine ⟨_, _, rfl, rfl, ?_, ?_⟩
    · show (asInts _).bind _ = _
      rw [asInts_map]; rfl
    · show (asInts _).bind _ = _
      rw [asInts_map]; rfl
theorem semx__law_odd_round  (Q : D → Prop) (X : Nat → List D → Prop) (h : fora (fun d : D => d.pl = true ∧ isRd d = false) fun d => Q d) : d__law_odd_round [.val .st, .fuel 1] ⟨fun _ => Q .non, Q, fun _ => False, fun _ => False, X⟩ := by
  unfold d__law_odd_round
  (try simp -dsimp (disch := first | omega | assumption | (refine id ?_; with_unfolding_all exact Eq.refl true) | (and_intros <;> first | assumption | omega | with_unfolding_all exact Eq.refl true | with_unfolding_all exact le1 (Eq.refl true)) | (simp only [WLEN]; omega) | fail) only [↓WA, ↓dCL_c, ↓WRV, ↓dPar3_w, ↓dSD_w, ↓WS, ↓WM, ↓WG, WCL, WB, WC, WD, WEE, WTY, WRE, WF, WH, Int.zero_add, Int.reduceToNat, Int.reducePow, Nat.reduceBEq, Nat.reduceAdd, Nat.reduceSub, Nat.reduceMul, Nat.reduceEqDiff, Int.reduceAdd, Int.reduceSub, Int.reduceMul, Int.reduceNeg, Int.reduceEq, Int.reduceLT, Int.reduceLE, Int.cast_ofNat_Int, Int.natCast_one, Int.natCast_zero])
  intro x hx
  refine h x ?_
  simp only [List.mem_cons, List.not_mem_nil, or_false] at hx
  rcases hx with rfl | rfl | rfl | rfl | rfl | rfl | rfl | rfl | rfl | rfl | rfl | rfl | rfl | rfl | rfl | rfl <;> exact ⟨rfl, rfl⟩
theorem sem__law_odd_round (ds : List D) (Q : D → Prop) (X : Nat → List D → Prop) (hl : ds.length = 1) (h : sp__law_odd_round ds Q X) : d__law_odd_round (startE N__law_odd_round.length 1 ds) ⟨fun _ => Q .non, Q, fun _ => False, fun _ => False, X⟩ := by
  have ⟨e, h⟩ : ds = [.st] ∧ (fora (fun d : D => d.pl = true ∧ isRd d = false) fun d => Q d) := by
    unfold sp__law_odd_round at h
    split at h
    · exact ⟨rfl, h⟩
    · exact h.elim
  subst e
  exact semx__law_odd_round  Q X h
end K03
namespace K03
open PySem PySem.Spec PyProof.Rows L2 DL
theorem filt_ok {p : Int} (p1 : 1 ≤ p) (p2 : p ≤ 240) (f : Int → Bool) : RdOk p ((rngI p.toNat).filter f) := ⟨p1, p2, fun o ho => by
  have := rngI_mem.mp (List.mem_filter.mp ho).1
  omega, (rngI_inc p.toNat).sublist List.filter_sublist⟩
theorem srt_ok {p : Int} (p1 : 1 ≤ p) (p2 : p ≤ 240) {xs : List Int} (hn : xs.Nodup) (h : ∀ x ∈ xs, 0 ≤ x ∧ x < p) : RdOk p (isort xs) := ⟨p1, p2, fun o ho => h o ((isort_perm xs).mem_iff.mp ho), isort_lt hn⟩
theorem uq_ok {p : Int} (p1 : 1 ≤ p) (p2 : p ≤ 240) {ks : List Int} (h : ∀ x ∈ ks, 0 ≤ x ∧ x < p) : RdOk p (isort (uniqI ks)) := srt_ok p1 p2 (uniq_nodup ks) fun x hx => h x (uniq_mem.mp hx)
theorem keysOf_m : ∀ (ks : List Int) (b : D), keysOf (ks.map fun k => .tup [.int k, b]) = some ks
  | [], _ => rfl
  | k :: ks, b => by
    show (keysOf (ks.map fun k => .tup [.int k, b])).map (k :: ·) = _
    rw [keysOf_m ks b]; rfl
theorem semx__law_round (m : Int) (Q : D → Prop) (X : Nat → List D → Prop) (h : sd (1 ≤ m ∧ m ≤ 240) (fora (fun z : Int × List Int => RdOk z.1 z.2 ∧ z.1 ≤ m) fun z => Q (.tup [.int z.1, .tup (z.2.map .int)]))) : d__law_round [.val .st, .val (.int m), .un, .un, .un, .un, .un, .un, .un, .un, .un, .un, .fuel 300] ⟨fun _ => Q .non, Q, fun _ => False, fun _ => False, X⟩ := by
  unfold d__law_round
  obtain ⟨⟨m1, m2⟩, k⟩ := h
  refine blk_w (fun ρ => ∃ p w : Int, (1 ≤ p ∧ p ≤ m ∧ 0 ≤ w ∧ w < 6) ∧ ρ = [.val .st, .val (.int m), .val (.int p), .val (.int w), .un, .un, .un, .un, .un, .un, .un, .un, .fuel 298]) (fun K hK => ?_) ?_
  · (try simp -dsimp (disch := first | omega | assumption | (refine id ?_; with_unfolding_all exact Eq.refl true) | (and_intros <;> first | assumption | omega | with_unfolding_all exact Eq.refl true | with_unfolding_all exact le1 (Eq.refl true)) | (simp only [WLEN]; omega) | fail) only [↓WA, ↓dCL_c, ↓WRV, ↓dPar3_w, ↓dSD_w, ↓WS, ↓WM, ↓WG, WCL, WB, WC, WD, WEE, WTY, WRE, WF, WH, Int.zero_add, Int.reduceToNat, Int.reducePow, Nat.reduceBEq, Nat.reduceAdd, Nat.reduceSub, Nat.reduceMul, Nat.reduceEqDiff, Int.reduceAdd, Int.reduceSub, Int.reduceMul, Int.reduceNeg, Int.reduceEq, Int.reduceLT, Int.reduceLE, Int.cast_ofNat_Int, Int.natCast_one, Int.natCast_zero])
    intro a a0 a1
    (try simp -dsimp (disch := first | omega | assumption | (refine id ?_; with_unfolding_all exact Eq.refl true) | (and_intros <;> first | assumption | omega | with_unfolding_all exact Eq.refl true | with_unfolding_all exact le1 (Eq.refl true)) | (simp only [WLEN]; omega) | fail) only [↓WA, ↓dCL_c, ↓WRV, ↓dPar3_w, ↓dSD_w, ↓WS, ↓WM, ↓WG, WCL, WB, WC, WD, WEE, WTY, WRE, WF, WH, Int.zero_add, Int.reduceToNat, Int.reducePow, Nat.reduceBEq, Nat.reduceAdd, Nat.reduceSub, Nat.reduceMul, Nat.reduceEqDiff, Int.reduceAdd, Int.reduceSub, Int.reduceMul, Int.reduceNeg, Int.reduceEq, Int.reduceLT, Int.reduceLE, Int.cast_ofNat_Int, Int.natCast_one, Int.natCast_zero])
    intro b b0 b1
    (try simp -dsimp (disch := first | omega | assumption | (refine id ?_; with_unfolding_all exact Eq.refl true) | (and_intros <;> first | assumption | omega | with_unfolding_all exact Eq.refl true | with_unfolding_all exact le1 (Eq.refl true)) | (simp only [WLEN]; omega) | fail) only [↓WA, ↓dCL_c, ↓WRV, ↓dPar3_w, ↓dSD_w, ↓WS, ↓WM, ↓WG, WCL, WB, WC, WD, WEE, WTY, WRE, WF, WH, Int.zero_add, Int.reduceToNat, Int.reducePow, Nat.reduceBEq, Nat.reduceAdd, Nat.reduceSub, Nat.reduceMul, Nat.reduceEqDiff, Int.reduceAdd, Int.reduceSub, Int.reduceMul, Int.reduceNeg, Int.reduceEq, Int.reduceLT, Int.reduceLE, Int.cast_ofNat_Int, Int.natCast_one, Int.natCast_zero])
    exact hK _ ⟨1 + a, b, by omega, rfl⟩
  rintro _ ⟨p, w, ⟨p1, p2, w0, w1⟩, rfl⟩
  have p240 : p ≤ 240 := by omega
  refine blk_w (fun ρ => ∃ o : Int, 1 ≤ o ∧ o ≤ 5 ∧ ρ = [.val .st, .val (.int m), .val (.int p), .val (.int w), .val (.int o), .un, .un, .un, .un, .un, .un, .un, .fuel 297]) (fun K hK => ?_) ?_
  · (try simp -dsimp (disch := first | omega | assumption | (refine id ?_; with_unfolding_all exact Eq.refl true) | (and_intros <;> first | assumption | omega | with_unfolding_all exact Eq.refl true | with_unfolding_all exact le1 (Eq.refl true)) | (simp only [WLEN]; omega) | fail) only [↓WA, ↓dCL_c, ↓WRV, ↓dPar3_w, ↓dSD_w, ↓WS, ↓WM, ↓WG, WCL, WB, WC, WD, WEE, WTY, WRE, WF, WH, Int.zero_add, Int.reduceToNat, Int.reducePow, Nat.reduceBEq, Nat.reduceAdd, Nat.reduceSub, Nat.reduceMul, Nat.reduceEqDiff, Int.reduceAdd, Int.reduceSub, Int.reduceMul, Int.reduceNeg, Int.reduceEq, Int.reduceLT, Int.reduceLE, Int.cast_ofNat_Int, Int.natCast_one, Int.natCast_zero])
    exact alls_c (hK _ ⟨2, by decide, by decide, rfl⟩) (alls_c (hK _ ⟨2, by decide, by decide, rfl⟩) (alls_c (hK _ ⟨3, by decide, by decide, rfl⟩) (alls_c (hK _ ⟨5, by decide, by decide, rfl⟩) (alls_c (hK _ ⟨1, by decide, by decide, rfl⟩) alls_n))))
  rintro _ ⟨o, o1, o2, rfl⟩
  refine blk_w (fun ρ => ∃ (O : List Int), RdOk p O ∧ ρ = [.val .st, .val (.int m), .val (.int p), .val (.int w), .val (.int o), .val (.lst (O.map .int)), .un, .un, .un, .un, .un, .un, .fuel (297 - p.toNat)]) (fun K hK => ?_) ?_
  · (try simp -dsimp (disch := first | omega | assumption | (refine id ?_; with_unfolding_all exact Eq.refl true) | (and_intros <;> first | assumption | omega | with_unfolding_all exact Eq.refl true | with_unfolding_all exact le1 (Eq.refl true)) | (simp only [WLEN]; omega) | fail) only [↓WA, ↓dCL_c, ↓WRV, ↓dPar3_w, ↓dSD_w, ↓WS, ↓WM, ↓WG, WCL, WB, WC, WD, WEE, WTY, WRE, WF, WH, Int.zero_add, Int.reduceToNat, Int.reducePow, Nat.reduceBEq, Nat.reduceAdd, Nat.reduceSub, Nat.reduceMul, Nat.reduceEqDiff, Int.reduceAdd, Int.reduceSub, Int.reduceMul, Int.reduceNeg, Int.reduceEq, Int.reduceLT, Int.reduceLE, Int.cast_ofNat_Int, Int.natCast_one, Int.natCast_zero])
    refine dCL_ind (fun i acc ρ => ∃ O : List Int, acc = O.map .int ∧ (∀ x ∈ O, 0 ≤ x ∧ x < (i : Int)) ∧ O.Pairwise (· < ·) ∧ i ≤ p.toNat ∧ ρ = [.val .st, .val (.int m), .val (.int p), .val (.int w), .val (.int o), .un, .un, .un, .un, .un, .un, .un, .fuel (297 - i)]) _ 0 _ _ ⟨[], rfl, fun x hx => (by cases hx), .nil, by omega, rfl⟩ ?_ ?_
    · rintro i x acc _ K1 hx ⟨O, rfl, hO, hi, hk, rfl⟩ hK1
      obtain ⟨rfl, hip⟩ := rng_at hx
      refine ⟨_, rfl, ?_⟩
      (try simp -dsimp (disch := first | omega | assumption | (refine id ?_; with_unfolding_all exact Eq.refl true) | (and_intros <;> first | assumption | omega | with_unfolding_all exact Eq.refl true | with_unfolding_all exact le1 (Eq.refl true)) | (simp only [WLEN]; omega) | fail) only [↓WA, ↓dCL_c, ↓WRV, ↓dPar3_w, ↓dSD_w, ↓WS, ↓WM, ↓WG, WCL, WB, WC, WD, WEE, WTY, WRE, WF, WH, Int.zero_add, Int.reduceToNat, Int.reducePow, Nat.reduceBEq, Nat.reduceAdd, Nat.reduceSub, Nat.reduceMul, Nat.reduceEqDiff, Int.reduceAdd, Int.reduceSub, Int.reduceMul, Int.reduceNeg, Int.reduceEq, Int.reduceLT, Int.reduceLE, Int.cast_ofNat_Int, Int.natCast_one, Int.natCast_zero])
      intro d d0 d1
      by_cases hd : d = 0
      · (try simp -dsimp (disch := first | omega | assumption | (refine id ?_; with_unfolding_all exact Eq.refl true) | (and_intros <;> first | assumption | omega | with_unfolding_all exact Eq.refl true | with_unfolding_all exact le1 (Eq.refl true)) | (simp only [WLEN]; omega) | fail) only [↓WA, ↓dCL_c, ↓WRV, ↓dPar3_w, ↓dSD_w, ↓WS, ↓WM, ↓WG, WCL, WB, WC, WD, WEE, WTY, WRE, WF, WH, Int.zero_add, Int.reduceToNat, Int.reducePow, Nat.reduceBEq, Nat.reduceAdd, Nat.reduceSub, Nat.reduceMul, Nat.reduceEqDiff, Int.reduceAdd, Int.reduceSub, Int.reduceMul, Int.reduceNeg, Int.reduceEq, Int.reduceLT, Int.reduceLE, Int.cast_ofNat_Int, Int.natCast_one, Int.natCast_zero, decide_eq_true hd])
        refine hK1 _ _ ⟨O ++ [((i : Nat) : Int)], by rw [List.map_append]; rfl, fun x hx => ?_, ?_, by omega, ?_⟩
        · rcases List.mem_append.mp hx with hx | hx
          · have := hO x hx; omega
          · rw [List.mem_singleton] at hx; omega
        · rw [List.pairwise_append]
          refine ⟨hi, by simp, fun a ha b hb => ?_⟩
          rw [List.mem_singleton] at hb
          have := hO a ha
          omega
        · simp only [List.cons.injEq, SV.fuel.injEq, true_and, and_true]
          try omega
      · (try simp -dsimp (disch := first | omega | assumption | (refine id ?_; with_unfolding_all exact Eq.refl true) | (and_intros <;> first | assumption | omega | with_unfolding_all exact Eq.refl true | with_unfolding_all exact le1 (Eq.refl true)) | (simp only [WLEN]; omega) | fail) only [↓WA, ↓dCL_c, ↓WRV, ↓dPar3_w, ↓dSD_w, ↓WS, ↓WM, ↓WG, WCL, WB, WC, WD, WEE, WTY, WRE, WF, WH, Int.zero_add, Int.reduceToNat, Int.reducePow, Nat.reduceBEq, Nat.reduceAdd, Nat.reduceSub, Nat.reduceMul, Nat.reduceEqDiff, Int.reduceAdd, Int.reduceSub, Int.reduceMul, Int.reduceNeg, Int.reduceEq, Int.reduceLT, Int.reduceLE, Int.cast_ofNat_Int, Int.natCast_one, Int.natCast_zero, decide_eq_false hd])
        refine hK1 _ _ ⟨O, rfl, fun x hx => (by have := hO x hx; omega), hi, by omega, ?_⟩
        simp only [List.cons.injEq, SV.fuel.injEq, true_and, and_true]
        try omega
    · rintro acc _ ⟨O, rfl, hO, hi, hk, rfl⟩
      rw [rng_len, Nat.zero_add] at hO
      refine hK _ ⟨O, ⟨p1, p240, fun x hx => (by have := hO x hx; omega), hi⟩, ?_⟩
      rw [rng_len, Nat.zero_add]; rfl
  rintro _ ⟨O, ok, rfl⟩
  obtain ⟨F, hF⟩ : ∃ F, F = 297 - p.toNat ∧ 57 ≤ F := ⟨_, rfl, by omega⟩
  rw [← hF.1]
  obtain ⟨_, hF⟩ := hF
  refine blk_w (fun ρ => ∃ (O : List Int) (F : Nat) (y : SV), RdOk p O ∧ 50 ≤ F ∧ ρ = [.val .st, .val (.int m), .val (.int p), .val (.int w), .val (.int o), .val (.lst (O.map .int)), y, .un, .un, .un, .un, .un, .fuel F]) (fun K hK => ?_) ?_
  · by_cases c : w = 0
    · (try simp -dsimp (disch := first | omega | assumption | (refine id ?_; with_unfolding_all exact Eq.refl true) | (and_intros <;> first | assumption | omega | with_unfolding_all exact Eq.refl true | with_unfolding_all exact le1 (Eq.refl true)) | (simp only [WLEN]; omega) | fail) only [↓WA, ↓dCL_c, ↓WRV, ↓dPar3_w, ↓dSD_w, ↓WS, ↓WM, ↓WG, WCL, WB, WC, WD, WEE, WTY, WRE, WF, WH, Int.zero_add, Int.reduceToNat, Int.reducePow, Nat.reduceBEq, Nat.reduceAdd, Nat.reduceSub, Nat.reduceMul, Nat.reduceEqDiff, Int.reduceAdd, Int.reduceSub, Int.reduceMul, Int.reduceNeg, Int.reduceEq, Int.reduceLT, Int.reduceLE, Int.cast_ofNat_Int, Int.natCast_one, Int.natCast_zero, decide_eq_true c])
      rw [show (p + 1 - 1).toNat = p.toNat by omega, rng_1]
      refine dCL_fg (fun i : Nat => .int ((i : Int) + 1)) (fun i : Nat => decide (p % ((i : Int) + 1) = 0)) (fun i : Nat => .int ((i : Int) + 1)) (List.range p.toNat) [] (fun i hi K1 K2 h1 h2 => ?_) ?_
      · by_cases hh : p % ((i : Int) + 1) = 0
        · (try simp -dsimp (disch := first | omega | assumption | (refine id ?_; with_unfolding_all exact Eq.refl true) | (and_intros <;> first | assumption | omega | with_unfolding_all exact Eq.refl true | with_unfolding_all exact le1 (Eq.refl true)) | (simp only [WLEN]; omega) | fail) only [↓WA, ↓dCL_c, ↓WRV, ↓dPar3_w, ↓dSD_w, ↓WS, ↓WM, ↓WG, WCL, WB, WC, WD, WEE, WTY, WRE, WF, WH, Int.zero_add, Int.reduceToNat, Int.reducePow, Nat.reduceBEq, Nat.reduceAdd, Nat.reduceSub, Nat.reduceMul, Nat.reduceEqDiff, Int.reduceAdd, Int.reduceSub, Int.reduceMul, Int.reduceNeg, Int.reduceEq, Int.reduceLT, Int.reduceLE, Int.cast_ofNat_Int, Int.natCast_one, Int.natCast_zero, decide_eq_true hh])
          exact h1 (decide_eq_true hh) _ rfl
        · (try simp -dsimp (disch := first | omega | assumption | (refine id ?_; with_unfolding_all exact Eq.refl true) | (and_intros <;> first | assumption | omega | with_unfolding_all exact Eq.refl true | with_unfolding_all exact le1 (Eq.refl true)) | (simp only [WLEN]; omega) | fail) only [↓WA, ↓dCL_c, ↓WRV, ↓dPar3_w, ↓dSD_w, ↓WS, ↓WM, ↓WG, WCL, WB, WC, WD, WEE, WTY, WRE, WF, WH, Int.zero_add, Int.reduceToNat, Int.reducePow, Nat.reduceBEq, Nat.reduceAdd, Nat.reduceSub, Nat.reduceMul, Nat.reduceEqDiff, Int.reduceAdd, Int.reduceSub, Int.reduceMul, Int.reduceNeg, Int.reduceEq, Int.reduceLT, Int.reduceLE, Int.cast_ofNat_Int, Int.natCast_one, Int.natCast_zero, decide_eq_false hh])
          exact h2 (decide_eq_false hh) _ rfl
      rw [List.nil_append]
      have ne : 0 < ((List.range p.toNat).filter fun i : Nat => decide (p % ((i : Int) + 1) = 0)).length := List.length_pos_of_mem (a := 0) (List.mem_filter.mpr ⟨List.mem_range.mpr (by omega), by
        rw [show ((0 : Nat) : Int) + 1 = 1 from rfl, Int.emod_one]; rfl⟩)
      have le := List.length_filter_le (fun i : Nat => decide (p % ((i : Int) + 1) = 0)) (List.range p.toNat)
      rw [List.length_range] at le
      generalize ((List.range p.toNat).filter fun i : Nat => decide (p % ((i : Int) + 1) = 0)) = R at *
      (try simp -dsimp (disch := first | omega | assumption | (refine id ?_; with_unfolding_all exact Eq.refl true) | (and_intros <;> first | assumption | omega | with_unfolding_all exact Eq.refl true | with_unfolding_all exact le1 (Eq.refl true)) | (simp only [WLEN]; omega) | fail) only [↓WA, ↓dCL_c, ↓WRV, ↓dPar3_w, ↓dSD_w, ↓WS, ↓WM, ↓WG, WCL, WB, WC, WD, WEE, WTY, WRE, WF, WH, Int.zero_add, Int.reduceToNat, Int.reducePow, Nat.reduceBEq, Nat.reduceAdd, Nat.reduceSub, Nat.reduceMul, Nat.reduceEqDiff, Int.reduceAdd, Int.reduceSub, Int.reduceMul, Int.reduceNeg, Int.reduceEq, Int.reduceLT, Int.reduceLE, Int.cast_ofNat_Int, Int.natCast_one, Int.natCast_zero])
      intro x hx
      obtain ⟨q, _, rfl⟩ := List.mem_map.mp hx
      (try simp -dsimp (disch := first | omega | assumption | (refine id ?_; with_unfolding_all exact Eq.refl true) | (and_intros <;> first | assumption | omega | with_unfolding_all exact Eq.refl true | with_unfolding_all exact le1 (Eq.refl true)) | (simp only [WLEN]; omega) | fail) only [↓WA, ↓dCL_c, ↓WRV, ↓dPar3_w, ↓dSD_w, ↓WS, ↓WM, ↓WG, WCL, WB, WC, WD, WEE, WTY, WRE, WF, WH, Int.zero_add, Int.reduceToNat, Int.reducePow, Nat.reduceBEq, Nat.reduceAdd, Nat.reduceSub, Nat.reduceMul, Nat.reduceEqDiff, Int.reduceAdd, Int.reduceSub, Int.reduceMul, Int.reduceNeg, Int.reduceEq, Int.reduceLT, Int.reduceLE, Int.cast_ofNat_Int, Int.natCast_one, Int.natCast_zero])
      rw [rng_I]
      refine dCL_fg .int (fun x => hasI O (x % ((q : Int) + 1))) .int (rngI p.toNat) [] (fun x hx K1 K2 h1 h2 => ?_) ?_
      · have e : (O.any fun o => decide (o = x % ((q : Int) + 1))) = hasI O (x % ((q : Int) + 1)) := rfl
        cases hh : hasI O (x % ((q : Int) + 1)) with
        | true =>
          (try simp -dsimp (disch := first | omega | assumption | (refine id ?_; with_unfolding_all exact Eq.refl true) | (and_intros <;> first | assumption | omega | with_unfolding_all exact Eq.refl true | with_unfolding_all exact le1 (Eq.refl true)) | (simp only [WLEN]; omega) | fail) only [↓WA, ↓dCL_c, ↓WRV, ↓dPar3_w, ↓dSD_w, ↓WS, ↓WM, ↓WG, WCL, WB, WC, WD, WEE, WTY, WRE, WF, WH, Int.zero_add, Int.reduceToNat, Int.reducePow, Nat.reduceBEq, Nat.reduceAdd, Nat.reduceSub, Nat.reduceMul, Nat.reduceEqDiff, Int.reduceAdd, Int.reduceSub, Int.reduceMul, Int.reduceNeg, Int.reduceEq, Int.reduceLT, Int.reduceLE, Int.cast_ofNat_Int, Int.natCast_one, Int.natCast_zero, e, hh])
          exact h1 hh _ rfl
        | false =>
          (try simp -dsimp (disch := first | omega | assumption | (refine id ?_; with_unfolding_all exact Eq.refl true) | (and_intros <;> first | assumption | omega | with_unfolding_all exact Eq.refl true | with_unfolding_all exact le1 (Eq.refl true)) | (simp only [WLEN]; omega) | fail) only [↓WA, ↓dCL_c, ↓WRV, ↓dPar3_w, ↓dSD_w, ↓WS, ↓WM, ↓WG, WCL, WB, WC, WD, WEE, WTY, WRE, WF, WH, Int.zero_add, Int.reduceToNat, Int.reducePow, Nat.reduceBEq, Nat.reduceAdd, Nat.reduceSub, Nat.reduceMul, Nat.reduceEqDiff, Int.reduceAdd, Int.reduceSub, Int.reduceMul, Int.reduceNeg, Int.reduceEq, Int.reduceLT, Int.reduceLE, Int.cast_ofNat_Int, Int.natCast_one, Int.natCast_zero, e, hh])
          exact h2 hh _ rfl
      refine hK _ ⟨(rngI p.toNat).filter fun x => hasI O (x % ((q : Int) + 1)), F - 1, .val (.int ((q : Int) + 1)), filt_ok p1 p240 _, by omega, ?_⟩
      rw [List.nil_append]; rfl
    · (try simp -dsimp (disch := first | omega | assumption | (refine id ?_; with_unfolding_all exact Eq.refl true) | (and_intros <;> first | assumption | omega | with_unfolding_all exact Eq.refl true | with_unfolding_all exact le1 (Eq.refl true)) | (simp only [WLEN]; omega) | fail) only [↓WA, ↓dCL_c, ↓WRV, ↓dPar3_w, ↓dSD_w, ↓WS, ↓WM, ↓WG, WCL, WB, WC, WD, WEE, WTY, WRE, WF, WH, Int.zero_add, Int.reduceToNat, Int.reducePow, Nat.reduceBEq, Nat.reduceAdd, Nat.reduceSub, Nat.reduceMul, Nat.reduceEqDiff, Int.reduceAdd, Int.reduceSub, Int.reduceMul, Int.reduceNeg, Int.reduceEq, Int.reduceLT, Int.reduceLE, Int.cast_ofNat_Int, Int.natCast_one, Int.natCast_zero, decide_eq_false c])
      exact hK _ ⟨O, F, _, ok, by omega, rfl⟩
  clear ok hF
  rintro _ ⟨O, F, y6, ok, hF, rfl⟩
  refine blk_w (fun ρ => ∃ (O : List Int) (F : Nat) (y7 y8 : SV), RdOk p O ∧ 40 ≤ F ∧ ρ = [.val .st, .val (.int m), .val (.int p), .val (.int w), .val (.int o), .val (.lst (O.map .int)), y6, y7, y8, .un, .un, .un, .fuel F]) (fun K hK => ?_) ?_
  · by_cases c : w = 1
    · (try simp -dsimp (disch := first | omega | assumption | (refine id ?_; with_unfolding_all exact Eq.refl true) | (and_intros <;> first | assumption | omega | with_unfolding_all exact Eq.refl true | with_unfolding_all exact le1 (Eq.refl true)) | (simp only [WLEN]; omega) | fail) only [↓WA, ↓dCL_c, ↓WRV, ↓dPar3_w, ↓dSD_w, ↓WS, ↓WM, ↓WG, WCL, WB, WC, WD, WEE, WTY, WRE, WF, WH, Int.zero_add, Int.reduceToNat, Int.reducePow, Nat.reduceBEq, Nat.reduceAdd, Nat.reduceSub, Nat.reduceMul, Nat.reduceEqDiff, Int.reduceAdd, Int.reduceSub, Int.reduceMul, Int.reduceNeg, Int.reduceEq, Int.reduceLT, Int.reduceLE, Int.cast_ofNat_Int, Int.natCast_one, Int.natCast_zero, decide_eq_true c])
      intro a a0 a1
      (try simp -dsimp (disch := first | omega | assumption | (refine id ?_; with_unfolding_all exact Eq.refl true) | (and_intros <;> first | assumption | omega | with_unfolding_all exact Eq.refl true | with_unfolding_all exact le1 (Eq.refl true)) | (simp only [WLEN]; omega) | fail) only [↓WA, ↓dCL_c, ↓WRV, ↓dPar3_w, ↓dSD_w, ↓WS, ↓WM, ↓WG, WCL, WB, WC, WD, WEE, WTY, WRE, WF, WH, Int.zero_add, Int.reduceToNat, Int.reducePow, Nat.reduceBEq, Nat.reduceAdd, Nat.reduceSub, Nat.reduceMul, Nat.reduceEqDiff, Int.reduceAdd, Int.reduceSub, Int.reduceMul, Int.reduceNeg, Int.reduceEq, Int.reduceLT, Int.reduceLE, Int.cast_ofNat_Int, Int.natCast_one, Int.natCast_zero])
      intro b b0 b1
      (try simp -dsimp (disch := first | omega | assumption | (refine id ?_; with_unfolding_all exact Eq.refl true) | (and_intros <;> first | assumption | omega | with_unfolding_all exact Eq.refl true | with_unfolding_all exact le1 (Eq.refl true)) | (simp only [WLEN]; omega) | fail) only [↓WA, ↓dCL_c, ↓WRV, ↓dPar3_w, ↓dSD_w, ↓WS, ↓WM, ↓WG, WCL, WB, WC, WD, WEE, WTY, WRE, WF, WH, Int.zero_add, Int.reduceToNat, Int.reducePow, Nat.reduceBEq, Nat.reduceAdd, Nat.reduceSub, Nat.reduceMul, Nat.reduceEqDiff, Int.reduceAdd, Int.reduceSub, Int.reduceMul, Int.reduceNeg, Int.reduceEq, Int.reduceLT, Int.reduceLE, Int.cast_ofNat_Int, Int.natCast_one, Int.natCast_zero])
      rw [rng_N]
      refine dCL_mg (fun i : Nat => .int (i : Nat)) (fun i : Nat => .tup [.int (((i : Int) * p + b) / (1 + a) % p), .bl true]) (List.range (1 + a).toNat) [] (fun i hi K hK => ?_) ?_
      · have hi := List.mem_range.mp hi
        have bb := Int.mul_le_mul (show (i : Int) ≤ 240 by omega) p240 (by omega) (by decide)
        have b0 := Int.mul_nonneg (show 0 ≤ (i : Int) by omega) (show 0 ≤ p by omega)
        (try simp -dsimp (disch := first | omega | assumption | (refine id ?_; with_unfolding_all exact Eq.refl true) | (and_intros <;> first | assumption | omega | with_unfolding_all exact Eq.refl true | with_unfolding_all exact le1 (Eq.refl true)) | (simp only [WLEN]; omega) | fail) only [↓WA, ↓dCL_c, ↓WRV, ↓dPar3_w, ↓dSD_w, ↓WS, ↓WM, ↓WG, WCL, WB, WC, WD, WEE, WTY, WRE, WF, WH, Int.zero_add, Int.reduceToNat, Int.reducePow, Nat.reduceBEq, Nat.reduceAdd, Nat.reduceSub, Nat.reduceMul, Nat.reduceEqDiff, Int.reduceAdd, Int.reduceSub, Int.reduceMul, Int.reduceNeg, Int.reduceEq, Int.reduceLT, Int.reduceLE, Int.cast_ofNat_Int, Int.natCast_one, Int.natCast_zero])
        exact hK _ rfl
      have ks := keysOf_m ((List.range (1 + a).toNat).map fun i : Nat => ((i : Int) * p + b) / (1 + a) % p) (.bl true)
      rw [List.map_map] at ks
      rw [List.nil_append]
      refine ⟨_, rfl, ?_⟩
      refine oe_i ks ?_
      refine hK _ ⟨isort (uniqI ((List.range (1 + a).toNat).map fun i : Nat => ((i : Int) * p + b) / (1 + a) % p)), F - 2, _, _, uq_ok p1 p240 fun x hx => ?_, by omega, rfl⟩
      obtain ⟨i, _, rfl⟩ := List.mem_map.mp hx
      exact ⟨Int.emod_nonneg _ (by omega), Int.emod_lt_of_pos _ (by omega)⟩
    · (try simp -dsimp (disch := first | omega | assumption | (refine id ?_; with_unfolding_all exact Eq.refl true) | (and_intros <;> first | assumption | omega | with_unfolding_all exact Eq.refl true | with_unfolding_all exact le1 (Eq.refl true)) | (simp only [WLEN]; omega) | fail) only [↓WA, ↓dCL_c, ↓WRV, ↓dPar3_w, ↓dSD_w, ↓WS, ↓WM, ↓WG, WCL, WB, WC, WD, WEE, WTY, WRE, WF, WH, Int.zero_add, Int.reduceToNat, Int.reducePow, Nat.reduceBEq, Nat.reduceAdd, Nat.reduceSub, Nat.reduceMul, Nat.reduceEqDiff, Int.reduceAdd, Int.reduceSub, Int.reduceMul, Int.reduceNeg, Int.reduceEq, Int.reduceLT, Int.reduceLE, Int.cast_ofNat_Int, Int.natCast_one, Int.natCast_zero, decide_eq_false c])
      exact hK _ ⟨O, F, _, _, ok, by omega, rfl⟩
  clear ok hF
  rintro _ ⟨O, F, y7, y8, ok, hF, rfl⟩
  refine blk_w (fun ρ => ∃ (O : List Int) (F : Nat) (y7 : SV), RdOk p O ∧ ρ = [.val .st, .val (.int m), .val (.int p), .val (.int w), .val (.int o), .val (.lst (O.map .int)), y6, y7, y8, .un, .un, .un, .fuel F]) (fun K hK => ?_) ?_
  · by_cases c : w = 2
    · by_cases c2 : 2 < p
      · (try simp -dsimp (disch := first | omega | assumption | (refine id ?_; with_unfolding_all exact Eq.refl true) | (and_intros <;> first | assumption | omega | with_unfolding_all exact Eq.refl true | with_unfolding_all exact le1 (Eq.refl true)) | (simp only [WLEN]; omega) | fail) only [↓WA, ↓dCL_c, ↓WRV, ↓dPar3_w, ↓dSD_w, ↓WS, ↓WM, ↓WG, WCL, WB, WC, WD, WEE, WTY, WRE, WF, WH, Int.zero_add, Int.reduceToNat, Int.reducePow, Nat.reduceBEq, Nat.reduceAdd, Nat.reduceSub, Nat.reduceMul, Nat.reduceEqDiff, Int.reduceAdd, Int.reduceSub, Int.reduceMul, Int.reduceNeg, Int.reduceEq, Int.reduceLT, Int.reduceLE, Int.cast_ofNat_Int, Int.natCast_one, Int.natCast_zero, decide_eq_true c, decide_eq_true c2])
        intro a a0 a1
        (try simp -dsimp (disch := first | omega | assumption | (refine id ?_; with_unfolding_all exact Eq.refl true) | (and_intros <;> first | assumption | omega | with_unfolding_all exact Eq.refl true | with_unfolding_all exact le1 (Eq.refl true)) | (simp only [WLEN]; omega) | fail) only [↓WA, ↓dCL_c, ↓WRV, ↓dPar3_w, ↓dSD_w, ↓WS, ↓WM, ↓WG, WCL, WB, WC, WD, WEE, WTY, WRE, WF, WH, Int.zero_add, Int.reduceToNat, Int.reducePow, Nat.reduceBEq, Nat.reduceAdd, Nat.reduceSub, Nat.reduceMul, Nat.reduceEqDiff, Int.reduceAdd, Int.reduceSub, Int.reduceMul, Int.reduceNeg, Int.reduceEq, Int.reduceLT, Int.reduceLE, Int.cast_ofNat_Int, Int.natCast_one, Int.natCast_zero])
        rw [rng_N]
        refine dCL_mg (fun i : Nat => .int (i : Nat)) (fun i : Nat => .tup [.int ((i : Int) * p / (1 + a)), .bl true]) (List.range (1 + a).toNat) [] (fun i hi K hK => ?_) ?_
        · have hi := List.mem_range.mp hi
          have bb := Int.mul_le_mul (show (i : Int) ≤ 240 by omega) p240 (by omega) (by decide)
          have b0 := Int.mul_nonneg (show 0 ≤ (i : Int) by omega) (show 0 ≤ p by omega)
          (try simp -dsimp (disch := first | omega | assumption | (refine id ?_; with_unfolding_all exact Eq.refl true) | (and_intros <;> first | assumption | omega | with_unfolding_all exact Eq.refl true | with_unfolding_all exact le1 (Eq.refl true)) | (simp only [WLEN]; omega) | fail) only [↓WA, ↓dCL_c, ↓WRV, ↓dPar3_w, ↓dSD_w, ↓WS, ↓WM, ↓WG, WCL, WB, WC, WD, WEE, WTY, WRE, WF, WH, Int.zero_add, Int.reduceToNat, Int.reducePow, Nat.reduceBEq, Nat.reduceAdd, Nat.reduceSub, Nat.reduceMul, Nat.reduceEqDiff, Int.reduceAdd, Int.reduceSub, Int.reduceMul, Int.reduceNeg, Int.reduceEq, Int.reduceLT, Int.reduceLE, Int.cast_ofNat_Int, Int.natCast_one, Int.natCast_zero])
          exact hK _ rfl
        (try simp -dsimp (disch := first | omega | assumption | (refine id ?_; with_unfolding_all exact Eq.refl true) | (and_intros <;> first | assumption | omega | with_unfolding_all exact Eq.refl true | with_unfolding_all exact le1 (Eq.refl true)) | (simp only [WLEN]; omega) | fail) only [↓WA, ↓dCL_c, ↓WRV, ↓dPar3_w, ↓dSD_w, ↓WS, ↓WM, ↓WG, WCL, WB, WC, WD, WEE, WTY, WRE, WF, WH, Int.zero_add, Int.reduceToNat, Int.reducePow, Nat.reduceBEq, Nat.reduceAdd, Nat.reduceSub, Nat.reduceMul, Nat.reduceEqDiff, Int.reduceAdd, Int.reduceSub, Int.reduceMul, Int.reduceNeg, Int.reduceEq, Int.reduceLT, Int.reduceLE, Int.cast_ofNat_Int, Int.natCast_one, Int.natCast_zero])
        intro b b0 b1
        have e : (List.range (1 + a).toNat).map (fun i : Nat => D.tup [.int ((i : Int) * p / (1 + a)), .bl true]) = ((List.range (1 + a).toNat).map fun i : Nat => (i : Int) * p / (1 + a)).map fun k => .tup [.int k, .bl true] := by rw [List.map_map]; rfl
        have ml : ((List.range (1 + a).toNat).map fun i : Nat => (i : Int) * p / (1 + a)).length ≤ 300 := by rw [List.length_map, List.length_range]; omega
        have mb : ∀ x ∈ (List.range (1 + a).toNat).map fun i : Nat => (i : Int) * p / (1 + a), 0 ≤ x ∧ x < p := fun x hx => by
          obtain ⟨i, hi, rfl⟩ := List.mem_map.mp hx
          have hi := List.mem_range.mp hi
          have b0 := Int.mul_nonneg (show 0 ≤ (i : Int) by omega) (show 0 ≤ p by omega)
          refine ⟨Int.ediv_nonneg b0 (by omega), Int.ediv_lt_of_lt_mul (by omega) ?_⟩
          rw [Int.mul_comm p]
          exact Int.mul_lt_mul_of_pos_right (by omega) (by omega)
        rw [e]
        generalize (List.range (1 + a).toNat).map (fun i : Nat => (i : Int) * p / (1 + a)) = M at *
        have oc : oCat (.lst (M.map fun k => .tup [.int k, .bl true])) (.lst [.tup [.int b, .bl true]]) = some ((M ++ [b]).map fun k => .tup [.int k, .bl true]) := by
          show (if _ then _ else _) = _
          rw [if_pos (by rw [List.length_map, List.length_singleton, sizeLine_eq]; omega), List.map_append]; rfl
        refine oe_i oc ?_
        refine ⟨_, rfl, ?_⟩
        refine oe_i (keysOf_m (M ++ [b]) (.bl true)) ?_
        refine hK _ ⟨isort (uniqI (M ++ [b])), F - 1 - 1, _, uq_ok p1 p240 fun x hx => ?_, rfl⟩
        rcases List.mem_append.mp hx with hx | hx
        · exact mb x hx
        · rw [List.mem_singleton] at hx
          omega
      · (try simp -dsimp (disch := first | omega | assumption | (refine id ?_; with_unfolding_all exact Eq.refl true) | (and_intros <;> first | assumption | omega | with_unfolding_all exact Eq.refl true | with_unfolding_all exact le1 (Eq.refl true)) | (simp only [WLEN]; omega) | fail) only [↓WA, ↓dCL_c, ↓WRV, ↓dPar3_w, ↓dSD_w, ↓WS, ↓WM, ↓WG, WCL, WB, WC, WD, WEE, WTY, WRE, WF, WH, Int.zero_add, Int.reduceToNat, Int.reducePow, Nat.reduceBEq, Nat.reduceAdd, Nat.reduceSub, Nat.reduceMul, Nat.reduceEqDiff, Int.reduceAdd, Int.reduceSub, Int.reduceMul, Int.reduceNeg, Int.reduceEq, Int.reduceLT, Int.reduceLE, Int.cast_ofNat_Int, Int.natCast_one, Int.natCast_zero, decide_eq_true c, decide_eq_false c2])
        exact hK _ ⟨O, F, _, ok, rfl⟩
    · (try simp -dsimp (disch := first | omega | assumption | (refine id ?_; with_unfolding_all exact Eq.refl true) | (and_intros <;> first | assumption | omega | with_unfolding_all exact Eq.refl true | with_unfolding_all exact le1 (Eq.refl true)) | (simp only [WLEN]; omega) | fail) only [↓WA, ↓dCL_c, ↓WRV, ↓dPar3_w, ↓dSD_w, ↓WS, ↓WM, ↓WG, WCL, WB, WC, WD, WEE, WTY, WRE, WF, WH, Int.zero_add, Int.reduceToNat, Int.reducePow, Nat.reduceBEq, Nat.reduceAdd, Nat.reduceSub, Nat.reduceMul, Nat.reduceEqDiff, Int.reduceAdd, Int.reduceSub, Int.reduceMul, Int.reduceNeg, Int.reduceEq, Int.reduceLT, Int.reduceLE, Int.cast_ofNat_Int, Int.natCast_one, Int.natCast_zero, decide_eq_false c])
      exact hK _ ⟨O, F, _, ok, rfl⟩
  clear ok hF
  rintro _ ⟨O, F, y7', ok, rfl⟩
  have bt : bTuple [.lst (O.map .int)] = some (.tup (O.map .int)) := rfl
  (try simp -dsimp (disch := first | omega | assumption | (refine id ?_; with_unfolding_all exact Eq.refl true) | (and_intros <;> first | assumption | omega | with_unfolding_all exact Eq.refl true | with_unfolding_all exact le1 (Eq.refl true)) | (simp only [WLEN]; omega) | fail) only [↓WA, ↓dCL_c, ↓WRV, ↓dPar3_w, ↓dSD_w, ↓WS, ↓WM, ↓WG, WCL, WB, WC, WD, WEE, WTY, WRE, WF, WH, Int.zero_add, Int.reduceToNat, Int.reducePow, Nat.reduceBEq, Nat.reduceAdd, Nat.reduceSub, Nat.reduceMul, Nat.reduceEqDiff, Int.reduceAdd, Int.reduceSub, Int.reduceMul, Int.reduceNeg, Int.reduceEq, Int.reduceLT, Int.reduceLE, Int.cast_ofNat_Int, Int.natCast_one, Int.natCast_zero, bt])
  exact k (p, O) ⟨ok, p2⟩
theorem sem__law_round (ds : List D) (Q : D → Prop) (X : Nat → List D → Prop) (hl : ds.length = 2) (h : sp__law_round ds Q X) : d__law_round (startE N__law_round.length 300 ds) ⟨fun _ => Q .non, Q, fun _ => False, fun _ => False, X⟩ := by
  have ⟨m, e, h⟩ : ∃ (m : Int), ds = [.st, .int m] ∧ (sd (1 ≤ m ∧ m ≤ 240) (fora (fun z : Int × List Int => RdOk z.1 z.2 ∧ z.1 ≤ m) fun z => Q (.tup [.int z.1, .tup (z.2.map .int)]))) := by
    unfold sp__law_round at h
    split at h
    · exact ⟨_, rfl, h⟩
    · exact h.elim
  subst e
  exact semx__law_round m Q X h
end K03
namespace K03
open PySem PySem.Spec PyProof.Rows L2 DL
theorem has_mem {O : List Int} {x : Int} : hasI O x = true ↔ x ∈ O := by
  unfold hasI
  rw [List.any_eq_true]
  exact ⟨fun ⟨o, h1, h2⟩ => by rw [← of_decide_eq_true h2]; exact h1, fun h => ⟨x, h, decide_eq_true rfl⟩⟩
theorem bits_len (p : Int) (O : List Int) : (bitsL p O).length = p.toNat := by unfold bitsL; rw [List.length_map, List.length_range]
theorem bits_lt {p : Int} {O : List Int} : ∀ c ∈ bitsL p O, c < 0x110000 := fun c hc => by
  obtain ⟨i, _, rfl⟩ := List.mem_map.mp hc
  split <;> decide
/-- the signs behind so many onsets -/
def mk (p : Int) (O : List Int) (i : Nat) : List Nat := (List.range p.toNat).map fun x : Nat => if hasI (O.take i) x then 49 else 48
theorem mk_all (p : Int) (O : List Int) : mk p O O.length = bitsL p O := by unfold mk bitsL; rw [List.take_length]
theorem mk_0 (p : Int) (O : List Int) : mk p O 0 = List.replicate p.toNat 48 := by
  unfold mk
  rw [List.take_zero, List.eq_replicate_iff]
  refine ⟨by rw [List.length_map, List.length_range], fun b hb => ?_⟩
  obtain ⟨i, _, rfl⟩ := List.mem_map.mp hb
  rfl
theorem mk_len (p : Int) (O : List Int) (i : Nat) : (mk p O i).length = p.toNat := by unfold mk; rw [List.length_map, List.length_range]
theorem mk_s {p : Int} {O : List Int} {i : Nat} {o : Int} (h : O[i]? = some o) (h0 : 0 ≤ o) : mk p O (i + 1) = (mk p O i).set o.toNat 49 := by
  refine List.ext_getElem? fun x => ?_
  rw [List.getElem?_set, mk_len]
  unfold mk
  rw [List.getElem?_map, List.getElem?_map]
  rw [List.take_add_one, h]
  rcases Nat.lt_or_ge x p.toNat with q | q
  · rw [List.getElem?_range q, Option.map_some, Option.map_some]
    have e : hasI (O.take i ++ (some o).toList) x = (hasI (O.take i) x || decide (o = x)) := by
      unfold hasI
      rw [List.any_append]
      show (_ || (decide (o = x) || false)) = _
      rw [Bool.or_false]
    rw [e]
    by_cases c : o = x
    · rw [decide_eq_true c, Bool.or_true, if_pos (show o.toNat = x by omega), if_pos (show o.toNat < p.toNat by omega)]; rfl
    · rw [decide_eq_false c, Bool.or_false, if_neg (show ¬ o.toNat = x by omega)]
  · rw [List.getElem?_eq_none (by rw [List.length_range]; exact q)]
    by_cases c : o.toNat = x
    · rw [if_pos c, if_neg (by omega)]; rfl
    · rw [if_neg c]; rfl
def chD (l : List Nat) : List D := l.map fun c => .str (txt [c])
theorem chD_set (l : List Nat) (i c : Nat) : (chD l).set i (.str (txt [c])) = chD (l.set i c) := by unfold chD; rw [List.map_set]
theorem semx_word_by (p : Int) (os : List D) (Q : D → Prop) (X : Nat → List D → Prop) (h : oe (asInts os) fun O => sd (RdOk p O) (Q (.str (txt (bitsL p O))))) : d_word_by [.val (.tup [.int p, .tup os]), .un, .un, .un, .un] ⟨fun _ => Q .non, Q, fun _ => False, fun _ => False, X⟩ := by
  unfold d_word_by
  obtain ⟨O, e, ok, k⟩ := h
  have e := asInts_eq e
  subst e
  have p1 := ok.p1
  have p2 := ok.p2
  have r0 : oRep (.lst [.str "0"]) (.int p) = some (chD (mk p O 0)) := by
    rw [oRep_1 (by omega) (by omega), mk_0]
    unfold chD
    rw [List.map_replicate]; rfl
  have jo : oJoin "" (.lst (chD (bitsL p O))) = some (.str (txt (bitsL p O))) := oJoin_txt rfl (by rw [bits_len]; omega) bits_lt
  (try simp -dsimp (disch := first | omega | assumption | (refine id ?_; with_unfolding_all exact Eq.refl true) | (and_intros <;> first | assumption | omega | with_unfolding_all exact Eq.refl true | with_unfolding_all exact le1 (Eq.refl true)) | (simp only [WLEN]; omega) | fail) only [↓WA, ↓dCL_c, ↓WRV, ↓dPar3_w, ↓dSD_w, ↓WS, ↓WM, ↓WG, WCL, WB, WC, WD, WEE, WTY, WRE, WF, WH, Int.zero_add, Int.reduceToNat, Int.reducePow, Nat.reduceBEq, Nat.reduceAdd, Nat.reduceSub, Nat.reduceMul, Nat.reduceEqDiff, Int.reduceAdd, Int.reduceSub, Int.reduceMul, Int.reduceNeg, Int.reduceEq, Int.reduceLT, Int.reduceLE, Int.cast_ofNat_Int, Int.natCast_one, Int.natCast_zero, r0])
  refine dFL_j (fun i ρ => ∃ x, ρ = [.val (.tup [.int p, .tup (O.map .int)]), .val (.int p), .val (.tup (O.map .int)), .ml (chD (mk p O i)), x]) _ _ ⟨_, rfl⟩ ?_ ?_
  · rintro i x _ K2 hx ⟨y, rfl⟩ hK2
    obtain ⟨o, ho, rfl⟩ := map_get hx
    have b := ok.lt o (List.mem_of_getElem? ho)
    have cl : (chD (mk p O i)).length = p.toNat := by unfold chD; rw [List.length_map, mk_len]
    have ix : ixN p.toNat o = some o.toNat := ixN_w b.1 (by omega)
    (try simp -dsimp (disch := first | omega | assumption | (refine id ?_; with_unfolding_all exact Eq.refl true) | (and_intros <;> first | assumption | omega | with_unfolding_all exact Eq.refl true | with_unfolding_all exact le1 (Eq.refl true)) | (simp only [WLEN]; omega) | fail) only [↓WA, ↓dCL_c, ↓WRV, ↓dPar3_w, ↓dSD_w, ↓WS, ↓WM, ↓WG, WCL, WB, WC, WD, WEE, WTY, WRE, WF, WH, Int.zero_add, Int.reduceToNat, Int.reducePow, Nat.reduceBEq, Nat.reduceAdd, Nat.reduceSub, Nat.reduceMul, Nat.reduceEqDiff, Int.reduceAdd, Int.reduceSub, Int.reduceMul, Int.reduceNeg, Int.reduceEq, Int.reduceLT, Int.reduceLE, Int.cast_ofNat_Int, Int.natCast_one, Int.natCast_zero, cl, ix])
    refine hK2 _ ⟨.val (.int o), ?_⟩
    rw [mk_s ho b.1, ← chD_set]; rfl
  · rintro _ ⟨x, rfl⟩
    rw [List.length_map, mk_all]
    generalize chD (bitsL p O) = M at *
    (try simp -dsimp (disch := first | omega | assumption | (refine id ?_; with_unfolding_all exact Eq.refl true) | (and_intros <;> first | assumption | omega | with_unfolding_all exact Eq.refl true | with_unfolding_all exact le1 (Eq.refl true)) | (simp only [WLEN]; omega) | fail) only [↓WA, ↓dCL_c, ↓WRV, ↓dPar3_w, ↓dSD_w, ↓WS, ↓WM, ↓WG, WCL, WB, WC, WD, WEE, WTY, WRE, WF, WH, Int.zero_add, Int.reduceToNat, Int.reducePow, Nat.reduceBEq, Nat.reduceAdd, Nat.reduceSub, Nat.reduceMul, Nat.reduceEqDiff, Int.reduceAdd, Int.reduceSub, Int.reduceMul, Int.reduceNeg, Int.reduceEq, Int.reduceLT, Int.reduceLE, Int.cast_ofNat_Int, Int.natCast_one, Int.natCast_zero, jo])
    exact k
theorem sem_word_by (ds : List D) (Q : D → Prop) (X : Nat → List D → Prop) (hl : ds.length = 1) (h : sp_word_by ds Q X) : d_word_by (startE N_word_by.length 0 ds) ⟨fun _ => Q .non, Q, fun _ => False, fun _ => False, X⟩ := by
  have ⟨p, os, e, h⟩ : ∃ (p : Int) (os : List D), ds = [.tup [.int p, .tup os]] ∧ (oe (asInts os) fun O => sd (RdOk p O) (Q (.str (txt (bitsL p O))))) := by
    unfold sp_word_by at h
    split at h
    · exact ⟨_, _, rfl, h⟩
    · exact h.elim
  subst e
  exact semx_word_by p os Q X h
end K03
namespace K03
open PySem PySem.Spec PyProof.Rows L2 DL
theorem tup_ints (xs : List Int) : bTuple [.lst (xs.map .int)] = some (.tup (xs.map .int)) := rfl
theorem emod_lt' {p x : Int} (h : 1 ≤ p) : 0 ≤ x % p ∧ x % p < p := ⟨Int.emod_nonneg _ (by omega), Int.emod_lt_of_pos _ (by omega)⟩
theorem eqv_ints : ∀ xs ys : List Int, PyData.eqvAll (D.pys (xs.map .int)) (D.pys (ys.map .int)) = decide (xs = ys)
  | [], [] => by unfold D.pys PyData.eqvAll; rfl
  | [], y :: ys => by unfold D.pys PyData.eqvAll; rfl
  | x :: xs, [] => by unfold D.pys PyData.eqvAll; rfl
  | x :: xs, y :: ys => by
    have ih := eqv_ints xs ys
    rw [List.map_cons, List.map_cons]
    unfold D.pys PyData.eqvAll
    rw [ih]
    have e : PyData.eqv (D.int x).py (D.int y).py = decide (x = y) := by rw [← eqv_i]; rfl
    rw [e, Bool.eq_iff_iff, Bool.and_eq_true, decide_eq_true_eq, decide_eq_true_eq, decide_eq_true_eq, List.cons.injEq]
theorem ok_rd (p : Int) (A : List Int) : (D.tup [.int p, .tup (A.map .int)]).ok = true := by
  unfold D.ok
  rw [rd_pl, Bool.true_and, dep_t, deps_c, deps_c, deps_n, dep_i, dep_t]
  have := deps_all fun d hd => (int_ok (ns := A) d hd).2
  exact decide_eq_true (by omega)
theorem eqv_t (a b : List D) : PyData.eqv (D.tup a).py (D.tup b).py = PyData.eqvAll (D.pys a) (D.pys b) := by unfold D.py PyData.eqv; rfl
theorem pys_c (a : D) (b : List D) : D.pys (a :: b) = a.py :: D.pys b := by rw [D.pys]
theorem eqvAll_c (a b : PyData) (x y : List PyData) : PyData.eqvAll (a :: x) (b :: y) = (PyData.eqv a b && PyData.eqvAll x y) := by rw [PyData.eqvAll]
theorem tup_eqI (p : Int) (A B : List Int) : oEq (.tup [.int p, .tup (A.map .int)]) (.tup [.int p, .tup (B.map .int)]) = some (.bl (decide (A = B))) := by
  unfold oEq
  rw [if_pos ⟨ok_rd p A, ok_rd p B⟩, ← eqv_ints A B]
  have e : PyData.eqv (D.int p).py (D.int p).py = true := by
    rw [show PyData.eqv (D.int p).py (D.int p).py = decide (p = p) by rw [← eqv_i]; rfl, decide_eq_true rfl]
  rw [eqv_t, pys_c, pys_c, pys_c, pys_c, eqvAll_c, eqvAll_c, e, eqv_t, Bool.true_and]
  rw [show PyData.eqvAll (D.pys []) (D.pys []) = true by unfold D.pys PyData.eqvAll; rfl, Bool.and_true]
theorem inc_nodup {xs : List Int} (h : xs.Pairwise (· < ·)) : xs.Nodup := h.imp fun h => Int.ne_of_lt h
theorem inc_ext {A B : List Int} (hA : A.Pairwise (· < ·)) (hB : B.Pairwise (· < ·)) (h : ∀ x, x ∈ A ↔ x ∈ B) : A = B :=
  ((List.perm_ext_iff_of_nodup (inc_nodup hA) (inc_nodup hB)).mpr h).eq_of_pairwise (fun a b _ _ h1 h2 => absurd h1 (Int.not_lt.mpr (Int.le_of_lt h2))) hA hB
theorem mod_nodup {p : Int} {O : List Int} (ok : RdOk p O) (f : Int → Int) (hf : ∀ x y, f x % p = f y % p → x % p = y % p) : (O.map fun o => f o % p).Nodup := by
  have p1 := ok.p1
  show List.Pairwise _ _
  rw [List.pairwise_map]
  refine List.Pairwise.imp_of_mem ?_ ok.inc
  intro a b ha hb hab e
  have := hf a b e
  have ba := ok.lt a ha
  have bb := ok.lt b hb
  rw [Int.emod_eq_of_lt ba.1 ba.2, Int.emod_eq_of_lt bb.1 bb.2] at this
  omega
theorem turn_ok {p b : Int} {O : List Int} (ok : RdOk p O) : RdOk p (turnL p O b) := by
  refine srt_ok ok.p1 ok.p2 (mod_nodup ok (fun o => o + b) fun x y e => ?_) fun x hx => ?_
  · have : (x + b - b) % p = (y + b - b) % p := by rw [← Int.emod_sub_emod (x + b) p b, ← Int.emod_sub_emod (y + b) p b, e]
    rwa [show x + b - b = x by omega, show y + b - b = y by omega] at this
  · obtain ⟨o, _, rfl⟩ := List.mem_map.mp hx
    exact emod_lt' ok.p1
theorem mir_ok {p b : Int} {O : List Int} (ok : RdOk p O) : RdOk p (mirL p O b) := by
  refine srt_ok ok.p1 ok.p2 (mod_nodup ok (fun o => b - o) fun x y e => ?_) fun x hx => ?_
  · have : (b - (b - x)) % p = (b - (b - y)) % p := by rw [← Int.sub_emod_emod b (b - x) p, ← Int.sub_emod_emod b (b - y) p, e]
    rwa [show b - (b - x) = x by omega, show b - (b - y) = y by omega] at this
  · obtain ⟨o, _, rfl⟩ := List.mem_map.mp hx
    exact emod_lt' ok.p1
theorem turn_mem {p b x : Int} {O : List Int} (ok : RdOk p O) (x0 : 0 ≤ x) (x1 : x < p) : x ∈ turnL p O b ↔ (x - b) % p ∈ O := by
  unfold turnL
  rw [(isort_perm _).mem_iff, List.mem_map]
  constructor
  · rintro ⟨o, ho, rfl⟩
    have := ok.lt o ho
    rw [Int.emod_sub_emod, show o + b - b = o by omega, Int.emod_eq_of_lt this.1 this.2]
    exact ho
  · intro h
    refine ⟨_, h, ?_⟩
    rw [Int.emod_add_emod, show x - b + b = x by omega, Int.emod_eq_of_lt x0 x1]
theorem mir_mem {p b x : Int} {O : List Int} (ok : RdOk p O) (x0 : 0 ≤ x) (x1 : x < p) : x ∈ mirL p O b ↔ (b - x) % p ∈ O := by
  unfold mirL
  rw [(isort_perm _).mem_iff, List.mem_map]
  constructor
  · rintro ⟨o, ho, rfl⟩
    have := ok.lt o ho
    rw [Int.sub_emod_emod, show b - (b - o) = o by omega, Int.emod_eq_of_lt this.1 this.2]
    exact ho
  · intro h
    refine ⟨_, h, ?_⟩
    rw [Int.sub_emod_emod, show b - (b - x) = x by omega, Int.emod_eq_of_lt x0 x1]
theorem semx_mirrored_by (p b : Int) (os : List D) (Q : D → Prop) (X : Nat → List D → Prop) (h : oe (asInts os) fun O => sd (RdOk p O ∧ 0 ≤ b ∧ b ≤ 240) (Q (.tup [.int p, .tup ((mirL p O b).map .int)]))) : d_mirrored_by [.val (.tup [.int p, .tup os]), .val (.int b), .un, .un, .un] ⟨fun _ => Q .non, Q, fun _ => False, fun _ => False, X⟩ := by
  unfold d_mirrored_by
  obtain ⟨O, e, ⟨ok, b1, b2⟩, k⟩ := h
  have e := asInts_eq e
  subst e
  have p1 := ok.p1
  (try simp -dsimp (disch := first | omega | assumption | (refine id ?_; with_unfolding_all exact Eq.refl true) | (and_intros <;> first | assumption | omega | with_unfolding_all exact Eq.refl true | with_unfolding_all exact le1 (Eq.refl true)) | (simp only [WLEN]; omega) | fail) only [↓WA, ↓dCL_c, ↓WRV, ↓dPar3_w, ↓dSD_w, ↓WS, ↓WM, ↓WG, WCL, WB, WC, WD, WEE, WTY, WRE, WF, WH, Int.zero_add, Int.reduceToNat, Int.reducePow, Nat.reduceBEq, Nat.reduceAdd, Nat.reduceSub, Nat.reduceMul, Nat.reduceEqDiff, Int.reduceAdd, Int.reduceSub, Int.reduceMul, Int.reduceNeg, Int.reduceEq, Int.reduceLT, Int.reduceLE, Int.cast_ofNat_Int, Int.natCast_one, Int.natCast_zero])
  refine dCL_mg .int (fun o => .int ((b - o) % p)) O [] (fun o ho K hK => ?_) ?_
  · (try simp -dsimp (disch := first | omega | assumption | (refine id ?_; with_unfolding_all exact Eq.refl true) | (and_intros <;> first | assumption | omega | with_unfolding_all exact Eq.refl true | with_unfolding_all exact le1 (Eq.refl true)) | (simp only [WLEN]; omega) | fail) only [↓WA, ↓dCL_c, ↓WRV, ↓dPar3_w, ↓dSD_w, ↓WS, ↓WM, ↓WG, WCL, WB, WC, WD, WEE, WTY, WRE, WF, WH, Int.zero_add, Int.reduceToNat, Int.reducePow, Nat.reduceBEq, Nat.reduceAdd, Nat.reduceSub, Nat.reduceMul, Nat.reduceEqDiff, Int.reduceAdd, Int.reduceSub, Int.reduceMul, Int.reduceNeg, Int.reduceEq, Int.reduceLT, Int.reduceLE, Int.cast_ofNat_Int, Int.natCast_one, Int.natCast_zero])
    exact hK _ rfl
  rw [List.nil_append, show O.map (fun o => D.int ((b - o) % p)) = (O.map fun o => (b - o) % p).map .int by rw [List.map_map]; rfl]
  unfold mirL at k
  generalize O.map (fun o => (b - o) % p) = xs at *
  have bt := tup_ints (isort xs)
  (try simp -dsimp (disch := first | omega | assumption | (refine id ?_; with_unfolding_all exact Eq.refl true) | (and_intros <;> first | assumption | omega | with_unfolding_all exact Eq.refl true | with_unfolding_all exact le1 (Eq.refl true)) | (simp only [WLEN]; omega) | fail) only [↓WA, ↓dCL_c, ↓WRV, ↓dPar3_w, ↓dSD_w, ↓WS, ↓WM, ↓WG, WCL, WB, WC, WD, WEE, WTY, WRE, WF, WH, Int.zero_add, Int.reduceToNat, Int.reducePow, Nat.reduceBEq, Nat.reduceAdd, Nat.reduceSub, Nat.reduceMul, Nat.reduceEqDiff, Int.reduceAdd, Int.reduceSub, Int.reduceMul, Int.reduceNeg, Int.reduceEq, Int.reduceLT, Int.reduceLE, Int.cast_ofNat_Int, Int.natCast_one, Int.natCast_zero, bt])
  exact k
theorem sem_mirrored_by (ds : List D) (Q : D → Prop) (X : Nat → List D → Prop) (hl : ds.length = 2) (h : sp_mirrored_by ds Q X) : d_mirrored_by (startE N_mirrored_by.length 0 ds) ⟨fun _ => Q .non, Q, fun _ => False, fun _ => False, X⟩ := by
  have ⟨p, b, os, e, h⟩ : ∃ (p b : Int) (os : List D), ds = [.tup [.int p, .tup os], .int b] ∧ (oe (asInts os) fun O => sd (RdOk p O ∧ 0 ≤ b ∧ b ≤ 240) (Q (.tup [.int p, .tup ((mirL p O b).map .int)]))) := by
    unfold sp_mirrored_by at h
    split at h
    · exact ⟨_, _, _, rfl, h⟩
    · exact h.elim
  subst e
  exact semx_mirrored_by p b os Q X h
theorem semx__law_turned (p b : Int) (os : List D) (Q : D → Prop) (X : Nat → List D → Prop) (h : oe (asInts os) fun O => sd (RdOk p O ∧ 0 ≤ b ∧ b ≤ 240) (Q (.tup [.int p, .tup ((turnL p O b).map .int)]))) : d__law_turned [.val (.tup [.int p, .tup os]), .val (.int b), .un] ⟨fun _ => Q .non, Q, fun _ => False, fun _ => False, X⟩ := by
  unfold d__law_turned
  obtain ⟨O, e, ⟨ok, b1, b2⟩, k⟩ := h
  have e := asInts_eq e
  subst e
  have p1 := ok.p1
  (try simp -dsimp (disch := first | omega | assumption | (refine id ?_; with_unfolding_all exact Eq.refl true) | (and_intros <;> first | assumption | omega | with_unfolding_all exact Eq.refl true | with_unfolding_all exact le1 (Eq.refl true)) | (simp only [WLEN]; omega) | fail) only [↓WA, ↓dCL_c, ↓WRV, ↓dPar3_w, ↓dSD_w, ↓WS, ↓WM, ↓WG, WCL, WB, WC, WD, WEE, WTY, WRE, WF, WH, Int.zero_add, Int.reduceToNat, Int.reducePow, Nat.reduceBEq, Nat.reduceAdd, Nat.reduceSub, Nat.reduceMul, Nat.reduceEqDiff, Int.reduceAdd, Int.reduceSub, Int.reduceMul, Int.reduceNeg, Int.reduceEq, Int.reduceLT, Int.reduceLE, Int.cast_ofNat_Int, Int.natCast_one, Int.natCast_zero])
  refine dCL_mg .int (fun o => .int ((o + b) % p)) O [] (fun o ho K hK => ?_) ?_
  · (try simp -dsimp (disch := first | omega | assumption | (refine id ?_; with_unfolding_all exact Eq.refl true) | (and_intros <;> first | assumption | omega | with_unfolding_all exact Eq.refl true | with_unfolding_all exact le1 (Eq.refl true)) | (simp only [WLEN]; omega) | fail) only [↓WA, ↓dCL_c, ↓WRV, ↓dPar3_w, ↓dSD_w, ↓WS, ↓WM, ↓WG, WCL, WB, WC, WD, WEE, WTY, WRE, WF, WH, Int.zero_add, Int.reduceToNat, Int.reducePow, Nat.reduceBEq, Nat.reduceAdd, Nat.reduceSub, Nat.reduceMul, Nat.reduceEqDiff, Int.reduceAdd, Int.reduceSub, Int.reduceMul, Int.reduceNeg, Int.reduceEq, Int.reduceLT, Int.reduceLE, Int.cast_ofNat_Int, Int.natCast_one, Int.natCast_zero])
    exact hK _ rfl
  rw [List.nil_append, show O.map (fun o => D.int ((o + b) % p)) = (O.map fun o => (o + b) % p).map .int by rw [List.map_map]; rfl]
  unfold turnL at k
  generalize O.map (fun o => (o + b) % p) = xs at *
  have bt := tup_ints (isort xs)
  (try simp -dsimp (disch := first | omega | assumption | (refine id ?_; with_unfolding_all exact Eq.refl true) | (and_intros <;> first | assumption | omega | with_unfolding_all exact Eq.refl true | with_unfolding_all exact le1 (Eq.refl true)) | (simp only [WLEN]; omega) | fail) only [↓WA, ↓dCL_c, ↓WRV, ↓dPar3_w, ↓dSD_w, ↓WS, ↓WM, ↓WG, WCL, WB, WC, WD, WEE, WTY, WRE, WF, WH, Int.zero_add, Int.reduceToNat, Int.reducePow, Nat.reduceBEq, Nat.reduceAdd, Nat.reduceSub, Nat.reduceMul, Nat.reduceEqDiff, Int.reduceAdd, Int.reduceSub, Int.reduceMul, Int.reduceNeg, Int.reduceEq, Int.reduceLT, Int.reduceLE, Int.cast_ofNat_Int, Int.natCast_one, Int.natCast_zero, bt])
  exact k
theorem sem__law_turned (ds : List D) (Q : D → Prop) (X : Nat → List D → Prop) (hl : ds.length = 2) (h : sp__law_turned ds Q X) : d__law_turned (startE N__law_turned.length 0 ds) ⟨fun _ => Q .non, Q, fun _ => False, fun _ => False, X⟩ := by
  have ⟨p, b, os, e, h⟩ : ∃ (p b : Int) (os : List D), ds = [.tup [.int p, .tup os], .int b] ∧ (oe (asInts os) fun O => sd (RdOk p O ∧ 0 ≤ b ∧ b ≤ 240) (Q (.tup [.int p, .tup ((turnL p O b).map .int)]))) := by
    unfold sp__law_turned at h
    split at h
    · exact ⟨_, _, _, rfl, h⟩
    · exact h.elim
  subst e
  exact semx__law_turned p b os Q X h
theorem semx__law_mirrored (p b : Int) (os : List D) (Q : D → Prop) (X : Nat → List D → Prop) (h : oe (asInts os) fun O => sd (RdOk p O ∧ 0 ≤ b ∧ b ≤ 240) (Q (.tup [.int p, .tup ((mirL p O b).map .int)]))) : d__law_mirrored [.val (.tup [.int p, .tup os]), .val (.int b), .un] ⟨fun _ => Q .non, Q, fun _ => False, fun _ => False, X⟩ := by
  unfold d__law_mirrored
  obtain ⟨O, e, ⟨ok, b1, b2⟩, k⟩ := h
  have e := asInts_eq e
  subst e
  have p1 := ok.p1
  (try simp -dsimp (disch := first | omega | assumption | (refine id ?_; with_unfolding_all exact Eq.refl true) | (and_intros <;> first | assumption | omega | with_unfolding_all exact Eq.refl true | with_unfolding_all exact le1 (Eq.refl true)) | (simp only [WLEN]; omega) | fail) only [↓WA, ↓dCL_c, ↓WRV, ↓dPar3_w, ↓dSD_w, ↓WS, ↓WM, ↓WG, WCL, WB, WC, WD, WEE, WTY, WRE, WF, WH, Int.zero_add, Int.reduceToNat, Int.reducePow, Nat.reduceBEq, Nat.reduceAdd, Nat.reduceSub, Nat.reduceMul, Nat.reduceEqDiff, Int.reduceAdd, Int.reduceSub, Int.reduceMul, Int.reduceNeg, Int.reduceEq, Int.reduceLT, Int.reduceLE, Int.cast_ofNat_Int, Int.natCast_one, Int.natCast_zero])
  refine dCL_mg .int (fun o => .int ((b - o) % p)) O [] (fun o ho K hK => ?_) ?_
  · (try simp -dsimp (disch := first | omega | assumption | (refine id ?_; with_unfolding_all exact Eq.refl true) | (and_intros <;> first | assumption | omega | with_unfolding_all exact Eq.refl true | with_unfolding_all exact le1 (Eq.refl true)) | (simp only [WLEN]; omega) | fail) only [↓WA, ↓dCL_c, ↓WRV, ↓dPar3_w, ↓dSD_w, ↓WS, ↓WM, ↓WG, WCL, WB, WC, WD, WEE, WTY, WRE, WF, WH, Int.zero_add, Int.reduceToNat, Int.reducePow, Nat.reduceBEq, Nat.reduceAdd, Nat.reduceSub, Nat.reduceMul, Nat.reduceEqDiff, Int.reduceAdd, Int.reduceSub, Int.reduceMul, Int.reduceNeg, Int.reduceEq, Int.reduceLT, Int.reduceLE, Int.cast_ofNat_Int, Int.natCast_one, Int.natCast_zero])
    exact hK _ rfl
  rw [List.nil_append, show O.map (fun o => D.int ((b - o) % p)) = (O.map fun o => (b - o) % p).map .int by rw [List.map_map]; rfl]
  unfold mirL at k
  generalize O.map (fun o => (b - o) % p) = xs at *
  have bt := tup_ints (isort xs)
  (try simp -dsimp (disch := first | omega | assumption | (refine id ?_; with_unfolding_all exact Eq.refl true) | (and_intros <;> first | assumption | omega | with_unfolding_all exact Eq.refl true | with_unfolding_all exact le1 (Eq.refl true)) | (simp only [WLEN]; omega) | fail) only [↓WA, ↓dCL_c, ↓WRV, ↓dPar3_w, ↓dSD_w, ↓WS, ↓WM, ↓WG, WCL, WB, WC, WD, WEE, WTY, WRE, WF, WH, Int.zero_add, Int.reduceToNat, Int.reducePow, Nat.reduceBEq, Nat.reduceAdd, Nat.reduceSub, Nat.reduceMul, Nat.reduceEqDiff, Int.reduceAdd, Int.reduceSub, Int.reduceMul, Int.reduceNeg, Int.reduceEq, Int.reduceLT, Int.reduceLE, Int.cast_ofNat_Int, Int.natCast_one, Int.natCast_zero, bt])
  exact k
theorem sem__law_mirrored (ds : List D) (Q : D → Prop) (X : Nat → List D → Prop) (hl : ds.length = 2) (h : sp__law_mirrored ds Q X) : d__law_mirrored (startE N__law_mirrored.length 0 ds) ⟨fun _ => Q .non, Q, fun _ => False, fun _ => False, X⟩ := by
  have ⟨p, b, os, e, h⟩ : ∃ (p b : Int) (os : List D), ds = [.tup [.int p, .tup os], .int b] ∧ (oe (asInts os) fun O => sd (RdOk p O ∧ 0 ≤ b ∧ b ≤ 240) (Q (.tup [.int p, .tup ((mirL p O b).map .int)]))) := by
    unfold sp__law_mirrored at h
    split at h
    · exact ⟨_, _, _, rfl, h⟩
    · exact h.elim
  subst e
  exact semx__law_mirrored p b os Q X h
end K03
namespace K03
open PySem PySem.Spec PyProof.Rows L2 DL
/-- a turn that changes nothing -/
def inv (p : Int) (O : List Int) (s : Int) : Prop := ∀ x : Int, x % p ∈ O ↔ (x + s) % p ∈ O
def minv (p : Int) (O : List Int) (b : Int) : Prop := ∀ x : Int, x % p ∈ O ↔ (b - x) % p ∈ O
section
variable {p : Int} {O : List Int}
theorem inv_0 : inv p O 0 := fun x => by rw [Int.add_zero]
theorem inv_add {s t : Int} (h1 : inv p O s) (h2 : inv p O t) : inv p O (s + t) := fun x => by
  rw [← Int.add_assoc]
  exact (h1 x).trans (h2 (x + s))
theorem inv_neg {s : Int} (h : inv p O s) : inv p O (-s) := fun x => by
  have := h (x + -s)
  rw [show x + -s + s = x by omega] at this
  exact this.symm
theorem inv_mul {d : Int} (h : inv p O d) (k : Int) : inv p O (d * k) := by
  have nat : ∀ n : Nat, inv p O (d * n) := fun n => by
    induction n with
    | zero => rw [show d * ((0 : Nat) : Int) = 0 by simp]; exact inv_0
    | succ n ih => rw [show d * ((n + 1 : Nat) : Int) = d * n + d by rw [Int.natCast_add, Int.mul_add]; simp]; exact inv_add ih h
  obtain ⟨n, rfl | rfl⟩ := Int.eq_nat_or_neg k
  · exact nat n
  · rw [Int.mul_neg]; exact inv_neg (nat n)
theorem inv_p : inv p O p := fun x => by rw [show x + p = x + p * 1 by omega, Int.add_mul_emod_self_left]
theorem turn_memx (ok : RdOk p O) (b x : Int) : x % p ∈ turnL p O b ↔ (x - b) % p ∈ O := by
  have m := emod_lt' (x := x) ok.p1
  rw [turn_mem ok m.1 m.2, Int.emod_sub_emod]
theorem mir_memx (ok : RdOk p O) (b x : Int) : x % p ∈ mirL p O b ↔ (b - x) % p ∈ O := by
  have m := emod_lt' (x := x) ok.p1
  rw [mir_mem ok m.1 m.2, Int.sub_emod_emod]
theorem ext_mod {A B : List Int} (okA : RdOk p A) (okB : RdOk p B) (h : ∀ x : Int, x % p ∈ A ↔ x % p ∈ B) : A = B := inc_ext okA.inc okB.inc fun x => by
  have k := okA.lt x
  have k2 := okB.lt x
  rcases Classical.em (0 ≤ x ∧ x < p) with q | q
  · have := h x
    rwa [Int.emod_eq_of_lt q.1 q.2] at this
  · exact ⟨fun z => absurd (k z) q, fun z => absurd (k2 z) q⟩
theorem turn_inv (ok : RdOk p O) (s : Int) : turnL p O s = O ↔ inv p O s := by
  constructor
  · intro e x
    have := turn_memx ok s (x + s)
    rw [e, show x + s - s = x by omega] at this
    exact this.symm
  · intro h
    refine ext_mod (turn_ok ok) ok fun x => ?_
    rw [turn_memx ok, h (x - s), show x - s + s = x by omega]
theorem mir_inv (ok : RdOk p O) (b : Int) : mirL p O b = O ↔ minv p O b := by
  constructor
  · intro e x
    have := mir_memx ok b x
    rw [e] at this
    exact this
  · intro h
    refine ext_mod (mir_ok ok) ok fun x => ?_
    rw [mir_memx ok, h x]
theorem per_spec (ok : RdOk p O) : 1 ≤ perO p O ∧ (perO p O : Int) ≤ p ∧ inv p O (perO p O) ∧ ∀ s : Int, 1 ≤ s → s < perO p O → ¬ inv p O s := by
  have p1 := ok.p1
  unfold perO
  cases h : (List.range p.toNat).find? fun i : Nat => decide (turnL p O ((i : Int) + 1) = O) with
  | none =>
    rw [List.find?_range_eq_none] at h
    have := h (p.toNat - 1) (by omega)
    rw [show (((p.toNat - 1 : Nat)) : Int) + 1 = p by omega, decide_eq_true ((turn_inv ok p).mpr inv_p)] at this
    cases this
  | some i =>
    rw [List.find?_range_eq_some] at h
    obtain ⟨h1, h2, h3⟩ := h
    have h2 := List.mem_range.mp h2
    show 1 ≤ i + 1 ∧ ((i + 1 : Nat) : Int) ≤ p ∧ inv p O ((i + 1 : Nat) : Int) ∧ ∀ s : Int, 1 ≤ s → s < ((i + 1 : Nat) : Int) → ¬ inv p O s
    refine ⟨by omega, by omega, ?_, fun s s1 s2 hs => ?_⟩
    · exact (turn_inv ok _).mp (of_decide_eq_true h1)
    · have := h3 (s - 1).toNat (by omega)
      rw [show (((s - 1).toNat : Nat) : Int) + 1 = s by omega, decide_eq_true ((turn_inv ok s).mpr hs)] at this
      cases this
theorem inv_iff (ok : RdOk p O) (s : Int) : inv p O s ↔ (perO p O : Int) ∣ s := by
  obtain ⟨h1, h2, h3, h4⟩ := per_spec ok
  constructor
  · intro hs
    have e := Int.mul_ediv_add_emod s (perO p O)
    have r0 := Int.emod_nonneg s (show (perO p O : Int) ≠ 0 by omega)
    have r1 := Int.emod_lt_of_pos s (show (0 : Int) < perO p O by omega)
    have : inv p O (s % perO p O) := by
      have := inv_add hs (inv_neg (inv_mul h3 (s / perO p O)))
      rwa [show s + -((perO p O : Int) * (s / perO p O)) = s % perO p O by omega] at this
    rcases Int.lt_or_le 0 (s % perO p O) with c | c
    · exact absurd this (h4 _ (by omega) r1)
    · exact Int.dvd_of_emod_eq_zero (by omega)
  · rintro ⟨k, rfl⟩
    exact inv_mul h3 k
theorem per_dvd (ok : RdOk p O) : (perO p O : Int) ∣ p := (inv_iff ok p).mp inv_p
theorem per_of {M : List Int} (ok : RdOk p O) (okM : RdOk p M) (h : ∀ s, inv p O s ↔ inv p M s) : perO p O = perO p M := by
  unfold perO
  have : (fun i : Nat => decide (turnL p O ((i : Int) + 1) = O)) = fun i : Nat => decide (turnL p M ((i : Int) + 1) = M) := by
    funext i
    rw [Bool.eq_iff_iff, decide_eq_true_eq, decide_eq_true_eq, turn_inv ok, turn_inv okM]
    exact h _
  rw [this]
theorem per_turn (ok : RdOk p O) (b : Int) : perO p (turnL p O b) = perO p O := by
  refine per_of (turn_ok ok) ok fun s => ⟨fun h x => ?_, fun h x => ?_⟩
  · have := h (x + b)
    rw [turn_memx ok, turn_memx ok, show x + b - b = x by omega, show x + b + s - b = x + s by omega] at this
    exact this
  · rw [turn_memx ok, turn_memx ok, h (x - b), show x - b + s = x + s - b by omega]
theorem per_mir (ok : RdOk p O) (b : Int) : perO p (mirL p O b) = perO p O := by
  refine per_of (mir_ok ok) ok fun s => ⟨fun h x => ?_, fun h x => ?_⟩
  · have := h (b - x - s)
    rw [mir_memx ok, mir_memx ok, show b - (b - x - s) = x + s by omega, show b - (b - x - s + s) = x by omega] at this
    exact this.symm
  · rw [mir_memx ok, mir_memx ok]
    have := h (b - (x + s))
    rw [show b - (x + s) + s = b - x by omega] at this
    exact this.symm
theorem bits_get {x : Nat} (h : x < p.toNat) : (bitsL p O)[x]? = some (if hasI O x then 49 else 48) := by
  unfold bitsL
  rw [List.getElem?_map, List.getElem?_range h]; rfl
theorem rot_get {i x : Nat} (hi : i < p.toNat) (hx : x < p.toNat) : ((bitsL p O).drop (i + 1) ++ (bitsL p O).take (i + 1))[x]? = some (if hasI O (((x : Int) + ((i : Int) + 1)) % p) then 49 else 48) := by
  rcases Nat.lt_or_ge (x + (i + 1)) p.toNat with q | q
  · rw [List.getElem?_append_left (by rw [List.length_drop, bits_len]; omega), List.getElem?_drop, bits_get (by omega), Int.emod_eq_of_lt (by omega) (by omega), show ((i + 1 + x : Nat) : Int) = (x : Int) + ((i : Int) + 1) by omega]
  · rw [List.getElem?_append_right (by rw [List.length_drop, bits_len]; omega), List.length_drop, bits_len, List.getElem?_take, if_pos (by omega), bits_get (by omega)]
    have : ((x : Int) + ((i : Int) + 1)) % p = ((x - (p.toNat - (i + 1)) : Nat) : Int) := by
      rw [show (x : Int) + ((i : Int) + 1) = ((x - (p.toNat - (i + 1)) : Nat) : Int) + p * 1 by omega, Int.add_mul_emod_self_left, Int.emod_eq_of_lt (by omega) (by omega)]
    rw [this]
theorem rot_inv (ok : RdOk p O) {i : Nat} (hi : i < p.toNat) : (bitsL p O).drop (i + 1) ++ (bitsL p O).take (i + 1) = bitsL p O ↔ inv p O ((i : Int) + 1) := by
  have p1 := ok.p1
  have key : ∀ a b : Bool, ((if a = true then 49 else 48 : Nat) = if b = true then 49 else 48) ↔ a = b := by decide
  constructor
  · intro e x
    have m := emod_lt' (x := x) p1
    have := congrArg (·[(x % p).toNat]?) e
    rw [rot_get hi (by omega), bits_get (by omega), Option.some.injEq, key, show (((x % p).toNat : Nat) : Int) = x % p by omega, Int.emod_add_emod] at this
    rw [← has_mem, ← has_mem, this]
  · intro h
    refine List.ext_getElem? fun x => ?_
    rcases Nat.lt_or_ge x p.toNat with q | q
    · rw [rot_get hi q, bits_get q, Option.some.injEq, key, Bool.eq_iff_iff, has_mem, has_mem]
      have := h x
      rw [Int.emod_eq_of_lt (by omega) (by omega)] at this
      exact this.symm
    · rw [List.getElem?_eq_none (by rw [List.length_append, List.length_drop, List.length_take, bits_len]; omega), List.getElem?_eq_none (by rw [bits_len]; exact q)]
theorem least_eq {xs : List Int} {a : Int} (h1 : a ∈ xs) (h2 : ∀ x ∈ xs, a ≤ x) : least xs = some a := by
  cases xs with
  | nil => cases h1
  | cons x xs =>
    obtain ⟨g1, g2⟩ := foldl_min xs x
    show some (xs.foldl min x) = some a
    rw [Int.le_antisymm (g2 _ h1) (h2 _ g1)]
theorem per_bits (ok : RdOk p O) : perL (bitsL p O) = some (perO p O : Int) := by
  obtain ⟨h1, h2, h3, h4⟩ := per_spec ok
  have p1 := ok.p1
  unfold perL
  rw [bits_len]
  refine least_eq ?_ fun x hx => ?_
  · rw [List.mem_map]
    refine ⟨perO p O - 1, List.mem_filter.mpr ⟨List.mem_range.mpr (by omega), ?_⟩, by omega⟩
    rw [show perO p O - 1 + 1 = perO p O by omega]
    have d : perO p O ∣ p.toNat := by
      have := per_dvd ok
      rw [show p = (p.toNat : Int) by omega] at this
      exact Int.natCast_dvd_natCast.mp (by rwa [show (perO (p.toNat : Int) O : Int) = perO p O by rw [show (p.toNat : Int) = p by omega]] at this)
    have r := (rot_inv ok (i := perO p O - 1) (by omega)).mpr (by rw [show (((perO p O - 1 : Nat)) : Int) + 1 = perO p O by omega]; exact h3)
    rw [show perO p O - 1 + 1 = perO p O by omega] at r
    rw [decide_eq_true (Nat.mod_eq_zero_of_dvd d), decide_eq_true r]; rfl
  · obtain ⟨i, hi, rfl⟩ := List.mem_map.mp hx
    obtain ⟨hi, hc⟩ := List.mem_filter.mp hi
    have hi := List.mem_range.mp hi
    rw [Bool.and_eq_true, decide_eq_true_eq, decide_eq_true_eq] at hc
    have := (rot_inv ok hi).mp hc.2
    rcases Int.lt_or_le ((i : Int) + 1) (perO p O) with q | q
    · exact absurd this (h4 _ (by omega) q)
    · exact q
end
end K03
namespace K03
open PySem PySem.Spec PyProof.Rows L2 DL
section
variable {p : Int} {O : List Int}
def cR (O : List Int) (n : Nat) : Nat := ((List.range n).filter fun x : Nat => hasI O x).length
theorem has_in (ok : RdOk p O) (x : Nat) (hx : (x : Int) < p) (d : Nat) (h : inv p O d) (hy : ((x + d : Nat) : Int) < p) : hasI O ((x + d : Nat) : Int) = hasI O x := by
  rw [Bool.eq_iff_iff, has_mem, has_mem]
  have := h x
  rw [Int.emod_eq_of_lt (by omega) hx, show (x : Int) + (d : Int) = ((x + d : Nat) : Int) by omega, Int.emod_eq_of_lt (by omega) hy] at this
  exact this.symm
theorem cR_mul (ok : RdOk p O) (d : Nat) (h : inv p O d) : ∀ k : Nat, ((d * k : Nat) : Int) ≤ p → cR O (d * k) = k * cR O d
  | 0, _ => by rw [Nat.mul_zero, Nat.zero_mul]; rfl
  | k + 1, hk => by
    rw [Nat.mul_succ] at hk ⊢
    have ih := cR_mul ok d h k (by omega)
    unfold cR at ih ⊢
    rw [List.range_add, List.filter_append, List.length_append, ih, Nat.succ_mul, List.filter_map, List.length_map]
    congr 2
    refine List.filter_congr fun y hy => ?_
    have hy := List.mem_range.mp hy
    show hasI O ((d * k + y : Nat) : Int) = hasI O y
    have hi : inv p O ((d * k : Nat) : Int) := by rw [Int.natCast_mul]; exact inv_mul h k
    rw [Nat.add_comm]
    exact has_in ok y (by omega) (d * k) hi (by omega)
theorem cR_all (ok : RdOk p O) : cR O p.toNat = O.length := by
  have e : (((List.range p.toNat).filter fun x : Nat => hasI O x).map fun x : Nat => (x : Int)).Perm O := by
    rw [List.perm_ext_iff_of_nodup ?_ (inc_nodup ok.inc)]
    · intro x
      rw [List.mem_map]
      constructor
      · rintro ⟨y, hy, rfl⟩
        exact has_mem.mp (List.mem_filter.mp hy).2
      · intro hx
        have := ok.lt x hx
        exact ⟨x.toNat, List.mem_filter.mpr ⟨List.mem_range.mpr (by omega), by rw [show ((x.toNat : Nat) : Int) = x by omega]; exact has_mem.mpr hx⟩, by omega⟩
    · show List.Pairwise _ _
      rw [List.pairwise_map]
      exact (List.pairwise_lt_range.sublist List.filter_sublist).imp fun h => by omega
  unfold cR
  rw [← e.length_eq, List.length_map]
/-- how often the part comes -/
theorem per_k (ok : RdOk p O) : ∃ k : Nat, p = perO p O * k ∧ p / perO p O = k ∧ 1 ≤ k := by
  obtain ⟨h1, h2, h3, h4⟩ := per_spec ok
  have p1 := ok.p1
  obtain ⟨k, hk⟩ := per_dvd ok
  generalize (perO p O : Nat) = d at *
  have k0 : 0 < k := by
    rcases Int.lt_or_le 0 k with q | q
    · exact q
    · have := Int.mul_le_mul_of_nonneg_left q (show (0 : Int) ≤ d by omega)
      omega
  obtain ⟨k, rfl⟩ := Int.eq_ofNat_of_zero_le (show 0 ≤ k by omega)
  exact ⟨k, hk, by rw [hk, Int.mul_ediv_cancel_left _ (by omega)], by omega⟩
theorem len_dvd (ok : RdOk p O) : (O.length : Int) % (p / perO p O) = 0 := by
  obtain ⟨h1, h2, h3, h4⟩ := per_spec ok
  obtain ⟨k, hk, hd, k1⟩ := per_k ok
  have c := cR_mul ok (perO p O) h3 k (by rw [Int.natCast_mul]; omega)
  rw [show perO p O * k = p.toNat by
    have : ((perO p O * k : Nat) : Int) = p := by rw [Int.natCast_mul]; exact hk.symm
    omega, cR_all ok] at c
  rw [hd, c, Int.natCast_mul]
  exact Int.mul_emod_right ..
theorem ax_mem (ok : RdOk p O) {b : Int} : b ∈ axL p O ↔ 0 ≤ b ∧ b < p ∧ minv p O b := by
  have p1 := ok.p1
  unfold axL
  rw [List.mem_filter, rngI_mem, decide_eq_true_eq, mir_inv ok]
  exact ⟨fun ⟨⟨a, b⟩, c⟩ => ⟨a, by omega, c⟩, fun ⟨a, b, c⟩ => ⟨⟨a, by omega⟩, c⟩⟩
theorem ax_ok (ok : RdOk p O) : RdOk p (axL p O) := filt_ok ok.p1 ok.p2 _
theorem minv_iff {b c : Int} (h : minv p O b) : minv p O c ↔ inv p O (c - b) := by
  constructor
  · intro g x
    have := h (b - x)
    rw [show b - (b - x) = x by omega] at this
    have g := g (b - x)
    rw [show c - (b - x) = x + (c - b) by omega] at g
    exact this.symm.trans g
  · intro g x
    have := g (b - x)
    rw [show b - x + (c - b) = c - x by omega] at this
    exact (h x).trans this
theorem ax_len (ok : RdOk p O) : ((axL p O).length : Int) = 0 ∨ ((axL p O).length : Int) = p / perO p O := by
  obtain ⟨h1, h2, h3, h4⟩ := per_spec ok
  obtain ⟨k, hk, hd, k1⟩ := per_k ok
  rw [hd]
  rcases Classical.em (axL p O = []) with q | q
  · left; rw [q]; rfl
  · right
    obtain ⟨b, hb⟩ := List.exists_mem_of_ne_nil _ q
    obtain ⟨b0, b1, hb⟩ := (ax_mem ok).mp hb
    have e : (axL p O).Perm ((List.range k).map fun j : Nat => b % perO p O + perO p O * j) := by
      rw [List.perm_ext_iff_of_nodup (inc_nodup (ax_ok ok).inc) ?_]
      · intro c
        rw [ax_mem ok, minv_iff hb, inv_iff ok, List.mem_map]
        have r0 := Int.emod_nonneg b (show (perO p O : Int) ≠ 0 by omega)
        have r1 := Int.emod_lt_of_pos b (show (0 : Int) < perO p O by omega)
        have e := Int.mul_ediv_add_emod b (perO p O)
        generalize b % (perO p O : Int) = r at *
        generalize b / (perO p O : Int) = s at *
        generalize (perO p O : Int) = d at *
        constructor
        · rintro ⟨c0, c1, m, hm⟩
          have ec : c = r + d * (m + s) := by rw [Int.mul_add]; omega
          have j0 : 0 ≤ m + s := by
            rcases Int.lt_or_le (m + s) 0 with z | z
            · have := Int.mul_le_mul_of_nonneg_left (show m + s ≤ -1 by omega) (show 0 ≤ d by omega)
              omega
            · exact z
          have j1 : m + s < k := by
            rcases Int.lt_or_le (m + s) k with z | z
            · exact z
            · have := Int.mul_le_mul_of_nonneg_left z (show 0 ≤ d by omega)
              omega
          exact ⟨(m + s).toNat, List.mem_range.mpr (by omega), by rw [show (((m + s).toNat : Nat) : Int) = m + s by omega]; exact ec.symm⟩
        · rintro ⟨j, hj, rfl⟩
          have hj := List.mem_range.mp hj
          have m1 := Int.mul_nonneg (show 0 ≤ d by omega) (show (0 : Int) ≤ j by omega)
          have m2 := Int.mul_le_mul_of_nonneg_left (show (j : Int) ≤ k - 1 by omega) (show 0 ≤ d by omega)
          rw [Int.mul_sub] at m2
          exact ⟨by omega, by omega, j - s, by rw [Int.mul_sub]; omega⟩
      · show List.Pairwise _ _
        rw [List.pairwise_map]
        refine List.pairwise_lt_range.imp fun {i j} hij => ?_
        have := Int.mul_le_mul_of_nonneg_left (show (1 : Int) ≤ j - i by omega) (show (0 : Int) ≤ perO p O by omega)
        rw [Int.mul_sub] at this
        omega
    rw [e.length_eq, List.length_map, List.length_range]
theorem minv_mod (b : Int) : minv p O (b % p) ↔ minv p O b := by
  have e : ∀ x, (b % p - x) % p = (b - x) % p := fun x => Int.emod_sub_emod ..
  unfold minv
  constructor <;> (intro h x; have := h x; rw [e] at *; exact this)
theorem ax_turn (ok : RdOk p O) (b : Int) : axL p (turnL p O b) = isort ((axL p O).map fun o => (o + 2 * b) % p) := by
  have p1 := ok.p1
  have nd := mod_nodup (ax_ok ok) (fun o => o + 2 * b) fun x y e => by
    have : (x + 2 * b - 2 * b) % p = (y + 2 * b - 2 * b) % p := by rw [← Int.emod_sub_emod (x + 2 * b) p (2 * b), ← Int.emod_sub_emod (y + 2 * b) p (2 * b), e]
    rwa [show x + 2 * b - 2 * b = x by omega, show y + 2 * b - 2 * b = y by omega] at this
  have mt : ∀ c, minv p (turnL p O b) c ↔ minv p O (c - 2 * b) := fun c => by
    constructor
    · intro h x
      have := h (x + b)
      rw [turn_memx ok, turn_memx ok, show x + b - b = x by omega, show c - (x + b) - b = c - 2 * b - x by omega] at this
      exact this
    · intro h x
      rw [turn_memx ok, turn_memx ok, h (x - b), show c - 2 * b - (x - b) = c - x - b by omega]
  refine inc_ext (ax_ok (turn_ok ok)).inc (isort_lt nd) fun c => ?_
  rw [ax_mem (turn_ok ok), mt, (isort_perm _).mem_iff, List.mem_map]
  constructor
  · rintro ⟨c0, c1, h⟩
    have m := emod_lt' (x := c - 2 * b) p1
    refine ⟨(c - 2 * b) % p, (ax_mem ok).mpr ⟨m.1, m.2, (minv_mod _).mpr h⟩, ?_⟩
    rw [Int.emod_add_emod, show c - 2 * b + 2 * b = c by omega, Int.emod_eq_of_lt c0 c1]
  · rintro ⟨o, ho, rfl⟩
    obtain ⟨o0, o1, h⟩ := (ax_mem ok).mp ho
    have m := emod_lt' (x := o + 2 * b) p1
    refine ⟨m.1, m.2, ?_⟩
    rw [← minv_mod, Int.emod_sub_emod, show o + 2 * b - 2 * b = o by omega, minv_mod]
    exact h
end
end K03
namespace K03
open PySem PySem.Spec PyProof.Rows L2 DL
theorem eqv_s (a b : Str) : PyData.eqv (D.str a).py (D.str b).py = decide (a = b) := by
  unfold D.py PyData.eqv
  rw [Bool.eq_iff_iff, beq_iff_eq, decide_eq_true_eq]
theorem oEq_s (a b : Str) : oEq (.str a) (.str b) = some (.bl (decide (a = b))) := by
  unfold oEq
  have ok : ∀ x : Str, (D.str x).ok = true := fun x => by
    unfold D.ok D.pl D.dep
    rfl
  rw [if_pos ⟨ok a, ok b⟩, eqv_s]
theorem str_txt (w : Str) : txt w.cps.toList = w := TL.ext_tl rfl
theorem cut_hi (l : List Nat) {s : Nat} (h : s ≤ l.length) : oSlT (.str (txt l)) (some (s : Int)) none = some (.str (txt (l.drop s))) := by
  show some (D.str (cutS _ _ _)) = _
  unfold cutS
  rw [HT.sIx_nat, HT.sIx_none, txt_len, Nat.min_eq_left h]
  show some (D.str (txt ((l.drop s).take (l.length - s)))) = _
  rw [List.take_of_length_le (by rw [List.length_drop]; omega)]
theorem cut_lo (l : List Nat) {s : Nat} (h : s ≤ l.length) : oSlT (.str (txt l)) none (some (s : Int)) = some (.str (txt (l.take s))) := by
  show some (D.str (cutS _ _ _)) = _
  unfold cutS
  rw [HT.sIx_nat, HT.sIx_none, txt_len, Nat.min_eq_left h, Nat.sub_zero, List.drop_zero]; rfl
theorem semx_period_of (w : Str) (Q : D → Prop) (X : Nat → List D → Prop) (h : sd (w.length ≤ 240) (oe (perL w.cps.toList) fun n => Q (.int n))) : d_period_of [.val (.str w), .un, .un] ⟨fun _ => Q .non, Q, fun _ => False, fun _ => False, X⟩ := by
  unfold d_period_of
  obtain ⟨hl, n, hn, k⟩ := h
  obtain ⟨l, rfl⟩ : ∃ l, w = txt l := ⟨w.cps.toList, (str_txt w).symm⟩
  rw [txt_tl] at hn
  rw [txt_len] at hl
  have bl : bLen [.str (txt l)] = some (.int l.length) := by
    show some (D.int (txt l).length) = _
    rw [txt_len]
  (try simp -dsimp (disch := first | omega | assumption | (refine id ?_; with_unfolding_all exact Eq.refl true) | (and_intros <;> first | assumption | omega | with_unfolding_all exact Eq.refl true | with_unfolding_all exact le1 (Eq.refl true)) | (simp only [WLEN]; omega) | fail) only [↓WA, ↓dCL_c, ↓WRV, ↓dPar3_w, ↓dSD_w, ↓WS, ↓WM, ↓WG, WCL, WB, WC, WD, WEE, WTY, WRE, WF, WH, Int.zero_add, Int.reduceToNat, Int.reducePow, Nat.reduceBEq, Nat.reduceAdd, Nat.reduceSub, Nat.reduceMul, Nat.reduceEqDiff, Int.reduceAdd, Int.reduceSub, Int.reduceMul, Int.reduceNeg, Int.reduceEq, Int.reduceLT, Int.reduceLE, Int.cast_ofNat_Int, Int.natCast_one, Int.natCast_zero, bl])
  rw [show ((l.length : Int) + 1 - 1).toNat = l.length by omega, rng_1]
  refine dCL_fg (fun i : Nat => .int ((i : Int) + 1)) (fun i : Nat => decide (l.length % (i + 1) = 0) && decide (l.drop (i + 1) ++ l.take (i + 1) = l)) (fun i : Nat => .int ((i : Int) + 1)) (List.range l.length) [] (fun i hi K1 K2 h1 h2 => ?_) ?_
  · have hi := List.mem_range.mp hi
    have s1 := cut_hi l (s := i + 1) (by omega)
    have s2 := cut_lo l (s := i + 1) (by omega)
    rw [show (((i + 1 : Nat)) : Int) = (i : Int) + 1 by omega] at s1 s2
    have ad : oAdd (.str (txt (l.drop (i + 1)))) (.str (txt (l.take (i + 1)))) = some (.str (txt (l.drop (i + 1) ++ l.take (i + 1)))) := by
      show (if _ then _ else _) = _
      rw [if_pos (by rw [txt_len, txt_len, sizeLine_eq, List.length_drop, List.length_take]; omega), txt_app]
    have es : oEq (.str (txt (l.drop (i + 1) ++ l.take (i + 1)))) (.str (txt l)) = some (.bl (decide (l.drop (i + 1) ++ l.take (i + 1) = l))) := by
      rw [oEq_s]
      congr 2
      rw [Bool.eq_iff_iff, decide_eq_true_eq, decide_eq_true_eq]
      exact ⟨txt_inj, fun h => by rw [h]⟩
    have cm : (l.length : Int) % ((i : Int) + 1) = ((l.length % (i + 1) : Nat) : Int) := by rw [Int.natCast_emod]; rfl
    by_cases c1 : l.length % (i + 1) = 0
    · rw [decide_eq_true c1, Bool.true_and] at h1 h2
      by_cases c2 : l.drop (i + 1) ++ l.take (i + 1) = l
      · rw [decide_eq_true c2] at h1 h2 es
        (try simp -dsimp (disch := first | omega | assumption | (refine id ?_; with_unfolding_all exact Eq.refl true) | (and_intros <;> first | assumption | omega | with_unfolding_all exact Eq.refl true | with_unfolding_all exact le1 (Eq.refl true)) | (simp only [WLEN]; omega) | fail) only [↓WA, ↓dCL_c, ↓WRV, ↓dPar3_w, ↓dSD_w, ↓WS, ↓WM, ↓WG, WCL, WB, WC, WD, WEE, WTY, WRE, WF, WH, Int.zero_add, Int.reduceToNat, Int.reducePow, Nat.reduceBEq, Nat.reduceAdd, Nat.reduceSub, Nat.reduceMul, Nat.reduceEqDiff, Int.reduceAdd, Int.reduceSub, Int.reduceMul, Int.reduceNeg, Int.reduceEq, Int.reduceLT, Int.reduceLE, Int.cast_ofNat_Int, Int.natCast_one, Int.natCast_zero, cm, decide_eq_true (show ((l.length % (i + 1) : Nat) : Int) = 0 by omega), s1, s2, ad, es])
        exact h1 rfl _ rfl
      · rw [decide_eq_false c2] at h1 h2 es
        (try simp -dsimp (disch := first | omega | assumption | (refine id ?_; with_unfolding_all exact Eq.refl true) | (and_intros <;> first | assumption | omega | with_unfolding_all exact Eq.refl true | with_unfolding_all exact le1 (Eq.refl true)) | (simp only [WLEN]; omega) | fail) only [↓WA, ↓dCL_c, ↓WRV, ↓dPar3_w, ↓dSD_w, ↓WS, ↓WM, ↓WG, WCL, WB, WC, WD, WEE, WTY, WRE, WF, WH, Int.zero_add, Int.reduceToNat, Int.reducePow, Nat.reduceBEq, Nat.reduceAdd, Nat.reduceSub, Nat.reduceMul, Nat.reduceEqDiff, Int.reduceAdd, Int.reduceSub, Int.reduceMul, Int.reduceNeg, Int.reduceEq, Int.reduceLT, Int.reduceLE, Int.cast_ofNat_Int, Int.natCast_one, Int.natCast_zero, cm, decide_eq_true (show ((l.length % (i + 1) : Nat) : Int) = 0 by omega), s1, s2, ad, es])
        exact h2 rfl _ rfl
    · rw [decide_eq_false c1, Bool.false_and] at h1 h2
      (try simp -dsimp (disch := first | omega | assumption | (refine id ?_; with_unfolding_all exact Eq.refl true) | (and_intros <;> first | assumption | omega | with_unfolding_all exact Eq.refl true | with_unfolding_all exact le1 (Eq.refl true)) | (simp only [WLEN]; omega) | fail) only [↓WA, ↓dCL_c, ↓WRV, ↓dPar3_w, ↓dSD_w, ↓WS, ↓WM, ↓WG, WCL, WB, WC, WD, WEE, WTY, WRE, WF, WH, Int.zero_add, Int.reduceToNat, Int.reducePow, Nat.reduceBEq, Nat.reduceAdd, Nat.reduceSub, Nat.reduceMul, Nat.reduceEqDiff, Int.reduceAdd, Int.reduceSub, Int.reduceMul, Int.reduceNeg, Int.reduceEq, Int.reduceLT, Int.reduceLE, Int.cast_ofNat_Int, Int.natCast_one, Int.natCast_zero, cm, decide_eq_false (show ¬ ((l.length % (i + 1) : Nat) : Int) = 0 by omega)])
      exact h2 rfl _ rfl
  rw [List.nil_append]
  unfold perL at hn
  have bm : bMinT [.lst (((List.range l.length).filter fun i : Nat => decide (l.length % (i + 1) = 0) && decide (l.drop (i + 1) ++ l.take (i + 1) = l)).map fun i : Nat => D.int ((i : Int) + 1))] = some (.int n) := by
    rw [show ((List.range l.length).filter fun i : Nat => decide (l.length % (i + 1) = 0) && decide (l.drop (i + 1) ++ l.take (i + 1) = l)).map (fun i : Nat => D.int ((i : Int) + 1)) = (((List.range l.length).filter fun i : Nat => decide (l.length % (i + 1) = 0) && decide (l.drop (i + 1) ++ l.take (i + 1) = l)).map fun i : Nat => (i : Int) + 1).map .int by rw [List.map_map]; rfl]
    show (asInts _).bind (fun ns => (least ns).map D.int) = _
    rw [asInts_map]
    show (least _).map D.int = _
    rw [hn]; rfl
  generalize ((List.range l.length).filter fun i : Nat => decide (l.length % (i + 1) = 0) && decide (l.drop (i + 1) ++ l.take (i + 1) = l)).map (fun i : Nat => D.int ((i : Int) + 1)) = M at *
  (try simp -dsimp (disch := first | omega | assumption | (refine id ?_; with_unfolding_all exact Eq.refl true) | (and_intros <;> first | assumption | omega | with_unfolding_all exact Eq.refl true | with_unfolding_all exact le1 (Eq.refl true)) | (simp only [WLEN]; omega) | fail) only [↓WA, ↓dCL_c, ↓WRV, ↓dPar3_w, ↓dSD_w, ↓WS, ↓WM, ↓WG, WCL, WB, WC, WD, WEE, WTY, WRE, WF, WH, Int.zero_add, Int.reduceToNat, Int.reducePow, Nat.reduceBEq, Nat.reduceAdd, Nat.reduceSub, Nat.reduceMul, Nat.reduceEqDiff, Int.reduceAdd, Int.reduceSub, Int.reduceMul, Int.reduceNeg, Int.reduceEq, Int.reduceLT, Int.reduceLE, Int.cast_ofNat_Int, Int.natCast_one, Int.natCast_zero, bm])
  exact k
theorem sem_period_of (ds : List D) (Q : D → Prop) (X : Nat → List D → Prop) (hl : ds.length = 1) (h : sp_period_of ds Q X) : d_period_of (startE N_period_of.length 0 ds) ⟨fun _ => Q .non, Q, fun _ => False, fun _ => False, X⟩ := by
  have ⟨w, e, h⟩ : ∃ (w : Str), ds = [.str w] ∧ (sd (w.length ≤ 240) (oe (perL w.cps.toList) fun n => Q (.int n))) := by
    unfold sp_period_of at h
    split at h
    · exact ⟨_, rfl, h⟩
    · exact h.elim
  subst e
  exact semx_period_of w Q X h
theorem semx_period (d : D) (Q : D → Prop) (X : Nat → List D → Prop) (h : sd (d.pl = true) (wif (isRd d) (oe (rdOf d) fun z => Q (.int (perO z.1 z.2 : Nat))) (X 1 []))) : d_period [.val d] ⟨fun _ => Q .non, Q, fun _ => False, fun _ => False, X⟩ := by
  unfold d_period
  obtain ⟨h1, k⟩ := h
  cases e : isRd d with
  | false => rw [e, wif_f] at k; (try simp -dsimp (disch := first | omega | assumption | (refine id ?_; with_unfolding_all exact Eq.refl true) | (and_intros <;> first | assumption | omega | with_unfolding_all exact Eq.refl true | with_unfolding_all exact le1 (Eq.refl true)) | (simp only [WLEN]; omega) | fail) only [↓WA, ↓dCL_c, ↓WRV, ↓dPar3_w, ↓dSD_w, ↓WS, ↓WM, ↓WG, WCL, WB, WC, WD, WEE, WTY, WRE, WF, WH, Int.zero_add, Int.reduceToNat, Int.reducePow, Nat.reduceBEq, Nat.reduceAdd, Nat.reduceSub, Nat.reduceMul, Nat.reduceEqDiff, Int.reduceAdd, Int.reduceSub, Int.reduceMul, Int.reduceNeg, Int.reduceEq, Int.reduceLT, Int.reduceLE, Int.cast_ofNat_Int, Int.natCast_one, Int.natCast_zero, e]); exact k
  | true =>
  rw [e, wif_t] at k
  obtain ⟨p, O, rfl, ok⟩ := isRd_inv e
  obtain ⟨z, ez, k⟩ := k
  rw [rdOf_t] at ez
  cases ez
  dsimp only at k
  have p1 := ok.p1
  have p2 := ok.p2
  have pb := per_bits ok
  have bl : (txt (bitsL p O)).length = p.toNat := by rw [txt_len, bits_len]
  have tl : (txt (bitsL p O)).cps.toList = bitsL p O := txt_tl _
  (try simp -dsimp (disch := first | omega | assumption | (refine id ?_; with_unfolding_all exact Eq.refl true) | (and_intros <;> first | assumption | omega | with_unfolding_all exact Eq.refl true | with_unfolding_all exact le1 (Eq.refl true)) | (simp only [WLEN]; omega) | fail) only [↓WA, ↓dCL_c, ↓WRV, ↓dPar3_w, ↓dSD_w, ↓WS, ↓WM, ↓WG, WCL, WB, WC, WD, WEE, WTY, WRE, WF, WH, Int.zero_add, Int.reduceToNat, Int.reducePow, Nat.reduceBEq, Nat.reduceAdd, Nat.reduceSub, Nat.reduceMul, Nat.reduceEqDiff, Int.reduceAdd, Int.reduceSub, Int.reduceMul, Int.reduceNeg, Int.reduceEq, Int.reduceLT, Int.reduceLE, Int.cast_ofNat_Int, Int.natCast_one, Int.natCast_zero, e, asInts_map, ok, bl, tl, pb])
  exact k
theorem sem_period (ds : List D) (Q : D → Prop) (X : Nat → List D → Prop) (hl : ds.length = 1) (h : sp_period ds Q X) : d_period (startE N_period.length 0 ds) ⟨fun _ => Q .non, Q, fun _ => False, fun _ => False, X⟩ := by
  have ⟨d, e, h⟩ : ∃ (d : D), ds = [d] ∧ (sd (d.pl = true) (wif (isRd d) (oe (rdOf d) fun z => Q (.int (perO z.1 z.2 : Nat))) (X 1 []))) := by
    unfold sp_period at h
    split at h
    · exact ⟨_, rfl, h⟩
    · exact h.elim
  subst e
  exact semx_period d Q X h
theorem semx_axes (d : D) (Q : D → Prop) (X : Nat → List D → Prop) (h : sd (d.pl = true) (wif (isRd d) (oe (rdOf d) fun z => Q (.lst ((axL z.1 z.2).map .int))) (X 1 []))) : d_axes [.val d, .un] ⟨fun _ => Q .non, Q, fun _ => False, fun _ => False, X⟩ := by
  unfold d_axes
  obtain ⟨h1, k⟩ := h
  cases e : isRd d with
  | false => rw [e, wif_f] at k; (try simp -dsimp (disch := first | omega | assumption | (refine id ?_; with_unfolding_all exact Eq.refl true) | (and_intros <;> first | assumption | omega | with_unfolding_all exact Eq.refl true | with_unfolding_all exact le1 (Eq.refl true)) | (simp only [WLEN]; omega) | fail) only [↓WA, ↓dCL_c, ↓WRV, ↓dPar3_w, ↓dSD_w, ↓WS, ↓WM, ↓WG, WCL, WB, WC, WD, WEE, WTY, WRE, WF, WH, Int.zero_add, Int.reduceToNat, Int.reducePow, Nat.reduceBEq, Nat.reduceAdd, Nat.reduceSub, Nat.reduceMul, Nat.reduceEqDiff, Int.reduceAdd, Int.reduceSub, Int.reduceMul, Int.reduceNeg, Int.reduceEq, Int.reduceLT, Int.reduceLE, Int.cast_ofNat_Int, Int.natCast_one, Int.natCast_zero, e]); exact k
  | true =>
  rw [e, wif_t] at k
  obtain ⟨p, O, rfl, ok⟩ := isRd_inv e
  obtain ⟨z, ez, k⟩ := k
  rw [rdOf_t] at ez
  cases ez
  dsimp only at k
  have p1 := ok.p1
  have p2 := ok.p2
  have te := tup_eqI p
  (try simp -dsimp (disch := first | omega | assumption | (refine id ?_; with_unfolding_all exact Eq.refl true) | (and_intros <;> first | assumption | omega | with_unfolding_all exact Eq.refl true | with_unfolding_all exact le1 (Eq.refl true)) | (simp only [WLEN]; omega) | fail) only [↓WA, ↓dCL_c, ↓WRV, ↓dPar3_w, ↓dSD_w, ↓WS, ↓WM, ↓WG, WCL, WB, WC, WD, WEE, WTY, WRE, WF, WH, Int.zero_add, Int.reduceToNat, Int.reducePow, Nat.reduceBEq, Nat.reduceAdd, Nat.reduceSub, Nat.reduceMul, Nat.reduceEqDiff, Int.reduceAdd, Int.reduceSub, Int.reduceMul, Int.reduceNeg, Int.reduceEq, Int.reduceLT, Int.reduceLE, Int.cast_ofNat_Int, Int.natCast_one, Int.natCast_zero, e])
  rw [rng_I]
  refine dCL_fg .int (fun b => decide (mirL p O b = O)) .int (rngI p.toNat) [] (fun b hb K1 K2 h1 h2 => ?_) ?_
  · have hb := rngI_mem.mp hb
    (try simp -dsimp (disch := first | omega | assumption | (refine id ?_; with_unfolding_all exact Eq.refl true) | (and_intros <;> first | assumption | omega | with_unfolding_all exact Eq.refl true | with_unfolding_all exact le1 (Eq.refl true)) | (simp only [WLEN]; omega) | fail) only [↓WA, ↓dCL_c, ↓WRV, ↓dPar3_w, ↓dSD_w, ↓WS, ↓WM, ↓WG, WCL, WB, WC, WD, WEE, WTY, WRE, WF, WH, Int.zero_add, Int.reduceToNat, Int.reducePow, Nat.reduceBEq, Nat.reduceAdd, Nat.reduceSub, Nat.reduceMul, Nat.reduceEqDiff, Int.reduceAdd, Int.reduceSub, Int.reduceMul, Int.reduceNeg, Int.reduceEq, Int.reduceLT, Int.reduceLE, Int.cast_ofNat_Int, Int.natCast_one, Int.natCast_zero, asInts_map, ok])
    have tb := te (mirL p O b) O
    by_cases hh : mirL p O b = O
    · rw [decide_eq_true hh] at tb
      refine ⟨_, tb, ?_⟩
      (try simp -dsimp (disch := first | omega | assumption | (refine id ?_; with_unfolding_all exact Eq.refl true) | (and_intros <;> first | assumption | omega | with_unfolding_all exact Eq.refl true | with_unfolding_all exact le1 (Eq.refl true)) | (simp only [WLEN]; omega) | fail) only [↓WA, ↓dCL_c, ↓WRV, ↓dPar3_w, ↓dSD_w, ↓WS, ↓WM, ↓WG, WCL, WB, WC, WD, WEE, WTY, WRE, WF, WH, Int.zero_add, Int.reduceToNat, Int.reducePow, Nat.reduceBEq, Nat.reduceAdd, Nat.reduceSub, Nat.reduceMul, Nat.reduceEqDiff, Int.reduceAdd, Int.reduceSub, Int.reduceMul, Int.reduceNeg, Int.reduceEq, Int.reduceLT, Int.reduceLE, Int.cast_ofNat_Int, Int.natCast_one, Int.natCast_zero])
      exact h1 (decide_eq_true hh) _ rfl
    · rw [decide_eq_false hh] at tb
      refine ⟨_, tb, ?_⟩
      (try simp -dsimp (disch := first | omega | assumption | (refine id ?_; with_unfolding_all exact Eq.refl true) | (and_intros <;> first | assumption | omega | with_unfolding_all exact Eq.refl true | with_unfolding_all exact le1 (Eq.refl true)) | (simp only [WLEN]; omega) | fail) only [↓WA, ↓dCL_c, ↓WRV, ↓dPar3_w, ↓dSD_w, ↓WS, ↓WM, ↓WG, WCL, WB, WC, WD, WEE, WTY, WRE, WF, WH, Int.zero_add, Int.reduceToNat, Int.reducePow, Nat.reduceBEq, Nat.reduceAdd, Nat.reduceSub, Nat.reduceMul, Nat.reduceEqDiff, Int.reduceAdd, Int.reduceSub, Int.reduceMul, Int.reduceNeg, Int.reduceEq, Int.reduceLT, Int.reduceLE, Int.cast_ofNat_Int, Int.natCast_one, Int.natCast_zero])
      exact h2 (decide_eq_false hh) _ rfl
  rw [List.nil_append]
  exact k
theorem sem_axes (ds : List D) (Q : D → Prop) (X : Nat → List D → Prop) (hl : ds.length = 1) (h : sp_axes ds Q X) : d_axes (startE N_axes.length 0 ds) ⟨fun _ => Q .non, Q, fun _ => False, fun _ => False, X⟩ := by
  have ⟨d, e, h⟩ : ∃ (d : D), ds = [d] ∧ (sd (d.pl = true) (wif (isRd d) (oe (rdOf d) fun z => Q (.lst ((axL z.1 z.2).map .int))) (X 1 []))) := by
    unfold sp_axes at h
    split at h
    · exact ⟨_, rfl, h⟩
    · exact h.elim
  subst e
  exact semx_axes d Q X h
end K03
namespace K03
open PySem PySem.Spec PyProof.Rows L2 DL
def lapE (ns : List Int) (x2 x3 x4 x5 x6 x7 x8 x9 : SV) (fu : Nat) : DL.Env := [.val (.scr ns), .val .st, x2, x3, x4, x5, x6, x7, x8, x9, .un, .un, .fuel fu]
theorem okS_inv {x : SV} (h : okS x = true) : x = .un ∨ ∃ v, x = .val v := by
  cases x <;> first | exact .inl rfl | exact .inr ⟨_, rfl⟩ | cases h
theorem isG_l {xs : List Int} (h : ∀ n ∈ xs, -2 ^ 200 < n ∧ n < 2 ^ 200) (hl : xs.length ≤ 8000) : (D.lst (xs.map .int)).bd = true ∧ (D.lst (xs.map .int)).dep ≤ 1 ∧ (D.lst (xs.map .int)).ws ≤ 3000000 := by
  refine ⟨bd_l (bds_all fun d hd => ?_), ?_, ?_⟩
  · obtain ⟨n, hn, rfl⟩ := List.mem_map.mp hd
    exact bd_i (h n hn).1 (h n hn).2
  · rw [dep_l]
    have := deps_all (ds := xs.map .int) (n := 0) fun d hd => by obtain ⟨n, hn, rfl⟩ := List.mem_map.mp hd; rw [dep_i]; exact Nat.le_refl 0
    omega
  · rw [ws_l]
    have := wss_all (ds := xs.map .int) (k := 202) fun d hd => by obtain ⟨n, hn, rfl⟩ := List.mem_map.mp hd; rw [ws_i]; exact Nat.le_refl _
    rw [List.length_map] at this
    omega
theorem isG_l2 {xs : List Int} (h : ∀ n ∈ xs, -2 ^ 200 < n ∧ n < 2 ^ 200) (hl : xs.length ≤ 8000) : isG (.lst [.lst (xs.map .int), .lst (xs.map .int)]) := by
  obtain ⟨h1, h2, h3⟩ := isG_l h hl
  refine isG_of (bd_l (bds_c h1 (bds_c h1 bds_n))) ?_ ?_
  · simp only [dep_l, deps_c, deps_n] at h2 ⊢; omega
  · simp only [ws_l, wss_c, wss_n] at h3 ⊢; omega
theorem isG_i2 {n : Int} (h : -2 ^ 200 < n) (h2 : n < 2 ^ 200) : isG (.lst [.int n, .int n]) := by
  refine isG_of (bd_l (bds_c (bd_i h h2) (bds_c (bd_i h h2) bds_n))) ?_ ?_
  · simp only [dep_l, dep_i, deps_c, deps_n]; decide
  · simp only [ws_l, ws_i, wss_c, wss_n]; decide
theorem oEq_ints (xs ys : List Int) : oEq (.lst (xs.map .int)) (.lst (ys.map .int)) = some (.bl (decide (xs = ys))) := by
  unfold oEq
  rw [if_pos ⟨ok_lst int_ok, ok_lst int_ok⟩, ← eqv_ints]
  unfold D.py PyData.eqv
  rfl
theorem oNe_ints (xs ys : List Int) : oNe (.lst (xs.map .int)) (.lst (ys.map .int)) = some (.bl (!decide (xs = ys))) := by
  unfold oNe
  rw [if_pos ⟨ok_lst int_ok, ok_lst int_ok⟩, ← eqv_ints]
  unfold D.py PyData.eqv
  rfl
theorem lap_ok (ns : List Int) (q2 : Int) (x3 x4 x5 x6 x7 x8 x9 : SV) (fu : Nat) (ok8 : okS x8 = true) (hf : 1000 ≤ fu) (K B : DL.Env → Prop)
    (hK : ∀ (x3 x4 x5 x6 x7 x8 x9 : SV) (fu' : Nat), okS x8 = true → fu ≤ fu' + 500 → K (lapE ns (.val (.int q2)) x3 x4 x5 x6 x7 x8 x9 fu')) :
    b_law_1 (lapE ns (.val (.int q2)) x3 x4 x5 x6 x7 x8 x9 fu) ⟨K, fun r => r = .bl true, B, K, fun _ _ => False⟩ := by
  unfold b_law_1
  obtain ⟨F, rfl⟩ : ∃ F, fu = F + 500 := ⟨fu - 500, by omega⟩
  refine blk_w (fun ρ => ∃ (p : Int) (O : List Int), RdOk p O ∧ ρ = lapE ns (.val (.int q2)) (.val (.tup [.int p, .tup (O.map .int)])) x4 x5 x6 x7 x8 x9 (F + 199)) (fun K hK => ?_) ?_
  · unfold lapE at hK ⊢
    have fin : ∀ z : Int, (1 ≤ z ∧ z ≤ 240) → ∀ x ∈ [D.int 30, .int 12, .int 60, .int z], ∃ q : Int, x = .int q ∧ 1 ≤ q ∧ q ≤ 240 := fun z hz x hx => by
      simp only [List.mem_cons, List.not_mem_nil, or_false] at hx
      rcases hx with rfl | rfl | rfl | rfl
      · exact ⟨_, rfl, by decide, by decide⟩
      · exact ⟨_, rfl, by decide, by decide⟩
      · exact ⟨_, rfl, by decide, by decide⟩
      · exact ⟨_, rfl, hz⟩
    by_cases h0 : q2 = 0
    · (try simp -dsimp (disch := first | omega | assumption | (refine id ?_; with_unfolding_all exact Eq.refl true) | (and_intros <;> first | assumption | omega | with_unfolding_all exact Eq.refl true | with_unfolding_all exact le1 (Eq.refl true)) | (simp only [WLEN]; omega) | fail) only [↓WA, ↓dCL_c, ↓WRV, ↓dPar3_w, ↓dSD_w, ↓WS, ↓WM, ↓WG, WCL, WB, WC, WD, WEE, WTY, WRE, WF, WH, Int.zero_add, Int.reduceToNat, Int.reducePow, Nat.reduceBEq, Nat.reduceAdd, Nat.reduceSub, Nat.reduceMul, Nat.reduceEqDiff, Int.reduceAdd, Int.reduceSub, Int.reduceMul, Int.reduceNeg, Int.reduceEq, Int.reduceLT, Int.reduceLE, Int.cast_ofNat_Int, Int.natCast_one, Int.natCast_zero, decide_eq_true h0])
      intro x hx
      obtain ⟨q, rfl, q1, q2⟩ := fin 240 (by decide) x hx
      (try simp -dsimp (disch := first | omega | assumption | (refine id ?_; with_unfolding_all exact Eq.refl true) | (and_intros <;> first | assumption | omega | with_unfolding_all exact Eq.refl true | with_unfolding_all exact le1 (Eq.refl true)) | (simp only [WLEN]; omega) | fail) only [↓WA, ↓dCL_c, ↓WRV, ↓dPar3_w, ↓dSD_w, ↓WS, ↓WM, ↓WG, WCL, WB, WC, WD, WEE, WTY, WRE, WF, WH, Int.zero_add, Int.reduceToNat, Int.reducePow, Nat.reduceBEq, Nat.reduceAdd, Nat.reduceSub, Nat.reduceMul, Nat.reduceEqDiff, Int.reduceAdd, Int.reduceSub, Int.reduceMul, Int.reduceNeg, Int.reduceEq, Int.reduceLT, Int.reduceLE, Int.cast_ofNat_Int, Int.natCast_one, Int.natCast_zero])
      rintro ⟨p, O⟩ ⟨ok, hp⟩
      (try simp -dsimp (disch := first | omega | assumption | (refine id ?_; with_unfolding_all exact Eq.refl true) | (and_intros <;> first | assumption | omega | with_unfolding_all exact Eq.refl true | with_unfolding_all exact le1 (Eq.refl true)) | (simp only [WLEN]; omega) | fail) only [↓WA, ↓dCL_c, ↓WRV, ↓dPar3_w, ↓dSD_w, ↓WS, ↓WM, ↓WG, WCL, WB, WC, WD, WEE, WTY, WRE, WF, WH, Int.zero_add, Int.reduceToNat, Int.reducePow, Nat.reduceBEq, Nat.reduceAdd, Nat.reduceSub, Nat.reduceMul, Nat.reduceEqDiff, Int.reduceAdd, Int.reduceSub, Int.reduceMul, Int.reduceNeg, Int.reduceEq, Int.reduceLT, Int.reduceLE, Int.cast_ofNat_Int, Int.natCast_one, Int.natCast_zero])
      exact hK _ ⟨p, O, ok, rfl⟩
    · (try simp -dsimp (disch := first | omega | assumption | (refine id ?_; with_unfolding_all exact Eq.refl true) | (and_intros <;> first | assumption | omega | with_unfolding_all exact Eq.refl true | with_unfolding_all exact le1 (Eq.refl true)) | (simp only [WLEN]; omega) | fail) only [↓WA, ↓dCL_c, ↓WRV, ↓dPar3_w, ↓dSD_w, ↓WS, ↓WM, ↓WG, WCL, WB, WC, WD, WEE, WTY, WRE, WF, WH, Int.zero_add, Int.reduceToNat, Int.reducePow, Nat.reduceBEq, Nat.reduceAdd, Nat.reduceSub, Nat.reduceMul, Nat.reduceEqDiff, Int.reduceAdd, Int.reduceSub, Int.reduceMul, Int.reduceNeg, Int.reduceEq, Int.reduceLT, Int.reduceLE, Int.cast_ofNat_Int, Int.natCast_one, Int.natCast_zero, decide_eq_false h0])
      intro x hx
      obtain ⟨q, rfl, q1, q2⟩ := fin 24 (by decide) x hx
      (try simp -dsimp (disch := first | omega | assumption | (refine id ?_; with_unfolding_all exact Eq.refl true) | (and_intros <;> first | assumption | omega | with_unfolding_all exact Eq.refl true | with_unfolding_all exact le1 (Eq.refl true)) | (simp only [WLEN]; omega) | fail) only [↓WA, ↓dCL_c, ↓WRV, ↓dPar3_w, ↓dSD_w, ↓WS, ↓WM, ↓WG, WCL, WB, WC, WD, WEE, WTY, WRE, WF, WH, Int.zero_add, Int.reduceToNat, Int.reducePow, Nat.reduceBEq, Nat.reduceAdd, Nat.reduceSub, Nat.reduceMul, Nat.reduceEqDiff, Int.reduceAdd, Int.reduceSub, Int.reduceMul, Int.reduceNeg, Int.reduceEq, Int.reduceLT, Int.reduceLE, Int.cast_ofNat_Int, Int.natCast_one, Int.natCast_zero])
      rintro ⟨p, O⟩ ⟨ok, hp⟩
      (try simp -dsimp (disch := first | omega | assumption | (refine id ?_; with_unfolding_all exact Eq.refl true) | (and_intros <;> first | assumption | omega | with_unfolding_all exact Eq.refl true | with_unfolding_all exact le1 (Eq.refl true)) | (simp only [WLEN]; omega) | fail) only [↓WA, ↓dCL_c, ↓WRV, ↓dPar3_w, ↓dSD_w, ↓WS, ↓WM, ↓WG, WCL, WB, WC, WD, WEE, WTY, WRE, WF, WH, Int.zero_add, Int.reduceToNat, Int.reducePow, Nat.reduceBEq, Nat.reduceAdd, Nat.reduceSub, Nat.reduceMul, Nat.reduceEqDiff, Int.reduceAdd, Int.reduceSub, Int.reduceMul, Int.reduceNeg, Int.reduceEq, Int.reduceLT, Int.reduceLE, Int.cast_ofNat_Int, Int.natCast_one, Int.natCast_zero])
      exact hK _ ⟨p, O, ok, rfl⟩
  rintro _ ⟨p, O, ok, rfl⟩
  refine blk_w (fun ρ => ∃ (O : List Int) (x8 : SV) (G : Nat), RdOk p O ∧ okS x8 = true ∧ F + 190 ≤ G ∧ ρ = lapE ns (.val (.int q2)) (.val (.tup [.int p, .tup (O.map .int)])) x4 x5 x6 x7 x8 x9 G) (fun K hK => ?_) ?_
  · have p1 := ok.p1
    have p2 := ok.p2
    unfold lapE at hK ⊢
    (try simp -dsimp (disch := first | omega | assumption | (refine id ?_; with_unfolding_all exact Eq.refl true) | (and_intros <;> first | assumption | omega | with_unfolding_all exact Eq.refl true | with_unfolding_all exact le1 (Eq.refl true)) | (simp only [WLEN]; omega) | fail) only [↓WA, ↓dCL_c, ↓WRV, ↓dPar3_w, ↓dSD_w, ↓WS, ↓WM, ↓WG, WCL, WB, WC, WD, WEE, WTY, WRE, WF, WH, Int.zero_add, Int.reduceToNat, Int.reducePow, Nat.reduceBEq, Nat.reduceAdd, Nat.reduceSub, Nat.reduceMul, Nat.reduceEqDiff, Int.reduceAdd, Int.reduceSub, Int.reduceMul, Int.reduceNeg, Int.reduceEq, Int.reduceLT, Int.reduceLE, Int.cast_ofNat_Int, Int.natCast_one, Int.natCast_zero])
    intro d d0 d1
    by_cases hd : d = 0
    · (try simp -dsimp (disch := first | omega | assumption | (refine id ?_; with_unfolding_all exact Eq.refl true) | (and_intros <;> first | assumption | omega | with_unfolding_all exact Eq.refl true | with_unfolding_all exact le1 (Eq.refl true)) | (simp only [WLEN]; omega) | fail) only [↓WA, ↓dCL_c, ↓WRV, ↓dPar3_w, ↓dSD_w, ↓WS, ↓WM, ↓WG, WCL, WB, WC, WD, WEE, WTY, WRE, WF, WH, Int.zero_add, Int.reduceToNat, Int.reducePow, Nat.reduceBEq, Nat.reduceAdd, Nat.reduceSub, Nat.reduceMul, Nat.reduceEqDiff, Int.reduceAdd, Int.reduceSub, Int.reduceMul, Int.reduceNeg, Int.reduceEq, Int.reduceLT, Int.reduceLE, Int.cast_ofNat_Int, Int.natCast_one, Int.natCast_zero, decide_eq_true hd])
      intro b b0 b1
      (try simp -dsimp (disch := first | omega | assumption | (refine id ?_; with_unfolding_all exact Eq.refl true) | (and_intros <;> first | assumption | omega | with_unfolding_all exact Eq.refl true | with_unfolding_all exact le1 (Eq.refl true)) | (simp only [WLEN]; omega) | fail) only [↓WA, ↓dCL_c, ↓WRV, ↓dPar3_w, ↓dSD_w, ↓WS, ↓WM, ↓WG, WCL, WB, WC, WD, WEE, WTY, WRE, WF, WH, Int.zero_add, Int.reduceToNat, Int.reducePow, Nat.reduceBEq, Nat.reduceAdd, Nat.reduceSub, Nat.reduceMul, Nat.reduceEqDiff, Int.reduceAdd, Int.reduceSub, Int.reduceMul, Int.reduceNeg, Int.reduceEq, Int.reduceLT, Int.reduceLE, Int.cast_ofNat_Int, Int.natCast_one, Int.natCast_zero, asInts_map, ok])
      have okM := mir_ok (b := b) ok
      have ol := ok.len
      have ml := okM.len
      have cat : oAdd (.tup (O.map .int)) (.tup ((mirL p O b).map .int)) = some (.tup ((O ++ mirL p O b).map .int)) := by
        show (if _ then _ else _) = _
        rw [if_pos (by rw [List.length_map, List.length_map, sizeLine_eq]; omega), List.map_append]
      have mem : ∀ x ∈ O ++ mirL p O b, 0 ≤ x ∧ x < p := fun x hx => by
        rcases List.mem_append.mp hx with hx | hx
        · exact ok.lt x hx
        · exact okM.lt x hx
      have i1 : oIx (.tup [.int p, .tup ((mirL p O b).map .int)]) (.int 1) = some (.tup ((mirL p O b).map .int)) := rfl
      (try simp -dsimp (disch := first | omega | assumption | (refine id ?_; with_unfolding_all exact Eq.refl true) | (and_intros <;> first | assumption | omega | with_unfolding_all exact Eq.refl true | with_unfolding_all exact le1 (Eq.refl true)) | (simp only [WLEN]; omega) | fail) only [↓WA, ↓dCL_c, ↓WRV, ↓dPar3_w, ↓dSD_w, ↓WS, ↓WM, ↓WG, WCL, WB, WC, WD, WEE, WTY, WRE, WF, WH, Int.zero_add, Int.reduceToNat, Int.reducePow, Nat.reduceBEq, Nat.reduceAdd, Nat.reduceSub, Nat.reduceMul, Nat.reduceEqDiff, Int.reduceAdd, Int.reduceSub, Int.reduceMul, Int.reduceNeg, Int.reduceEq, Int.reduceLT, Int.reduceLE, Int.cast_ofNat_Int, Int.natCast_one, Int.natCast_zero, cat, i1])
      generalize O ++ mirL p O b = L at *
      refine dCL_mg .int (fun o => .tup [.int o, .bl true]) L [] (fun o ho K hK => ?_) ?_
      · (try simp -dsimp (disch := first | omega | assumption | (refine id ?_; with_unfolding_all exact Eq.refl true) | (and_intros <;> first | assumption | omega | with_unfolding_all exact Eq.refl true | with_unfolding_all exact le1 (Eq.refl true)) | (simp only [WLEN]; omega) | fail) only [↓WA, ↓dCL_c, ↓WRV, ↓dPar3_w, ↓dSD_w, ↓WS, ↓WM, ↓WG, WCL, WB, WC, WD, WEE, WTY, WRE, WF, WH, Int.zero_add, Int.reduceToNat, Int.reducePow, Nat.reduceBEq, Nat.reduceAdd, Nat.reduceSub, Nat.reduceMul, Nat.reduceEqDiff, Int.reduceAdd, Int.reduceSub, Int.reduceMul, Int.reduceNeg, Int.reduceEq, Int.reduceLT, Int.reduceLE, Int.cast_ofNat_Int, Int.natCast_one, Int.natCast_zero])
        exact hK _ rfl
      rw [List.nil_append]
      refine ⟨_, rfl, ?_⟩
      refine oe_i (keysOf_m L (.bl true)) ?_
      have okU := uq_ok p1 p2 mem
      have bt := tup_ints (isort (uniqI L))
      generalize isort (uniqI L) = M at *
      (try simp -dsimp (disch := first | omega | assumption | (refine id ?_; with_unfolding_all exact Eq.refl true) | (and_intros <;> first | assumption | omega | with_unfolding_all exact Eq.refl true | with_unfolding_all exact le1 (Eq.refl true)) | (simp only [WLEN]; omega) | fail) only [↓WA, ↓dCL_c, ↓WRV, ↓dPar3_w, ↓dSD_w, ↓WS, ↓WM, ↓WG, WCL, WB, WC, WD, WEE, WTY, WRE, WF, WH, Int.zero_add, Int.reduceToNat, Int.reducePow, Nat.reduceBEq, Nat.reduceAdd, Nat.reduceSub, Nat.reduceMul, Nat.reduceEqDiff, Int.reduceAdd, Int.reduceSub, Int.reduceMul, Int.reduceNeg, Int.reduceEq, Int.reduceLT, Int.reduceLE, Int.cast_ofNat_Int, Int.natCast_one, Int.natCast_zero, bt])
      exact hK _ ⟨M, .val (.int b), F + 197, okU, rfl, by omega, rfl⟩
    · (try simp -dsimp (disch := first | omega | assumption | (refine id ?_; with_unfolding_all exact Eq.refl true) | (and_intros <;> first | assumption | omega | with_unfolding_all exact Eq.refl true | with_unfolding_all exact le1 (Eq.refl true)) | (simp only [WLEN]; omega) | fail) only [↓WA, ↓dCL_c, ↓WRV, ↓dPar3_w, ↓dSD_w, ↓WS, ↓WM, ↓WG, WCL, WB, WC, WD, WEE, WTY, WRE, WF, WH, Int.zero_add, Int.reduceToNat, Int.reducePow, Nat.reduceBEq, Nat.reduceAdd, Nat.reduceSub, Nat.reduceMul, Nat.reduceEqDiff, Int.reduceAdd, Int.reduceSub, Int.reduceMul, Int.reduceNeg, Int.reduceEq, Int.reduceLT, Int.reduceLE, Int.cast_ofNat_Int, Int.natCast_one, Int.natCast_zero, decide_eq_false hd])
      exact hK _ ⟨O, x8, F + 198, ok, ok8, by omega, rfl⟩
  clear ok ok8
  rintro _ ⟨O, x8, F', ok, ok8, hF, rfl⟩
  obtain ⟨G, rfl⟩ : ∃ G, F' = G + 10 := ⟨F' - 10, by omega⟩
  have p1 := ok.p1
  have p2 := ok.p2
  have er := isRd_ok ok
  have pr := rd_pl p O
  have rt := rdOf_t p O
  have te := tup_eqI p
  obtain ⟨h1, h2, h3, h4⟩ := per_spec ok
  refine blk_w (fun ρ => ρ = lapE ns (.val (.int q2)) (.val (.tup [.int p, .tup (O.map .int)])) (.val (.int p)) (.val (.tup (O.map .int))) x6 x7 x8 x9 (G + 10)) (fun K hK => by unfold lapE at hK ⊢; (try simp -dsimp (disch := first | omega | assumption | (refine id ?_; with_unfolding_all exact Eq.refl true) | (and_intros <;> first | assumption | omega | with_unfolding_all exact Eq.refl true | with_unfolding_all exact le1 (Eq.refl true)) | (simp only [WLEN]; omega) | fail) only [↓WA, ↓dCL_c, ↓WRV, ↓dPar3_w, ↓dSD_w, ↓WS, ↓WM, ↓WG, WCL, WB, WC, WD, WEE, WTY, WRE, WF, WH, Int.zero_add, Int.reduceToNat, Int.reducePow, Nat.reduceBEq, Nat.reduceAdd, Nat.reduceSub, Nat.reduceMul, Nat.reduceEqDiff, Int.reduceAdd, Int.reduceSub, Int.reduceMul, Int.reduceNeg, Int.reduceEq, Int.reduceLT, Int.reduceLE, Int.cast_ofNat_Int, Int.natCast_one, Int.natCast_zero]); exact hK _ rfl) ?_
  rintro _ rfl
  refine blk_w (fun ρ => ρ = lapE ns (.val (.int q2)) (.val (.tup [.int p, .tup (O.map .int)])) (.val (.int p)) (.val (.tup (O.map .int))) (.val (.int (perO p O : Nat))) x7 x8 x9 (G + 10)) (fun K hK => ?_) ?_
  · unfold lapE at hK ⊢
    have hd : ((List.range p.toNat).filter fun i : Nat => decide (turnL p O ((i : Int) + 1) = O)).head? = some (perO p O - 1) := by
      rw [List.head?_filter]
      unfold perO
      cases h : (List.range p.toNat).find? fun i : Nat => decide (turnL p O ((i : Int) + 1) = O) with
      | none =>
        rw [List.find?_range_eq_none] at h
        have := h (perO p O - 1) (by omega)
        rw [show (((perO p O - 1 : Nat)) : Int) + 1 = perO p O by omega, decide_eq_true ((turn_inv ok _).mpr h3)] at this
        cases this
      | some i => rfl
    have i0 : oIx (.lst (((List.range p.toNat).filter fun i : Nat => decide (turnL p O ((i : Int) + 1) = O)).map fun i : Nat => D.int ((i : Int) + 1))) (.int 0) = some (.int (perO p O : Nat)) := by
      cases hl : (List.range p.toNat).filter fun i : Nat => decide (turnL p O ((i : Int) + 1) = O) with
      | nil => rw [hl] at hd; cases hd
      | cons a A =>
        rw [hl] at hd
        have hd : a = perO p O - 1 := Option.some.inj hd
        rw [oIx_lw (by decide) (by rw [List.length_map, List.length_cons]; omega)]
        show some (D.int ((a : Int) + 1)) = _
        rw [hd, show (((perO p O - 1 : Nat)) : Int) + 1 = perO p O by omega]
    obtain rfl | ⟨v, rfl⟩ := okS_inv ok8
    all_goals
      (try simp -dsimp (disch := first | omega | assumption | (refine id ?_; with_unfolding_all exact Eq.refl true) | (and_intros <;> first | assumption | omega | with_unfolding_all exact Eq.refl true | with_unfolding_all exact le1 (Eq.refl true)) | (simp only [WLEN]; omega) | fail) only [↓WA, ↓dCL_c, ↓WRV, ↓dPar3_w, ↓dSD_w, ↓WS, ↓WM, ↓WG, WCL, WB, WC, WD, WEE, WTY, WRE, WF, WH, Int.zero_add, Int.reduceToNat, Int.reducePow, Nat.reduceBEq, Nat.reduceAdd, Nat.reduceSub, Nat.reduceMul, Nat.reduceEqDiff, Int.reduceAdd, Int.reduceSub, Int.reduceMul, Int.reduceNeg, Int.reduceEq, Int.reduceLT, Int.reduceLE, Int.cast_ofNat_Int, Int.natCast_one, Int.natCast_zero])
      rw [show (p + 1 - 1).toNat = p.toNat by omega, rng_1]
      refine dCL_fg (fun i : Nat => .int ((i : Int) + 1)) (fun i : Nat => decide (turnL p O ((i : Int) + 1) = O)) (fun i : Nat => .int ((i : Int) + 1)) (List.range p.toNat) [] (fun i hi K1 K2 h1 h2 => ?_) ?_
      · have hi := List.mem_range.mp hi
        (try simp -dsimp (disch := first | omega | assumption | (refine id ?_; with_unfolding_all exact Eq.refl true) | (and_intros <;> first | assumption | omega | with_unfolding_all exact Eq.refl true | with_unfolding_all exact le1 (Eq.refl true)) | (simp only [WLEN]; omega) | fail) only [↓WA, ↓dCL_c, ↓WRV, ↓dPar3_w, ↓dSD_w, ↓WS, ↓WM, ↓WG, WCL, WB, WC, WD, WEE, WTY, WRE, WF, WH, Int.zero_add, Int.reduceToNat, Int.reducePow, Nat.reduceBEq, Nat.reduceAdd, Nat.reduceSub, Nat.reduceMul, Nat.reduceEqDiff, Int.reduceAdd, Int.reduceSub, Int.reduceMul, Int.reduceNeg, Int.reduceEq, Int.reduceLT, Int.reduceLE, Int.cast_ofNat_Int, Int.natCast_one, Int.natCast_zero, asInts_map, ok])
        have tb := te (turnL p O ((i : Int) + 1)) O
        by_cases hh : turnL p O ((i : Int) + 1) = O
        · rw [decide_eq_true hh] at tb
          refine ⟨_, tb, ?_⟩
          (try simp -dsimp (disch := first | omega | assumption | (refine id ?_; with_unfolding_all exact Eq.refl true) | (and_intros <;> first | assumption | omega | with_unfolding_all exact Eq.refl true | with_unfolding_all exact le1 (Eq.refl true)) | (simp only [WLEN]; omega) | fail) only [↓WA, ↓dCL_c, ↓WRV, ↓dPar3_w, ↓dSD_w, ↓WS, ↓WM, ↓WG, WCL, WB, WC, WD, WEE, WTY, WRE, WF, WH, Int.zero_add, Int.reduceToNat, Int.reducePow, Nat.reduceBEq, Nat.reduceAdd, Nat.reduceSub, Nat.reduceMul, Nat.reduceEqDiff, Int.reduceAdd, Int.reduceSub, Int.reduceMul, Int.reduceNeg, Int.reduceEq, Int.reduceLT, Int.reduceLE, Int.cast_ofNat_Int, Int.natCast_one, Int.natCast_zero])
          exact h1 (decide_eq_true hh) _ rfl
        · rw [decide_eq_false hh] at tb
          refine ⟨_, tb, ?_⟩
          (try simp -dsimp (disch := first | omega | assumption | (refine id ?_; with_unfolding_all exact Eq.refl true) | (and_intros <;> first | assumption | omega | with_unfolding_all exact Eq.refl true | with_unfolding_all exact le1 (Eq.refl true)) | (simp only [WLEN]; omega) | fail) only [↓WA, ↓dCL_c, ↓WRV, ↓dPar3_w, ↓dSD_w, ↓WS, ↓WM, ↓WG, WCL, WB, WC, WD, WEE, WTY, WRE, WF, WH, Int.zero_add, Int.reduceToNat, Int.reducePow, Nat.reduceBEq, Nat.reduceAdd, Nat.reduceSub, Nat.reduceMul, Nat.reduceEqDiff, Int.reduceAdd, Int.reduceSub, Int.reduceMul, Int.reduceNeg, Int.reduceEq, Int.reduceLT, Int.reduceLE, Int.cast_ofNat_Int, Int.natCast_one, Int.natCast_zero])
          exact h2 (decide_eq_false hh) _ rfl
      rw [List.nil_append]
      generalize ((List.range p.toNat).filter fun i : Nat => decide (turnL p O ((i : Int) + 1) = O)).map (fun i : Nat => D.int ((i : Int) + 1)) = M at *
      (try simp -dsimp (disch := first | omega | assumption | (refine id ?_; with_unfolding_all exact Eq.refl true) | (and_intros <;> first | assumption | omega | with_unfolding_all exact Eq.refl true | with_unfolding_all exact le1 (Eq.refl true)) | (simp only [WLEN]; omega) | fail) only [↓WA, ↓dCL_c, ↓WRV, ↓dPar3_w, ↓dSD_w, ↓WS, ↓WM, ↓WG, WCL, WB, WC, WD, WEE, WTY, WRE, WF, WH, Int.zero_add, Int.reduceToNat, Int.reducePow, Nat.reduceBEq, Nat.reduceAdd, Nat.reduceSub, Nat.reduceMul, Nat.reduceEqDiff, Int.reduceAdd, Int.reduceSub, Int.reduceMul, Int.reduceNeg, Int.reduceEq, Int.reduceLT, Int.reduceLE, Int.cast_ofNat_Int, Int.natCast_one, Int.natCast_zero, i0])
      exact hK _ rfl
  rintro _ rfl
  have dv := Int.emod_eq_zero_of_dvd (per_dvd ok)
  have ld := len_dvd ok
  have al := ax_len ok
  have G2 := isG_i2 (n := (perO p O : Nat)) (by omega) (by omega)
  have kp : 1 ≤ p / (perO p O : Nat) := by
    obtain ⟨k, _, hd, k1⟩ := per_k ok
    omega
  refine blk_w (fun ρ => ρ = lapE ns (.val (.int q2)) (.val (.tup [.int p, .tup (O.map .int)])) (.val (.int p)) (.val (.tup (O.map .int))) (.val (.int (perO p O : Nat))) x7 x8 x9 (G + 10)) (fun K hK => ?_) ?_
  · unfold lapE at hK ⊢
    (try simp -dsimp (disch := first | omega | assumption | (refine id ?_; with_unfolding_all exact Eq.refl true) | (and_intros <;> first | assumption | omega | with_unfolding_all exact Eq.refl true | with_unfolding_all exact le1 (Eq.refl true)) | (simp only [WLEN]; omega) | fail) only [↓WA, ↓dCL_c, ↓WRV, ↓dPar3_w, ↓dSD_w, ↓WS, ↓WM, ↓WG, WCL, WB, WC, WD, WEE, WTY, WRE, WF, WH, Int.zero_add, Int.reduceToNat, Int.reducePow, Nat.reduceBEq, Nat.reduceAdd, Nat.reduceSub, Nat.reduceMul, Nat.reduceEqDiff, Int.reduceAdd, Int.reduceSub, Int.reduceMul, Int.reduceNeg, Int.reduceEq, Int.reduceLT, Int.reduceLE, Int.cast_ofNat_Int, Int.natCast_one, Int.natCast_zero, er, pr, rt, G2, dv, ld])
    exact hK _ rfl
  rintro _ rfl
  refine blk_w (fun ρ => ρ = lapE ns (.val (.int q2)) (.val (.tup [.int p, .tup (O.map .int)])) (.val (.int p)) (.val (.tup (O.map .int))) (.val (.int (perO p O : Nat))) (.val (.lst ((axL p O).map .int))) x8 x9 (G + 10)) (fun K hK => ?_) ?_
  · unfold lapE at hK ⊢
    obtain rfl | ⟨v, rfl⟩ := okS_inv ok8
    all_goals
      (try simp -dsimp (disch := first | omega | assumption | (refine id ?_; with_unfolding_all exact Eq.refl true) | (and_intros <;> first | assumption | omega | with_unfolding_all exact Eq.refl true | with_unfolding_all exact le1 (Eq.refl true)) | (simp only [WLEN]; omega) | fail) only [↓WA, ↓dCL_c, ↓WRV, ↓dPar3_w, ↓dSD_w, ↓WS, ↓WM, ↓WG, WCL, WB, WC, WD, WEE, WTY, WRE, WF, WH, Int.zero_add, Int.reduceToNat, Int.reducePow, Nat.reduceBEq, Nat.reduceAdd, Nat.reduceSub, Nat.reduceMul, Nat.reduceEqDiff, Int.reduceAdd, Int.reduceSub, Int.reduceMul, Int.reduceNeg, Int.reduceEq, Int.reduceLT, Int.reduceLE, Int.cast_ofNat_Int, Int.natCast_one, Int.natCast_zero])
      rw [rng_I]
      refine dCL_fg .int (fun b => decide (mirL p O b = O)) .int (rngI p.toNat) [] (fun b hb K1 K2 h1 h2 => ?_) ?_
      · have hb := rngI_mem.mp hb
        (try simp -dsimp (disch := first | omega | assumption | (refine id ?_; with_unfolding_all exact Eq.refl true) | (and_intros <;> first | assumption | omega | with_unfolding_all exact Eq.refl true | with_unfolding_all exact le1 (Eq.refl true)) | (simp only [WLEN]; omega) | fail) only [↓WA, ↓dCL_c, ↓WRV, ↓dPar3_w, ↓dSD_w, ↓WS, ↓WM, ↓WG, WCL, WB, WC, WD, WEE, WTY, WRE, WF, WH, Int.zero_add, Int.reduceToNat, Int.reducePow, Nat.reduceBEq, Nat.reduceAdd, Nat.reduceSub, Nat.reduceMul, Nat.reduceEqDiff, Int.reduceAdd, Int.reduceSub, Int.reduceMul, Int.reduceNeg, Int.reduceEq, Int.reduceLT, Int.reduceLE, Int.cast_ofNat_Int, Int.natCast_one, Int.natCast_zero, asInts_map, ok])
        have tb := te (mirL p O b) O
        by_cases hh : mirL p O b = O
        · rw [decide_eq_true hh] at tb
          refine ⟨_, tb, ?_⟩
          (try simp -dsimp (disch := first | omega | assumption | (refine id ?_; with_unfolding_all exact Eq.refl true) | (and_intros <;> first | assumption | omega | with_unfolding_all exact Eq.refl true | with_unfolding_all exact le1 (Eq.refl true)) | (simp only [WLEN]; omega) | fail) only [↓WA, ↓dCL_c, ↓WRV, ↓dPar3_w, ↓dSD_w, ↓WS, ↓WM, ↓WG, WCL, WB, WC, WD, WEE, WTY, WRE, WF, WH, Int.zero_add, Int.reduceToNat, Int.reducePow, Nat.reduceBEq, Nat.reduceAdd, Nat.reduceSub, Nat.reduceMul, Nat.reduceEqDiff, Int.reduceAdd, Int.reduceSub, Int.reduceMul, Int.reduceNeg, Int.reduceEq, Int.reduceLT, Int.reduceLE, Int.cast_ofNat_Int, Int.natCast_one, Int.natCast_zero])
          exact h1 (decide_eq_true hh) _ rfl
        · rw [decide_eq_false hh] at tb
          refine ⟨_, tb, ?_⟩
          (try simp -dsimp (disch := first | omega | assumption | (refine id ?_; with_unfolding_all exact Eq.refl true) | (and_intros <;> first | assumption | omega | with_unfolding_all exact Eq.refl true | with_unfolding_all exact le1 (Eq.refl true)) | (simp only [WLEN]; omega) | fail) only [↓WA, ↓dCL_c, ↓WRV, ↓dPar3_w, ↓dSD_w, ↓WS, ↓WM, ↓WG, WCL, WB, WC, WD, WEE, WTY, WRE, WF, WH, Int.zero_add, Int.reduceToNat, Int.reducePow, Nat.reduceBEq, Nat.reduceAdd, Nat.reduceSub, Nat.reduceMul, Nat.reduceEqDiff, Int.reduceAdd, Int.reduceSub, Int.reduceMul, Int.reduceNeg, Int.reduceEq, Int.reduceLT, Int.reduceLE, Int.cast_ofNat_Int, Int.natCast_one, Int.natCast_zero])
          exact h2 (decide_eq_false hh) _ rfl
      rw [List.nil_append]
      exact hK _ rfl
  rintro _ rfl
  have okA := ax_ok ok
  have GA := isG_l2 (xs := axL p O) (fun n hn => by have := okA.lt n hn; omega) (by have := okA.len; omega)
  refine blk_w (fun ρ => ρ = lapE ns (.val (.int q2)) (.val (.tup [.int p, .tup (O.map .int)])) (.val (.int p)) (.val (.tup (O.map .int))) (.val (.int (perO p O : Nat))) (.val (.lst ((axL p O).map .int))) x8 x9 (G + 10)) (fun K hK => ?_) ?_
  · unfold lapE at hK ⊢
    have ni : inD true (.int (axL p O).length) (.lst [.int 0, .int (p / (perO p O : Nat))]) = some (.bl false) := by
      have e : ∀ n a b : Int, inD true (.int n) (.lst [.int a, .int b]) = some (.bl (!(decide (a = n) || (decide (b = n) || false)))) := fun _ _ _ => rfl
      rw [e]
      rcases al with h | h
      · rw [h, decide_eq_true rfl]; rfl
      · rw [h, decide_eq_true (rfl : p / (perO p O : Nat) = p / (perO p O : Nat)), Bool.true_or, Bool.or_true]; rfl
    (try simp -dsimp (disch := first | omega | assumption | (refine id ?_; with_unfolding_all exact Eq.refl true) | (and_intros <;> first | assumption | omega | with_unfolding_all exact Eq.refl true | with_unfolding_all exact le1 (Eq.refl true)) | (simp only [WLEN]; omega) | fail) only [↓WA, ↓dCL_c, ↓WRV, ↓dPar3_w, ↓dSD_w, ↓WS, ↓WM, ↓WG, WCL, WB, WC, WD, WEE, WTY, WRE, WF, WH, Int.zero_add, Int.reduceToNat, Int.reducePow, Nat.reduceBEq, Nat.reduceAdd, Nat.reduceSub, Nat.reduceMul, Nat.reduceEqDiff, Int.reduceAdd, Int.reduceSub, Int.reduceMul, Int.reduceNeg, Int.reduceEq, Int.reduceLT, Int.reduceLE, Int.cast_ofNat_Int, Int.natCast_one, Int.natCast_zero, er, pr, rt, GA, ni])
    exact hK _ rfl
  rintro _ rfl
  refine blk_w (fun ρ => ∃ b : Int, (0 ≤ b ∧ b < p) ∧ ρ = lapE ns (.val (.int q2)) (.val (.tup [.int p, .tup (O.map .int)])) (.val (.int p)) (.val (.tup (O.map .int))) (.val (.int (perO p O : Nat))) (.val (.lst ((axL p O).map .int))) (.val (.int b)) x9 (G + 9)) (fun K hK => ?_) ?_
  · unfold lapE at hK ⊢
    (try simp -dsimp (disch := first | omega | assumption | (refine id ?_; with_unfolding_all exact Eq.refl true) | (and_intros <;> first | assumption | omega | with_unfolding_all exact Eq.refl true | with_unfolding_all exact le1 (Eq.refl true)) | (simp only [WLEN]; omega) | fail) only [↓WA, ↓dCL_c, ↓WRV, ↓dPar3_w, ↓dSD_w, ↓WS, ↓WM, ↓WG, WCL, WB, WC, WD, WEE, WTY, WRE, WF, WH, Int.zero_add, Int.reduceToNat, Int.reducePow, Nat.reduceBEq, Nat.reduceAdd, Nat.reduceSub, Nat.reduceMul, Nat.reduceEqDiff, Int.reduceAdd, Int.reduceSub, Int.reduceMul, Int.reduceNeg, Int.reduceEq, Int.reduceLT, Int.reduceLE, Int.cast_ofNat_Int, Int.natCast_one, Int.natCast_zero])
    intro b b0 b1
    (try simp -dsimp (disch := first | omega | assumption | (refine id ?_; with_unfolding_all exact Eq.refl true) | (and_intros <;> first | assumption | omega | with_unfolding_all exact Eq.refl true | with_unfolding_all exact le1 (Eq.refl true)) | (simp only [WLEN]; omega) | fail) only [↓WA, ↓dCL_c, ↓WRV, ↓dPar3_w, ↓dSD_w, ↓WS, ↓WM, ↓WG, WCL, WB, WC, WD, WEE, WTY, WRE, WF, WH, Int.zero_add, Int.reduceToNat, Int.reducePow, Nat.reduceBEq, Nat.reduceAdd, Nat.reduceSub, Nat.reduceMul, Nat.reduceEqDiff, Int.reduceAdd, Int.reduceSub, Int.reduceMul, Int.reduceNeg, Int.reduceEq, Int.reduceLT, Int.reduceLE, Int.cast_ofNat_Int, Int.natCast_one, Int.natCast_zero])
    exact hK _ ⟨b, ⟨b0, b1⟩, rfl⟩
  rintro _ ⟨b, ⟨b0, b1⟩, rfl⟩
  have okT := turn_ok (b := b) ok
  have okM := mir_ok (b := b) ok
  have erT := isRd_ok okT
  have prT := rd_pl p (turnL p O b)
  have rtT := rdOf_t p (turnL p O b)
  have erM := isRd_ok okM
  have prM := rd_pl p (mirL p O b)
  have rtM := rdOf_t p (mirL p O b)
  have pT := per_turn ok b
  have pM := per_mir ok b
  have aT := ax_turn ok b
  refine blk_w (fun ρ => ρ = lapE ns (.val (.int q2)) (.val (.tup [.int p, .tup (O.map .int)])) (.val (.int p)) (.val (.tup (O.map .int))) (.val (.int (perO p O : Nat))) (.val (.lst ((axL p O).map .int))) (.val (.int b)) x9 (G + 9)) (fun K hK => ?_) ?_
  · unfold lapE at hK ⊢
    (try simp -dsimp (disch := first | omega | assumption | (refine id ?_; with_unfolding_all exact Eq.refl true) | (and_intros <;> first | assumption | omega | with_unfolding_all exact Eq.refl true | with_unfolding_all exact le1 (Eq.refl true)) | (simp only [WLEN]; omega) | fail) only [↓WA, ↓dCL_c, ↓WRV, ↓dPar3_w, ↓dSD_w, ↓WS, ↓WM, ↓WG, WCL, WB, WC, WD, WEE, WTY, WRE, WF, WH, Int.zero_add, Int.reduceToNat, Int.reducePow, Nat.reduceBEq, Nat.reduceAdd, Nat.reduceSub, Nat.reduceMul, Nat.reduceEqDiff, Int.reduceAdd, Int.reduceSub, Int.reduceMul, Int.reduceNeg, Int.reduceEq, Int.reduceLT, Int.reduceLE, Int.cast_ofNat_Int, Int.natCast_one, Int.natCast_zero, asInts_map, ok, erT, prT, rtT, erM, prM, rtM, pT, pM, G2])
    exact hK _ rfl
  rintro _ rfl
  refine blk_w (fun ρ => ρ = lapE ns (.val (.int q2)) (.val (.tup [.int p, .tup (O.map .int)])) (.val (.int p)) (.val (.tup (O.map .int))) (.val (.int (perO p O : Nat))) (.val (.lst ((axL p O).map .int))) (.val (.int b)) x9 (G + 9)) (fun K hK => ?_) ?_
  · unfold lapE at hK ⊢
    have al : (axL p (turnL p O b)).length = (axL p O).length := by
      rw [aT, (isort_perm _).length_eq, List.length_map]
    have on := oNe_ints (axL p (turnL p O b)) (isort ((axL p O).map fun o => (o + 2 * b) % p))
    rw [decide_eq_true aT] at on
    have bs := bSorted_w (ns := (axL p O).map fun o => (o + 2 * b) % p)
    (try simp -dsimp (disch := first | omega | assumption | (refine id ?_; with_unfolding_all exact Eq.refl true) | (and_intros <;> first | assumption | omega | with_unfolding_all exact Eq.refl true | with_unfolding_all exact le1 (Eq.refl true)) | (simp only [WLEN]; omega) | fail) only [↓WA, ↓dCL_c, ↓WRV, ↓dPar3_w, ↓dSD_w, ↓WS, ↓WM, ↓WG, WCL, WB, WC, WD, WEE, WTY, WRE, WF, WH, Int.zero_add, Int.reduceToNat, Int.reducePow, Nat.reduceBEq, Nat.reduceAdd, Nat.reduceSub, Nat.reduceMul, Nat.reduceEqDiff, Int.reduceAdd, Int.reduceSub, Int.reduceMul, Int.reduceNeg, Int.reduceEq, Int.reduceLT, Int.reduceLE, Int.cast_ofNat_Int, Int.natCast_one, Int.natCast_zero, asInts_map, ok, erT, prT, rtT, al])
    refine dCL_mg .int (fun o => .int ((o + 2 * b) % p)) (axL p O) [] (fun o ho K hK => ?_) ?_
    · (try simp -dsimp (disch := first | omega | assumption | (refine id ?_; with_unfolding_all exact Eq.refl true) | (and_intros <;> first | assumption | omega | with_unfolding_all exact Eq.refl true | with_unfolding_all exact le1 (Eq.refl true)) | (simp only [WLEN]; omega) | fail) only [↓WA, ↓dCL_c, ↓WRV, ↓dPar3_w, ↓dSD_w, ↓WS, ↓WM, ↓WG, WCL, WB, WC, WD, WEE, WTY, WRE, WF, WH, Int.zero_add, Int.reduceToNat, Int.reducePow, Nat.reduceBEq, Nat.reduceAdd, Nat.reduceSub, Nat.reduceMul, Nat.reduceEqDiff, Int.reduceAdd, Int.reduceSub, Int.reduceMul, Int.reduceNeg, Int.reduceEq, Int.reduceLT, Int.reduceLE, Int.cast_ofNat_Int, Int.natCast_one, Int.natCast_zero])
      exact hK _ rfl
    rw [List.nil_append, show (axL p O).map (fun o => D.int ((o + 2 * b) % p)) = ((axL p O).map fun o => (o + 2 * b) % p).map .int by rw [List.map_map]; rfl]
    refine oe_i bs ?_
    refine ⟨_, rfl, _, rfl, ?_⟩
    refine oe_i on ?_
    refine ⟨_, rfl, ?_⟩
    show wif false _ _
    rw [wif_f]
    exact hK _ rfl
  rintro _ rfl
  refine blk_w (fun ρ => ∃ d : D, (d.pl = true ∧ isRd d = false) ∧ ρ = lapE ns (.val (.int q2)) (.val (.tup [.int p, .tup (O.map .int)])) (.val (.int p)) (.val (.tup (O.map .int))) (.val (.int (perO p O : Nat))) (.val (.lst ((axL p O).map .int))) (.val (.int b)) (.val d) (G + 8)) (fun K hK => ?_) ?_
  · unfold lapE at hK ⊢
    (try simp -dsimp (disch := first | omega | assumption | (refine id ?_; with_unfolding_all exact Eq.refl true) | (and_intros <;> first | assumption | omega | with_unfolding_all exact Eq.refl true | with_unfolding_all exact le1 (Eq.refl true)) | (simp only [WLEN]; omega) | fail) only [↓WA, ↓dCL_c, ↓WRV, ↓dPar3_w, ↓dSD_w, ↓WS, ↓WM, ↓WG, WCL, WB, WC, WD, WEE, WTY, WRE, WF, WH, Int.zero_add, Int.reduceToNat, Int.reducePow, Nat.reduceBEq, Nat.reduceAdd, Nat.reduceSub, Nat.reduceMul, Nat.reduceEqDiff, Int.reduceAdd, Int.reduceSub, Int.reduceMul, Int.reduceNeg, Int.reduceEq, Int.reduceLT, Int.reduceLE, Int.cast_ofNat_Int, Int.natCast_one, Int.natCast_zero])
    intro d hd
    (try simp -dsimp (disch := first | omega | assumption | (refine id ?_; with_unfolding_all exact Eq.refl true) | (and_intros <;> first | assumption | omega | with_unfolding_all exact Eq.refl true | with_unfolding_all exact le1 (Eq.refl true)) | (simp only [WLEN]; omega) | fail) only [↓WA, ↓dCL_c, ↓WRV, ↓dPar3_w, ↓dSD_w, ↓WS, ↓WM, ↓WG, WCL, WB, WC, WD, WEE, WTY, WRE, WF, WH, Int.zero_add, Int.reduceToNat, Int.reducePow, Nat.reduceBEq, Nat.reduceAdd, Nat.reduceSub, Nat.reduceMul, Nat.reduceEqDiff, Int.reduceAdd, Int.reduceSub, Int.reduceMul, Int.reduceNeg, Int.reduceEq, Int.reduceLT, Int.reduceLE, Int.cast_ofNat_Int, Int.natCast_one, Int.natCast_zero])
    exact hK _ ⟨d, hd, rfl⟩
  rintro _ ⟨d, ⟨d1, d2⟩, rfl⟩
  have is1 : oIsI (isC 1) (.exc 1 []) = some (.bl true) := rfl
  unfold lapE
  (try simp -dsimp (disch := first | omega | assumption | (refine id ?_; with_unfolding_all exact Eq.refl true) | (and_intros <;> first | assumption | omega | with_unfolding_all exact Eq.refl true | with_unfolding_all exact le1 (Eq.refl true)) | (simp only [WLEN]; omega) | fail) only [↓WA, ↓dCL_c, ↓WRV, ↓dPar3_w, ↓dSD_w, ↓WS, ↓WM, ↓WG, WCL, WB, WC, WD, WEE, WTY, WRE, WF, WH, Int.zero_add, Int.reduceToNat, Int.reducePow, Nat.reduceBEq, Nat.reduceAdd, Nat.reduceSub, Nat.reduceMul, Nat.reduceEqDiff, Int.reduceAdd, Int.reduceSub, Int.reduceMul, Int.reduceNeg, Int.reduceEq, Int.reduceLT, Int.reduceLE, Int.cast_ofNat_Int, Int.natCast_one, Int.natCast_zero, d1, d2, is1])
  exact hK _ _ _ _ _ _ _ (G + 8) rfl (by omega)
theorem sem_law (ns : List Int) (h : ns.length ≤ 63) : d_law ((startE N_law.length 100000 [.scr ns]).set 1 (.val .st)) ⟨fun _ => False, fun r => r = .bl true, fun _ => False, fun _ => False, fun _ _ => False⟩ := by
  show d_law (lapE ns .un .un .un .un .un .un .un .un 100000) _
  unfold d_law
  have bl : bLen [.scr ns] = some (.int ns.length) := rfl
  unfold lapE
  (try simp -dsimp (disch := first | omega | assumption | (refine id ?_; with_unfolding_all exact Eq.refl true) | (and_intros <;> first | assumption | omega | with_unfolding_all exact Eq.refl true | with_unfolding_all exact le1 (Eq.refl true)) | (simp only [WLEN]; omega) | fail) only [↓WA, ↓dCL_c, ↓WRV, ↓dPar3_w, ↓dSD_w, ↓WS, ↓WM, ↓WG, WCL, WB, WC, WD, WEE, WTY, WRE, WF, WH, Int.zero_add, Int.reduceToNat, Int.reducePow, Nat.reduceBEq, Nat.reduceAdd, Nat.reduceSub, Nat.reduceMul, Nat.reduceEqDiff, Int.reduceAdd, Int.reduceSub, Int.reduceMul, Int.reduceNeg, Int.reduceEq, Int.reduceLT, Int.reduceLE, Int.cast_ofNat_Int, Int.natCast_one, Int.natCast_zero, bl])
  refine dFL_ind (fun k ρ => ∃ (x2 x3 x4 x5 x6 x7 x8 x9 : SV) (fu : Nat), okS x8 = true ∧ ρ = lapE ns x2 x3 x4 x5 x6 x7 x8 x9 fu ∧ 100000 ≤ fu + 500 * k) _ 0 _ ⟨.un, .un, .un, .un, .un, .un, .un, .un, 100000, rfl, rfl, by decide⟩ ?_ ?_
  · rintro i x _ K1 hx ⟨x2, x3, x4, x5, x6, x7, x8, x9, fu, ok8, rfl, hf⟩ hK1
    obtain ⟨rfl, hi⟩ := rng_at hx
    have hi : i < 20 := by omega
    exact ⟨_, rfl, lap_ok ns _ x3 x4 x5 x6 x7 x8 x9 fu ok8 (by omega) K1 _ fun x3 x4 x5 x6 x7 x8 x9 fu' ok8' hfu => hK1 _ ⟨_, _, _, _, _, _, _, _, _, ok8', rfl, by omega⟩⟩
  · rintro ρ ⟨x2, x3, x4, x5, x6, x7, x8, x9, fu, ok8, rfl, hf⟩
    unfold lapE
    (try simp -dsimp (disch := first | omega | assumption | (refine id ?_; with_unfolding_all exact Eq.refl true) | (and_intros <;> first | assumption | omega | with_unfolding_all exact Eq.refl true | with_unfolding_all exact le1 (Eq.refl true)) | (simp only [WLEN]; omega) | fail) only [↓WA, ↓dCL_c, ↓WRV, ↓dPar3_w, ↓dSD_w, ↓WS, ↓WM, ↓WG, WCL, WB, WC, WD, WEE, WTY, WRE, WF, WH, Int.zero_add, Int.reduceToNat, Int.reducePow, Nat.reduceBEq, Nat.reduceAdd, Nat.reduceSub, Nat.reduceMul, Nat.reduceEqDiff, Int.reduceAdd, Int.reduceSub, Int.reduceMul, Int.reduceNeg, Int.reduceEq, Int.reduceLT, Int.reduceLE, Int.cast_ofNat_Int, Int.natCast_one, Int.natCast_zero])

end K03
namespace K03
open PySem PySem.Spec PyProof.Rows L2 DL
theorem ok_is_integer {P : Program} {w : World} {K : PySem.W.Frag} {mg : Str → Option Value} {base : Heap} {cA : Nat → Addr} {fa : Addr} {fd : FuncData} (F : Fun K "is_integer" "is_integer" s_is_integer fa fd) (BB : BT mg btL)  : FnG P w K mg base 3 fa fd ["value"] (liftSp ⟨K, cA, flD⟩ 1 0 sp_is_integer) := fn_ok (k := 0) 0 F fs_is_integer (by decide) (fun cdv A outer s H E W B hr C => wk_is_integer BB  hr C) sem_is_integer
theorem ok_is_between {P : Program} {w : World} {K : PySem.W.Frag} {mg : Str → Option Value} {base : Heap} {cA : Nat → Addr} {fa : Addr} {fd : FuncData} (F : Fun K "is_between" "is_between" s_is_between fa fd) (BB : BT mg btL) (T_is_integer : FT P w K mg base ⟨K, cA, flD⟩ "is_integer" ["value"] 3 0 sp_is_integer kws_is_integer) : FnG P w K mg base 4 fa fd ["value", "low", "high"] (liftSp ⟨K, cA, flD⟩ 3 0 sp_is_between) := fn_ok (k := 1) 0 F fs_is_between (by decide) (fun cdv A outer s H E W B hr C => wk_is_between BB T_is_integer hr C) sem_is_between
theorem ok_is_rising {P : Program} {w : World} {K : PySem.W.Frag} {mg : Str → Option Value} {base : Heap} {cA : Nat → Addr} {fa : Addr} {fd : FuncData} (F : Fun K "is_rising" "is_rising" s_is_rising fa fd) (BB : BT mg btL)  : FnG P w K mg base 3 fa fd ["values"] (liftSp ⟨K, cA, flD⟩ 1 0 sp_is_rising) := fn_ok (k := 0) 0 F fs_is_rising (by decide) (fun cdv A outer s H E W B hr C => wk_is_rising BB  hr C) sem_is_rising
theorem ok_is_round {P : Program} {w : World} {K : PySem.W.Frag} {mg : Str → Option Value} {base : Heap} {cA : Nat → Addr} {fa : Addr} {fd : FuncData} (F : Fun K "is_round" "is_round" s_is_round fa fd) (BB : BT mg btL) (c_MOST_PULSES : ∃ t, mg "MOST_PULSES" = some (.int 240 t)) (T_is_between : FT P w K mg base ⟨K, cA, flD⟩ "is_between" ["value", "low", "high"] 4 0 sp_is_between kws_is_between) (T_is_rising : FT P w K mg base ⟨K, cA, flD⟩ "is_rising" ["values"] 3 0 sp_is_rising kws_is_rising) : FnG P w K mg base 5 fa fd ["thing"] (liftSp ⟨K, cA, flD⟩ 1 0 sp_is_round) := fn_ok (k := 2) 0 F fs_is_round (by decide) (fun cdv A outer s H E W B hr C => wk_is_round BB c_MOST_PULSES T_is_between T_is_rising hr C) sem_is_round
theorem ok_need_round {P : Program} {w : World} {K : PySem.W.Frag} {mg : Str → Option Value} {base : Heap} {cA : Nat → Addr} {fa : Addr} {fd : FuncData} (F : Fun K "need_round" "need_round" s_need_round fa fd) (BB : BT mg btL) (T_is_round : FT P w K mg base ⟨K, cA, flD⟩ "is_round" ["thing"] 5 0 sp_is_round kws_is_round) (e_BadRound : ErrTT K mg ⟨K, cA, flD⟩ "BadRound" 1) : FnG P w K mg base 6 fa fd ["thing"] (liftSp ⟨K, cA, flD⟩ 1 0 sp_need_round) := fn_ok (k := 3) 0 F fs_need_round (by decide) (fun cdv A outer s H E W B hr C => wk_need_round BB T_is_round e_BadRound hr C) sem_need_round
theorem ok_mirrored_by {P : Program} {w : World} {K : PySem.W.Frag} {mg : Str → Option Value} {base : Heap} {cA : Nat → Addr} {fa : Addr} {fd : FuncData} (F : Fun K "mirrored_by" "mirrored_by" s_mirrored_by fa fd) (BB : BT mg btL)  : FnG P w K mg base 3 fa fd ["circle", "by"] (liftSp ⟨K, cA, flD⟩ 2 0 sp_mirrored_by) := fn_ok (k := 0) 0 F fs_mirrored_by (by decide) (fun cdv A outer s H E W B hr C => wk_mirrored_by BB  hr C) sem_mirrored_by
theorem ok_word_by {P : Program} {w : World} {K : PySem.W.Frag} {mg : Str → Option Value} {base : Heap} {cA : Nat → Addr} {fa : Addr} {fd : FuncData} (F : Fun K "word_by" "word_by" s_word_by fa fd) (BB : BT mg btL)  : FnG P w K mg base 3 fa fd ["circle"] (liftSp ⟨K, cA, flD⟩ 1 0 sp_word_by) := fn_ok (k := 0) 0 F fs_word_by (by decide) (fun cdv A outer s H E W B hr C => wk_word_by BB  hr C) sem_word_by
theorem ok_period_of {P : Program} {w : World} {K : PySem.W.Frag} {mg : Str → Option Value} {base : Heap} {cA : Nat → Addr} {fa : Addr} {fd : FuncData} (F : Fun K "period_of" "period_of" s_period_of fa fd) (BB : BT mg btL)  : FnG P w K mg base 3 fa fd ["word"] (liftSp ⟨K, cA, flD⟩ 1 0 sp_period_of) := fn_ok (k := 0) 0 F fs_period_of (by decide) (fun cdv A outer s H E W B hr C => wk_period_of BB  hr C) sem_period_of
theorem ok_period {P : Program} {w : World} {K : PySem.W.Frag} {mg : Str → Option Value} {base : Heap} {cA : Nat → Addr} {fa : Addr} {fd : FuncData} (F : Fun K "period" "period" s_period fa fd) (BB : BT mg btL) (T_need_round : FT P w K mg base ⟨K, cA, flD⟩ "need_round" ["thing"] 6 0 sp_need_round kws_need_round) (T_period_of : FT P w K mg base ⟨K, cA, flD⟩ "period_of" ["word"] 3 0 sp_period_of kws_period_of) (T_word_by : FT P w K mg base ⟨K, cA, flD⟩ "word_by" ["circle"] 3 0 sp_word_by kws_word_by) : FnG P w K mg base 7 fa fd ["circle"] (liftSp ⟨K, cA, flD⟩ 1 0 sp_period) := fn_ok (k := 4) 0 F fs_period (by decide) (fun cdv A outer s H E W B hr C => wk_period BB T_need_round T_period_of T_word_by hr C) sem_period
theorem ok_axes {P : Program} {w : World} {K : PySem.W.Frag} {mg : Str → Option Value} {base : Heap} {cA : Nat → Addr} {fa : Addr} {fd : FuncData} (F : Fun K "axes" "axes" s_axes fa fd) (BB : BT mg btL) (T_mirrored_by : FT P w K mg base ⟨K, cA, flD⟩ "mirrored_by" ["circle", "by"] 3 0 sp_mirrored_by kws_mirrored_by) (T_need_round : FT P w K mg base ⟨K, cA, flD⟩ "need_round" ["thing"] 6 0 sp_need_round kws_need_round) : FnG P w K mg base 7 fa fd ["circle"] (liftSp ⟨K, cA, flD⟩ 1 0 sp_axes) := fn_ok (k := 4) 0 F fs_axes (by decide) (fun cdv A outer s H E W B hr C => wk_axes BB T_mirrored_by T_need_round hr C) sem_axes
theorem ok__law_mixed {P : Program} {w : World} {K : PySem.W.Frag} {mg : Str → Option Value} {base : Heap} {cA : Nat → Addr} {fa : Addr} {fd : FuncData} (F : Fun K "_law_mixed" "_law_mixed" s__law_mixed fa fd) (BB : BT mg btL)  : FnG P w K mg base 3 fa fd ["state"] (liftSp ⟨K, cA, flD⟩ 1 1 sp__law_mixed) := fn_okB (k := 0) 1 F fs__law_mixed (by decide) (fun cdv A outer s H E W B hr C => wk__law_mixed BB  hr C) sem__law_mixed
theorem ok__law_draw {P : Program} {w : World} {K : PySem.W.Frag} {mg : Str → Option Value} {base : Heap} {cA : Nat → Addr} {fa : Addr} {fd : FuncData} (F : Fun K "_law_draw" "_law_draw" s__law_draw fa fd) (BB : BT mg btL) (T__law_mixed : FT P w K mg base ⟨K, cA, flD⟩ "_law_mixed" ["state"] 3 1 sp__law_mixed kws__law_mixed) : FnG P w K mg base 4 fa fd ["state", "room"] (liftSp ⟨K, cA, flD⟩ 2 1 sp__law_draw) := fn_ok (k := 1) 1 F fs__law_draw (by decide) (fun cdv A outer s H E W B hr C => wk__law_draw BB T__law_mixed hr C) sem__law_draw
theorem ok__law_pick {P : Program} {w : World} {K : PySem.W.Frag} {mg : Str → Option Value} {base : Heap} {cA : Nat → Addr} {fa : Addr} {fd : FuncData} (F : Fun K "_law_pick" "_law_pick" s__law_pick fa fd) (BB : BT mg btL) (T__law_draw : FT P w K mg base ⟨K, cA, flD⟩ "_law_draw" ["state", "room"] 4 1 sp__law_draw kws__law_draw) : FnG P w K mg base 5 fa fd ["state", "some"] (liftSp ⟨K, cA, flD⟩ 2 1 sp__law_pick) := fn_ok (k := 2) 1 F fs__law_pick (by decide) (fun cdv A outer s H E W B hr C => wk__law_pick BB T__law_draw hr C) sem__law_pick
theorem ok__law_plain {P : Program} {w : World} {K : PySem.W.Frag} {mg : Str → Option Value} {base : Heap} {cA : Nat → Addr} {fa : Addr} {fd : FuncData} (F : Fun K "_law_plain" "_law_plain" s__law_plain fa fd) (BB : BT mg btL) (hm : mg "_law_plain" = some (.ref fa)) (b : Binds K fd ["value"] []) (kt : KwOk K fd ["value"] kws__law_plain)  : ∀ j : Nat, FT P w K mg base ⟨K, cA, flD⟩ "_law_plain" ["value"] (j + 3) 0 (spP j) kws__law_plain
  | 0 => ft_mk (fn_never rfl) hm F.kp b kt
  | j + 1 => ft_mk (fn_ok (k := j + 1) 0 F fs__law_plain (by decide) (fun cdv A outer s H E W B hr C => wk__law_plain (k := j) BB (ok__law_plain F BB hm b kt  j) hr C) (sem__law_plain j)) hm F.kp b kt
theorem ok__law_is {P : Program} {w : World} {K : PySem.W.Frag} {mg : Str → Option Value} {base : Heap} {cA : Nat → Addr} {fa : Addr} {fd : FuncData} (F : Fun K "_law_is" "_law_is" s__law_is fa fd) (BB : BT mg btL) (T__law_plain : FT P w K mg base ⟨K, cA, flD⟩ "_law_plain" ["value"] 12 0 sp__law_plain kws__law_plain) : FnG P w K mg base 13 fa fd ["found", "due"] (liftSp ⟨K, cA, flD⟩ 2 0 sp__law_is) := fn_ok (k := 10) 0 F fs__law_is (by decide) (fun cdv A outer s H E W B hr C => wk__law_is BB T__law_plain hr C) sem__law_is
theorem ok__law_round {P : Program} {w : World} {K : PySem.W.Frag} {mg : Str → Option Value} {base : Heap} {cA : Nat → Addr} {fa : Addr} {fd : FuncData} (F : Fun K "_law_round" "_law_round" s__law_round fa fd) (BB : BT mg btL) (T__law_draw : FT P w K mg base ⟨K, cA, flD⟩ "_law_draw" ["state", "room"] 4 1 sp__law_draw kws__law_draw) (T__law_pick : FT P w K mg base ⟨K, cA, flD⟩ "_law_pick" ["state", "some"] 5 1 sp__law_pick kws__law_pick) : FnG P w K mg base 6 fa fd ["state", "most"] (liftSp ⟨K, cA, flD⟩ 2 300 sp__law_round) := fn_ok (k := 3) 300 F fs__law_round (by decide) (fun cdv A outer s H E W B hr C => wk__law_round BB T__law_draw T__law_pick hr C) sem__law_round
theorem ok__law_turned {P : Program} {w : World} {K : PySem.W.Frag} {mg : Str → Option Value} {base : Heap} {cA : Nat → Addr} {fa : Addr} {fd : FuncData} (F : Fun K "_law_turned" "_law_turned" s__law_turned fa fd) (BB : BT mg btL)  : FnG P w K mg base 3 fa fd ["circle", "by"] (liftSp ⟨K, cA, flD⟩ 2 0 sp__law_turned) := fn_ok (k := 0) 0 F fs__law_turned (by decide) (fun cdv A outer s H E W B hr C => wk__law_turned BB  hr C) sem__law_turned
theorem ok__law_mirrored {P : Program} {w : World} {K : PySem.W.Frag} {mg : Str → Option Value} {base : Heap} {cA : Nat → Addr} {fa : Addr} {fd : FuncData} (F : Fun K "_law_mirrored" "_law_mirrored" s__law_mirrored fa fd) (BB : BT mg btL)  : FnG P w K mg base 3 fa fd ["circle", "by"] (liftSp ⟨K, cA, flD⟩ 2 0 sp__law_mirrored) := fn_ok (k := 0) 0 F fs__law_mirrored (by decide) (fun cdv A outer s H E W B hr C => wk__law_mirrored BB  hr C) sem__law_mirrored
theorem ok__law_odd_round {P : Program} {w : World} {K : PySem.W.Frag} {mg : Str → Option Value} {base : Heap} {cA : Nat → Addr} {fa : Addr} {fd : FuncData} (F : Fun K "_law_odd_round" "_law_odd_round" s__law_odd_round fa fd) (BB : BT mg btL) (T__law_pick : FT P w K mg base ⟨K, cA, flD⟩ "_law_pick" ["state", "some"] 5 1 sp__law_pick kws__law_pick) : FnG P w K mg base 6 fa fd ["state"] (liftSp ⟨K, cA, flD⟩ 1 1 sp__law_odd_round) := fn_ok (k := 3) 1 F fs__law_odd_round (by decide) (fun cdv A outer s H E W B hr C => wk__law_odd_round BB T__law_pick hr C) sem__law_odd_round
abbrev s__law_begun : Stmt := topS 18
abbrev s__law_caught : Stmt := topS 24
def N__law_begun : List Str := ["script", "great", "cell"]
theorem fs__law_begun : FnScope N__law_begun ["script"] (defScope s__law_begun) := ⟨rfl, rfl, rfl, by decide +kernel, rfl, by decide +kernel, by decide +kernel⟩
theorem ok__law_begun {P : Program} {w : World} {K : PySem.W.Frag} {mg : Str → Option Value} {base : Heap} {cA : Nat → Addr} {fa : Addr} {fd : FuncData} (F : Fun K "_law_begun" "_law_begun" s__law_begun fa fd) (BB : BT mg btL) : FnG P w K mg base 5 fa fd ["script"] (liftB ⟨K, cA, flD⟩) :=
 begun_ok (d1 := d1__law_begun) (d2 := d2__law_begun) F fs__law_begun rfl rfl (.inl rfl) rfl
 (fun cdv A outer s H E W B C => (js_lc C (i := 1) rfl rfl rfl (own := [("cell", 2)]) (ji_seq C (je_var (pv 0))) (blkOk_by (by rfl)) (fun _ _ _ _ _ _ => (jg_name (pg_name C.nd (i := 2) rfl (by first | exact .inl rfl | exact .inr rfl)))) (fun _ _ _ _ _ _ => (jts_one (jt_cmpP op_ge ok_ge (jpb (je_bOP (fs := [(rd 2)]) (bo_abs C.blk BB) rfl (jb_cons (jb_own (pv 2)) ja_nil))) (jpb (je_opP op_pow ok_pow (jpb je_int) (jpb je_int))) (nomark _)))) (fun _ _ _ _ _ _ => (je_opP op_sub ok_sub (jpb (je_bOP (fs := [(rd 2)]) (bo_abs C.blk BB) rfl (jb_cons (jb_own (pv 2)) ja_nil))) (jpb (je_opP op_pow ok_pow (jpb je_int) (jpb je_int)))))))
 (fun cdv A outer s H E W B h0 C => (jf_lc C (own := [("cell", 2)]) (ji_seq C (je_var (pv 0))) (blkOk_by (by rfl)) (fun _ _ _ _ _ _ => (jg_name (pg_name C.nd (i := 2) rfl (by first | exact .inl rfl | exact .inr rfl)))) (fun _ _ _ _ _ _ => jts_nil) (fun _ _ _ _ _ _ => (je_bOP (fs := [(rd 2)]) (bo_abs C.blk BB) rfl (jb_cons (jb_own (pv 2)) ja_nil))))) sem1__law_begun sem2__law_begun
def cAof (C_RhythmError C_BadRound : Addr) : Nat → Addr
  | 0 => C_RhythmError
  | _ => C_BadRound
set_option maxHeartbeats 4000000 in
theorem all_mk {w : World} {K : PySem.W.Frag} {h : Heap} {mg : Str → Option Value} {fa : Addr} (X : K.In h) (G : h.Ns mainGlobals mg) (hfa : mg "law" = some (.ref fa)) (own : LamX.OwnTab K fa h)
    {f_is_integer : Addr}
    {od_is_integer an_is_integer : Option Addr}
    {sl_is_integer : Array (Option Value)}
    {oc_is_integer kV_is_integer dc_is_integer pm_is_integer ct_is_integer : Value}
    {cd_is_integer : Value}
    {f_is_between : Addr}
    {od_is_between an_is_between : Option Addr}
    {sl_is_between : Array (Option Value)}
    {oc_is_between kV_is_between dc_is_between pm_is_between ct_is_between : Value}
    {cd_is_between : Value}
    {f_is_rising : Addr}
    {od_is_rising an_is_rising : Option Addr}
    {sl_is_rising : Array (Option Value)}
    {oc_is_rising kV_is_rising dc_is_rising pm_is_rising ct_is_rising : Value}
    {cd_is_rising : Value}
    {f_is_round : Addr}
    {od_is_round an_is_round : Option Addr}
    {sl_is_round : Array (Option Value)}
    {oc_is_round kV_is_round dc_is_round pm_is_round ct_is_round : Value}
    {cd_is_round : Value}
    {f_need_round : Addr}
    {od_need_round an_need_round : Option Addr}
    {sl_need_round : Array (Option Value)}
    {oc_need_round kV_need_round dc_need_round pm_need_round ct_need_round : Value}
    {cd_need_round : Value}
    {f_mirrored_by : Addr}
    {od_mirrored_by an_mirrored_by : Option Addr}
    {sl_mirrored_by : Array (Option Value)}
    {oc_mirrored_by kV_mirrored_by dc_mirrored_by pm_mirrored_by ct_mirrored_by : Value}
    {cd_mirrored_by : Value}
    {f_word_by : Addr}
    {od_word_by an_word_by : Option Addr}
    {sl_word_by : Array (Option Value)}
    {oc_word_by kV_word_by dc_word_by pm_word_by ct_word_by : Value}
    {cd_word_by : Value}
    {f_period_of : Addr}
    {od_period_of an_period_of : Option Addr}
    {sl_period_of : Array (Option Value)}
    {oc_period_of kV_period_of dc_period_of pm_period_of ct_period_of : Value}
    {cd_period_of : Value}
    {f_period : Addr}
    {od_period an_period : Option Addr}
    {sl_period : Array (Option Value)}
    {oc_period kV_period dc_period pm_period ct_period : Value}
    {cd_period : Value}
    {f_axes : Addr}
    {od_axes an_axes : Option Addr}
    {sl_axes : Array (Option Value)}
    {oc_axes kV_axes dc_axes pm_axes ct_axes : Value}
    {cd_axes : Value}
    {f__law_mixed : Addr}
    {od__law_mixed an__law_mixed : Option Addr}
    {sl__law_mixed : Array (Option Value)}
    {oc__law_mixed kV__law_mixed dc__law_mixed pm__law_mixed ct__law_mixed : Value}
    {cd__law_mixed : Value}
    {f__law_draw : Addr}
    {od__law_draw an__law_draw : Option Addr}
    {sl__law_draw : Array (Option Value)}
    {oc__law_draw kV__law_draw dc__law_draw pm__law_draw ct__law_draw : Value}
    {cd__law_draw : Value}
    {f__law_pick : Addr}
    {od__law_pick an__law_pick : Option Addr}
    {sl__law_pick : Array (Option Value)}
    {oc__law_pick kV__law_pick dc__law_pick pm__law_pick ct__law_pick : Value}
    {cd__law_pick : Value}
    {f__law_plain : Addr}
    {od__law_plain an__law_plain : Option Addr}
    {sl__law_plain : Array (Option Value)}
    {oc__law_plain kV__law_plain dc__law_plain pm__law_plain ct__law_plain : Value}
    {cd__law_plain : Value}
    {f__law_is : Addr}
    {od__law_is an__law_is : Option Addr}
    {sl__law_is : Array (Option Value)}
    {oc__law_is kV__law_is dc__law_is pm__law_is ct__law_is : Value}
    {cd__law_is : Value}
    {f__law_round : Addr}
    {od__law_round an__law_round : Option Addr}
    {sl__law_round : Array (Option Value)}
    {oc__law_round kV__law_round dc__law_round pm__law_round ct__law_round : Value}
    {cd__law_round : Value}
    {f__law_turned : Addr}
    {od__law_turned an__law_turned : Option Addr}
    {sl__law_turned : Array (Option Value)}
    {oc__law_turned kV__law_turned dc__law_turned pm__law_turned ct__law_turned : Value}
    {cd__law_turned : Value}
    {f__law_mirrored : Addr}
    {od__law_mirrored an__law_mirrored : Option Addr}
    {sl__law_mirrored : Array (Option Value)}
    {oc__law_mirrored kV__law_mirrored dc__law_mirrored pm__law_mirrored ct__law_mirrored : Value}
    {cd__law_mirrored : Value}
    {f__law_odd_round : Addr}
    {od__law_odd_round an__law_odd_round : Option Addr}
    {sl__law_odd_round : Array (Option Value)}
    {oc__law_odd_round kV__law_odd_round dc__law_odd_round pm__law_odd_round ct__law_odd_round : Value}
    {cd__law_odd_round : Value}
    {f_law : Addr}
    {od_law an_law : Option Addr}
    {sl_law : Array (Option Value)}
    {oc_law kV_law dc_law pm_law ct_law : Value}
    {cc cP : Addr}
    {f__law_begun : Addr}
    {od__law_begun an__law_begun : Option Addr}
    {sl__law_begun : Array (Option Value)}
    {oc__law_begun kV__law_begun dc__law_begun pm__law_begun ct__law_begun : Value}
    {cd__law_begun : Value}
    {f__law_caught : Addr}
    {od__law_caught an__law_caught : Option Addr}
    {sl__law_caught : Array (Option Value)}
    {oc__law_caught kV__law_caught dc__law_caught pm__law_caught ct__law_caught : Value}
    {cd__law_caught : Value}
    {e_cc : Value}
    {d_cc : Option Addr}
    {v_cc : Array Value}
    {s_cc : Array (Option Value)}
    {C_RhythmError : Addr}
    {C_BadRound : Addr}
    (z_abs : PySem.W.nsIn K mainGlobals "abs" = some none)
    (z_all : PySem.W.nsIn K mainGlobals "all" = some none)
    (z_bool : PySem.W.nsIn K mainGlobals "bool" = some none)
    (z_dict : PySem.W.nsIn K mainGlobals "dict" = some none)
    (z_int : PySem.W.nsIn K mainGlobals "int" = some none)
    (z_isinstance : PySem.W.nsIn K mainGlobals "isinstance" = some none)
    (z_len : PySem.W.nsIn K mainGlobals "len" = some none)
    (z_list : PySem.W.nsIn K mainGlobals "list" = some none)
    (z_min : PySem.W.nsIn K mainGlobals "min" = some none)
    (z_range : PySem.W.nsIn K mainGlobals "range" = some none)
    (z_repr : PySem.W.nsIn K mainGlobals "repr" = some none)
    (z_sorted : PySem.W.nsIn K mainGlobals "sorted" = some none)
    (z_str : PySem.W.nsIn K mainGlobals "str" = some none)
    (z_tuple : PySem.W.nsIn K mainGlobals "tuple" = some none)
    (z_zip : PySem.W.nsIn K mainGlobals "zip" = some none)
    (c_MOST_PULSES : ∃ t, mg "MOST_PULSES" = some (.int 240 t))
    (a_is_integer : PySem.W.nsIn K mainGlobals "is_integer" = some (some (.ref f_is_integer)))
    (l_is_integer : K.lookup f_is_integer = some ⟨oc_is_integer, od_is_integer, .func (PySem.W.fnOf "is_integer" "is_integer" (defArgs s_is_integer) (defBody s_is_integer) (defScope s_is_integer) .none kV_is_integer dc_is_integer pm_is_integer an_is_integer cd_is_integer ct_is_integer), sl_is_integer⟩)
    (c_is_integer : PySem.W.codeIn K cd_is_integer "is_integer" = true)
    (k_is_integer : PySem.W.keepIn K (.ref f_is_integer) = true)
    (a_is_between : PySem.W.nsIn K mainGlobals "is_between" = some (some (.ref f_is_between)))
    (l_is_between : K.lookup f_is_between = some ⟨oc_is_between, od_is_between, .func (PySem.W.fnOf "is_between" "is_between" (defArgs s_is_between) (defBody s_is_between) (defScope s_is_between) .none kV_is_between dc_is_between pm_is_between an_is_between cd_is_between ct_is_between), sl_is_between⟩)
    (c_is_between : PySem.W.codeIn K cd_is_between "is_between" = true)
    (k_is_between : PySem.W.keepIn K (.ref f_is_between) = true)
    (a_is_rising : PySem.W.nsIn K mainGlobals "is_rising" = some (some (.ref f_is_rising)))
    (l_is_rising : K.lookup f_is_rising = some ⟨oc_is_rising, od_is_rising, .func (PySem.W.fnOf "is_rising" "is_rising" (defArgs s_is_rising) (defBody s_is_rising) (defScope s_is_rising) .none kV_is_rising dc_is_rising pm_is_rising an_is_rising cd_is_rising ct_is_rising), sl_is_rising⟩)
    (c_is_rising : PySem.W.codeIn K cd_is_rising "is_rising" = true)
    (k_is_rising : PySem.W.keepIn K (.ref f_is_rising) = true)
    (a_is_round : PySem.W.nsIn K mainGlobals "is_round" = some (some (.ref f_is_round)))
    (l_is_round : K.lookup f_is_round = some ⟨oc_is_round, od_is_round, .func (PySem.W.fnOf "is_round" "is_round" (defArgs s_is_round) (defBody s_is_round) (defScope s_is_round) .none kV_is_round dc_is_round pm_is_round an_is_round cd_is_round ct_is_round), sl_is_round⟩)
    (c_is_round : PySem.W.codeIn K cd_is_round "is_round" = true)
    (k_is_round : PySem.W.keepIn K (.ref f_is_round) = true)
    (a_need_round : PySem.W.nsIn K mainGlobals "need_round" = some (some (.ref f_need_round)))
    (l_need_round : K.lookup f_need_round = some ⟨oc_need_round, od_need_round, .func (PySem.W.fnOf "need_round" "need_round" (defArgs s_need_round) (defBody s_need_round) (defScope s_need_round) .none kV_need_round dc_need_round pm_need_round an_need_round cd_need_round ct_need_round), sl_need_round⟩)
    (c_need_round : PySem.W.codeIn K cd_need_round "need_round" = true)
    (k_need_round : PySem.W.keepIn K (.ref f_need_round) = true)
    (a_mirrored_by : PySem.W.nsIn K mainGlobals "mirrored_by" = some (some (.ref f_mirrored_by)))
    (l_mirrored_by : K.lookup f_mirrored_by = some ⟨oc_mirrored_by, od_mirrored_by, .func (PySem.W.fnOf "mirrored_by" "mirrored_by" (defArgs s_mirrored_by) (defBody s_mirrored_by) (defScope s_mirrored_by) .none kV_mirrored_by dc_mirrored_by pm_mirrored_by an_mirrored_by cd_mirrored_by ct_mirrored_by), sl_mirrored_by⟩)
    (c_mirrored_by : PySem.W.codeIn K cd_mirrored_by "mirrored_by" = true)
    (k_mirrored_by : PySem.W.keepIn K (.ref f_mirrored_by) = true)
    (a_word_by : PySem.W.nsIn K mainGlobals "word_by" = some (some (.ref f_word_by)))
    (l_word_by : K.lookup f_word_by = some ⟨oc_word_by, od_word_by, .func (PySem.W.fnOf "word_by" "word_by" (defArgs s_word_by) (defBody s_word_by) (defScope s_word_by) .none kV_word_by dc_word_by pm_word_by an_word_by cd_word_by ct_word_by), sl_word_by⟩)
    (c_word_by : PySem.W.codeIn K cd_word_by "word_by" = true)
    (k_word_by : PySem.W.keepIn K (.ref f_word_by) = true)
    (a_period_of : PySem.W.nsIn K mainGlobals "period_of" = some (some (.ref f_period_of)))
    (l_period_of : K.lookup f_period_of = some ⟨oc_period_of, od_period_of, .func (PySem.W.fnOf "period_of" "period_of" (defArgs s_period_of) (defBody s_period_of) (defScope s_period_of) .none kV_period_of dc_period_of pm_period_of an_period_of cd_period_of ct_period_of), sl_period_of⟩)
    (c_period_of : PySem.W.codeIn K cd_period_of "period_of" = true)
    (k_period_of : PySem.W.keepIn K (.ref f_period_of) = true)
    (a_period : PySem.W.nsIn K mainGlobals "period" = some (some (.ref f_period)))
    (l_period : K.lookup f_period = some ⟨oc_period, od_period, .func (PySem.W.fnOf "period" "period" (defArgs s_period) (defBody s_period) (defScope s_period) .none kV_period dc_period pm_period an_period cd_period ct_period), sl_period⟩)
    (c_period : PySem.W.codeIn K cd_period "period" = true)
    (k_period : PySem.W.keepIn K (.ref f_period) = true)
    (a_axes : PySem.W.nsIn K mainGlobals "axes" = some (some (.ref f_axes)))
    (l_axes : K.lookup f_axes = some ⟨oc_axes, od_axes, .func (PySem.W.fnOf "axes" "axes" (defArgs s_axes) (defBody s_axes) (defScope s_axes) .none kV_axes dc_axes pm_axes an_axes cd_axes ct_axes), sl_axes⟩)
    (c_axes : PySem.W.codeIn K cd_axes "axes" = true)
    (k_axes : PySem.W.keepIn K (.ref f_axes) = true)
    (a__law_mixed : PySem.W.nsIn K mainGlobals "_law_mixed" = some (some (.ref f__law_mixed)))
    (l__law_mixed : K.lookup f__law_mixed = some ⟨oc__law_mixed, od__law_mixed, .func (PySem.W.fnOf "_law_mixed" "_law_mixed" (defArgs s__law_mixed) (defBody s__law_mixed) (defScope s__law_mixed) .none kV__law_mixed dc__law_mixed pm__law_mixed an__law_mixed cd__law_mixed ct__law_mixed), sl__law_mixed⟩)
    (c__law_mixed : PySem.W.codeIn K cd__law_mixed "_law_mixed" = true)
    (k__law_mixed : PySem.W.keepIn K (.ref f__law_mixed) = true)
    (a__law_draw : PySem.W.nsIn K mainGlobals "_law_draw" = some (some (.ref f__law_draw)))
    (l__law_draw : K.lookup f__law_draw = some ⟨oc__law_draw, od__law_draw, .func (PySem.W.fnOf "_law_draw" "_law_draw" (defArgs s__law_draw) (defBody s__law_draw) (defScope s__law_draw) .none kV__law_draw dc__law_draw pm__law_draw an__law_draw cd__law_draw ct__law_draw), sl__law_draw⟩)
    (c__law_draw : PySem.W.codeIn K cd__law_draw "_law_draw" = true)
    (k__law_draw : PySem.W.keepIn K (.ref f__law_draw) = true)
    (a__law_pick : PySem.W.nsIn K mainGlobals "_law_pick" = some (some (.ref f__law_pick)))
    (l__law_pick : K.lookup f__law_pick = some ⟨oc__law_pick, od__law_pick, .func (PySem.W.fnOf "_law_pick" "_law_pick" (defArgs s__law_pick) (defBody s__law_pick) (defScope s__law_pick) .none kV__law_pick dc__law_pick pm__law_pick an__law_pick cd__law_pick ct__law_pick), sl__law_pick⟩)
    (c__law_pick : PySem.W.codeIn K cd__law_pick "_law_pick" = true)
    (k__law_pick : PySem.W.keepIn K (.ref f__law_pick) = true)
    (a__law_plain : PySem.W.nsIn K mainGlobals "_law_plain" = some (some (.ref f__law_plain)))
    (l__law_plain : K.lookup f__law_plain = some ⟨oc__law_plain, od__law_plain, .func (PySem.W.fnOf "_law_plain" "_law_plain" (defArgs s__law_plain) (defBody s__law_plain) (defScope s__law_plain) .none kV__law_plain dc__law_plain pm__law_plain an__law_plain cd__law_plain ct__law_plain), sl__law_plain⟩)
    (c__law_plain : PySem.W.codeIn K cd__law_plain "_law_plain" = true)
    (k__law_plain : PySem.W.keepIn K (.ref f__law_plain) = true)
    (a__law_is : PySem.W.nsIn K mainGlobals "_law_is" = some (some (.ref f__law_is)))
    (l__law_is : K.lookup f__law_is = some ⟨oc__law_is, od__law_is, .func (PySem.W.fnOf "_law_is" "_law_is" (defArgs s__law_is) (defBody s__law_is) (defScope s__law_is) .none kV__law_is dc__law_is pm__law_is an__law_is cd__law_is ct__law_is), sl__law_is⟩)
    (c__law_is : PySem.W.codeIn K cd__law_is "_law_is" = true)
    (k__law_is : PySem.W.keepIn K (.ref f__law_is) = true)
    (a__law_round : PySem.W.nsIn K mainGlobals "_law_round" = some (some (.ref f__law_round)))
    (l__law_round : K.lookup f__law_round = some ⟨oc__law_round, od__law_round, .func (PySem.W.fnOf "_law_round" "_law_round" (defArgs s__law_round) (defBody s__law_round) (defScope s__law_round) .none kV__law_round dc__law_round pm__law_round an__law_round cd__law_round ct__law_round), sl__law_round⟩)
    (c__law_round : PySem.W.codeIn K cd__law_round "_law_round" = true)
    (k__law_round : PySem.W.keepIn K (.ref f__law_round) = true)
    (a__law_turned : PySem.W.nsIn K mainGlobals "_law_turned" = some (some (.ref f__law_turned)))
    (l__law_turned : K.lookup f__law_turned = some ⟨oc__law_turned, od__law_turned, .func (PySem.W.fnOf "_law_turned" "_law_turned" (defArgs s__law_turned) (defBody s__law_turned) (defScope s__law_turned) .none kV__law_turned dc__law_turned pm__law_turned an__law_turned cd__law_turned ct__law_turned), sl__law_turned⟩)
    (c__law_turned : PySem.W.codeIn K cd__law_turned "_law_turned" = true)
    (k__law_turned : PySem.W.keepIn K (.ref f__law_turned) = true)
    (a__law_mirrored : PySem.W.nsIn K mainGlobals "_law_mirrored" = some (some (.ref f__law_mirrored)))
    (l__law_mirrored : K.lookup f__law_mirrored = some ⟨oc__law_mirrored, od__law_mirrored, .func (PySem.W.fnOf "_law_mirrored" "_law_mirrored" (defArgs s__law_mirrored) (defBody s__law_mirrored) (defScope s__law_mirrored) .none kV__law_mirrored dc__law_mirrored pm__law_mirrored an__law_mirrored cd__law_mirrored ct__law_mirrored), sl__law_mirrored⟩)
    (c__law_mirrored : PySem.W.codeIn K cd__law_mirrored "_law_mirrored" = true)
    (k__law_mirrored : PySem.W.keepIn K (.ref f__law_mirrored) = true)
    (a__law_odd_round : PySem.W.nsIn K mainGlobals "_law_odd_round" = some (some (.ref f__law_odd_round)))
    (l__law_odd_round : K.lookup f__law_odd_round = some ⟨oc__law_odd_round, od__law_odd_round, .func (PySem.W.fnOf "_law_odd_round" "_law_odd_round" (defArgs s__law_odd_round) (defBody s__law_odd_round) (defScope s__law_odd_round) .none kV__law_odd_round dc__law_odd_round pm__law_odd_round an__law_odd_round cd__law_odd_round ct__law_odd_round), sl__law_odd_round⟩)
    (c__law_odd_round : PySem.W.codeIn K cd__law_odd_round "_law_odd_round" = true)
    (k__law_odd_round : PySem.W.keepIn K (.ref f__law_odd_round) = true)
    (a_law : PySem.W.nsIn K mainGlobals "law" = some (some (.ref f_law)))
    (l_law : K.lookup f_law = some ⟨oc_law, od_law, .func (PySem.W.fnOf "law" "law" (defArgs s_law) (defBody s_law) (defScope s_law) .none kV_law dc_law pm_law an_law (.ref cc) ct_law), sl_law⟩)
    (c_law : PySem.W.codeIn K (.ref cc) "law" = true)
    (k_law : PySem.W.keepIn K (.ref f_law) = true)
    (a__law_begun : PySem.W.nsIn K mainGlobals "_law_begun" = some (some (.ref f__law_begun)))
    (l__law_begun : K.lookup f__law_begun = some ⟨oc__law_begun, od__law_begun, .func (PySem.W.fnOf "_law_begun" "_law_begun" (defArgs s__law_begun) (defBody s__law_begun) (defScope s__law_begun) .none kV__law_begun dc__law_begun pm__law_begun an__law_begun cd__law_begun ct__law_begun), sl__law_begun⟩)
    (c__law_begun : PySem.W.codeIn K cd__law_begun "_law_begun" = true)
    (k__law_begun : PySem.W.keepIn K (.ref f__law_begun) = true)
    (a__law_caught : PySem.W.nsIn K mainGlobals "_law_caught" = some (some (.ref f__law_caught)))
    (l__law_caught : K.lookup f__law_caught = some ⟨oc__law_caught, od__law_caught, .func (PySem.W.fnOf "_law_caught" "_law_caught" (defArgs s__law_caught) (defBody s__law_caught) (defScope s__law_caught) .none kV__law_caught dc__law_caught pm__law_caught an__law_caught cd__law_caught ct__law_caught), sl__law_caught⟩)
    (c__law_caught : PySem.W.codeIn K cd__law_caught "_law_caught" = true)
    (k__law_caught : PySem.W.keepIn K (.ref f__law_caught) = true)
    (l_cc : K.lookup cc = some ⟨e_cc, d_cc, .fields v_cc, s_cc⟩)
    (p_cc : v_cc[11]? = some (.ref cP))
    (h_cc : PySem.W.codeHdIn K cc cP = true)
    (n_cP : K.lookup cP = none)
    (a_RhythmError : PySem.W.nsIn K mainGlobals "RhythmError" = some (some (.ref C_RhythmError)))
    (a_BadRound : PySem.W.nsIn K mainGlobals "BadRound" = some (some (.ref C_BadRound)))
    (x_RhythmError : PySem.W.exmOne K (.ref C_RhythmError) (.ref C_RhythmError) = some true)
    (x_BadRound : PySem.W.exmOne K (.ref C_BadRound) (.ref C_RhythmError) = some true)
    (kC_BadRound : PySem.W.keepIn K (.ref C_BadRound) = true)
    (bC_BadRound : PySem.W.subIn K (.ref C_BadRound) (.type "BaseException") = some true)
    (tC_BadRound : PySem.W.typeIn K (.ref C_BadRound) = some (.type "type"))
    (xP_BadRound : PySem.W.excIn K C_BadRound [.type "ValueError", .type "Exception", .type "BaseException", .type "object"] "ValueError.__new__" = true)
    (kg1 : PySem.W.specialIn K (.builtin "object.__class__") "__get__" = some (some (.builtin "getset_descriptor.__get__")))
    (kg2 : PySem.W.takesIn K (.builtin "object.__class__") = some true)
    (ke_RhythmError : kitEB K C_RhythmError = true)
    (ke_BadRound : kitEB K C_BadRound = true)
    (q_BadRound_NoneType : PySem.W.kitOne K (.type "NoneType") (.ref C_BadRound) = some false)
    (q_BadRound_bool : PySem.W.kitOne K (.type "bool") (.ref C_BadRound) = some false)
    (q_BadRound_int : PySem.W.kitOne K (.type "int") (.ref C_BadRound) = some false)
    (q_BadRound_str : PySem.W.kitOne K (.type "str") (.ref C_BadRound) = some false)
    (q_BadRound_tuple : PySem.W.kitOne K (.type "tuple") (.ref C_BadRound) = some false)
    (q_BadRound_list : PySem.W.kitOne K (.type "list") (.ref C_BadRound) = some false)
    (q_BadRound_dict : PySem.W.kitOne K (.type "dict") (.ref C_BadRound) = some false)
    (q_BadRound_RhythmError : PySem.W.kitOne K (.ref C_RhythmError) (.ref C_BadRound) = some (subC 0 1))
    (q_BadRound_BadRound : PySem.W.kitOne K (.ref C_BadRound) (.ref C_BadRound) = some (subC 1 1))
    : LawG PySem.Challenge.rw_barhouse_k03_whole_own_turns_and_axes w K 16 63 "script" mg fa h := by
  have e := hfa.symm.trans (PySem.W.mg_of X G a_law)
  cases e
  have BB : BT mg btL := (bt_cons (PySem.W.mg_none_of X G z_abs) (bt_cons (PySem.W.mg_none_of X G z_all) (bt_cons (PySem.W.mg_none_of X G z_bool) (bt_cons (PySem.W.mg_none_of X G z_dict) (bt_cons (PySem.W.mg_none_of X G z_int) (bt_cons (PySem.W.mg_none_of X G z_isinstance) (bt_cons (PySem.W.mg_none_of X G z_len) (bt_cons (PySem.W.mg_none_of X G z_list) (bt_cons (PySem.W.mg_none_of X G z_min) (bt_cons (PySem.W.mg_none_of X G z_range) (bt_cons (PySem.W.mg_none_of X G z_repr) (bt_cons (PySem.W.mg_none_of X G z_sorted) (bt_cons (PySem.W.mg_none_of X G z_str) (bt_cons (PySem.W.mg_none_of X G z_tuple) (bt_cons (PySem.W.mg_none_of X G z_zip) bt_nil)))))))))))))))
  have F_is_integer := fun_mk (st := s_is_integer) l_is_integer c_is_integer k_is_integer
  have F_is_between := fun_mk (st := s_is_between) l_is_between c_is_between k_is_between
  have F_is_rising := fun_mk (st := s_is_rising) l_is_rising c_is_rising k_is_rising
  have F_is_round := fun_mk (st := s_is_round) l_is_round c_is_round k_is_round
  have F_need_round := fun_mk (st := s_need_round) l_need_round c_need_round k_need_round
  have F_mirrored_by := fun_mk (st := s_mirrored_by) l_mirrored_by c_mirrored_by k_mirrored_by
  have F_word_by := fun_mk (st := s_word_by) l_word_by c_word_by k_word_by
  have F_period_of := fun_mk (st := s_period_of) l_period_of c_period_of k_period_of
  have F_period := fun_mk (st := s_period) l_period c_period k_period
  have F_axes := fun_mk (st := s_axes) l_axes c_axes k_axes
  have F__law_mixed := fun_mk (st := s__law_mixed) l__law_mixed c__law_mixed k__law_mixed
  have F__law_draw := fun_mk (st := s__law_draw) l__law_draw c__law_draw k__law_draw
  have F__law_pick := fun_mk (st := s__law_pick) l__law_pick c__law_pick k__law_pick
  have F__law_plain := fun_mk (st := s__law_plain) l__law_plain c__law_plain k__law_plain
  have F__law_is := fun_mk (st := s__law_is) l__law_is c__law_is k__law_is
  have F__law_round := fun_mk (st := s__law_round) l__law_round c__law_round k__law_round
  have F__law_turned := fun_mk (st := s__law_turned) l__law_turned c__law_turned k__law_turned
  have F__law_mirrored := fun_mk (st := s__law_mirrored) l__law_mirrored c__law_mirrored k__law_mirrored
  have F__law_odd_round := fun_mk (st := s__law_odd_round) l__law_odd_round c__law_odd_round k__law_odd_round
  have F_law := fun_mk (st := s_law) l_law c_law k_law
  have F__law_begun := fun_mk (st := s__law_begun) l__law_begun c__law_begun k__law_begun
  have F__law_caught := fun_mk (st := s__law_caught) l__law_caught c__law_caught k__law_caught
  have b_is_integer := F_is_integer.binds (ps := ["value"]) fun _ _ _ _ _ _ us hl => match us, hl with | [_], _ => rfl
  have b_is_between := F_is_between.binds (ps := ["value", "low", "high"]) fun _ _ _ _ _ _ us hl => match us, hl with | [_, _, _], _ => rfl
  have b_is_rising := F_is_rising.binds (ps := ["values"]) fun _ _ _ _ _ _ us hl => match us, hl with | [_], _ => rfl
  have b_is_round := F_is_round.binds (ps := ["thing"]) fun _ _ _ _ _ _ us hl => match us, hl with | [_], _ => rfl
  have b_need_round := F_need_round.binds (ps := ["thing"]) fun _ _ _ _ _ _ us hl => match us, hl with | [_], _ => rfl
  have b_mirrored_by := F_mirrored_by.binds (ps := ["circle", "by"]) fun _ _ _ _ _ _ us hl => match us, hl with | [_, _], _ => rfl
  have b_word_by := F_word_by.binds (ps := ["circle"]) fun _ _ _ _ _ _ us hl => match us, hl with | [_], _ => rfl
  have b_period_of := F_period_of.binds (ps := ["word"]) fun _ _ _ _ _ _ us hl => match us, hl with | [_], _ => rfl
  have b_period := F_period.binds (ps := ["circle"]) fun _ _ _ _ _ _ us hl => match us, hl with | [_], _ => rfl
  have b_axes := F_axes.binds (ps := ["circle"]) fun _ _ _ _ _ _ us hl => match us, hl with | [_], _ => rfl
  have b__law_mixed := F__law_mixed.binds (ps := ["state"]) fun _ _ _ _ _ _ us hl => match us, hl with | [_], _ => rfl
  have b__law_draw := F__law_draw.binds (ps := ["state", "room"]) fun _ _ _ _ _ _ us hl => match us, hl with | [_, _], _ => rfl
  have b__law_pick := F__law_pick.binds (ps := ["state", "some"]) fun _ _ _ _ _ _ us hl => match us, hl with | [_, _], _ => rfl
  have b__law_plain := F__law_plain.binds (ps := ["value"]) fun _ _ _ _ _ _ us hl => match us, hl with | [_], _ => rfl
  have b__law_is := F__law_is.binds (ps := ["found", "due"]) fun _ _ _ _ _ _ us hl => match us, hl with | [_, _], _ => rfl
  have b__law_round := F__law_round.binds (ps := ["state", "most"]) fun _ _ _ _ _ _ us hl => match us, hl with | [_, _], _ => rfl
  have b__law_turned := F__law_turned.binds (ps := ["circle", "by"]) fun _ _ _ _ _ _ us hl => match us, hl with | [_, _], _ => rfl
  have b__law_mirrored := F__law_mirrored.binds (ps := ["circle", "by"]) fun _ _ _ _ _ _ us hl => match us, hl with | [_, _], _ => rfl
  have b__law_odd_round := F__law_odd_round.binds (ps := ["state"]) fun _ _ _ _ _ _ us hl => match us, hl with | [_], _ => rfl
  have b__law_begun := F__law_begun.binds (ps := ["script"]) fun _ _ _ _ _ _ us hl => match us, hl with | [_], _ => rfl
  have b__law_caught := F__law_caught.binds (ps := ["action"]) fun _ _ _ _ _ _ us hl => match us, hl with | [_], _ => rfl
  have tab := own cc cP _ _ _ _ _ _ l_law rfl rfl l_cc p_cc
  refine ⟨PySem.W.fnOf "law" "law" (defArgs s_law) (defBody s_law) (defScope s_law) .none kV_law dc_law pm_law an_law (.ref cc) ct_law, cc, cP, spLaw K [(cP, (envOfC "law" (defScope s_law) 0 0 .none).qual ++ "<lambda>")], tab, n_cP, PySem.W.codeHd_of_K X h_cc, fun s u => .of_eq rfl, fun H a ns hl hH hS => ⟨a, ns, rfl, hS, hl, fun p hp => ?_, fun _ => rfl⟩, fun base KB GB TB => ?_⟩
  · rw [List.mem_singleton.mp hp]
    exact .nil hH
  have e_BadRound : ErrTT K mg ⟨K, (cAof C_RhythmError C_BadRound), flD⟩ "BadRound" 1 := ⟨xP_BadRound, PySem.W.mg_of X G a_BadRound, kC_BadRound, bC_BadRound, tC_BadRound, rfl⟩
  have i_BadRound : mg "BadRound" = some (.ref ((cAof C_RhythmError C_BadRound) 1)) ∧ IsOk ⟨K, (cAof C_RhythmError C_BadRound), flD⟩ (.ref ((cAof C_RhythmError C_BadRound) 1)) (isC 1) := ⟨PySem.W.mg_of X G a_BadRound, ⟨kg1, kg2⟩, fun c ds b h => by
    match c, h with
    | 0, _ => exact kitE_of ke_RhythmError
    | 1, _ => exact kitE_of ke_BadRound
    | n + 2, h => exact absurd h (by rw [isC_out]; exact fun z => nomatch z)
    , fun d b h => ty_cases (isC_pl 1) rfl (fun _ => rfl) q_BadRound_NoneType q_BadRound_bool q_BadRound_int q_BadRound_str q_BadRound_tuple q_BadRound_list q_BadRound_dict (fun c ds b h => by
    match c, h with
    | 0, h => exact (q_BadRound_RhythmError).trans h
    | 1, h => exact (q_BadRound_BadRound).trans h
    | n + 2, h => exact absurd h (by rw [isC_out]; exact fun z => nomatch z)) h
    , fun _ => rfl⟩
  have T_is_integer : FT PySem.Challenge.rw_barhouse_k03_whole_own_turns_and_axes.prog w K mg base ⟨K, (cAof C_RhythmError C_BadRound), flD⟩ "is_integer" ["value"] 3 0 sp_is_integer kws_is_integer := ft_mk (ok_is_integer F_is_integer BB ) (PySem.W.mg_of X G a_is_integer) k_is_integer b_is_integer kw_nil
  have T_is_between : FT PySem.Challenge.rw_barhouse_k03_whole_own_turns_and_axes.prog w K mg base ⟨K, (cAof C_RhythmError C_BadRound), flD⟩ "is_between" ["value", "low", "high"] 4 0 sp_is_between kws_is_between := ft_mk (ok_is_between F_is_between BB T_is_integer) (PySem.W.mg_of X G a_is_between) k_is_between b_is_between kw_nil
  have T_is_rising : FT PySem.Challenge.rw_barhouse_k03_whole_own_turns_and_axes.prog w K mg base ⟨K, (cAof C_RhythmError C_BadRound), flD⟩ "is_rising" ["values"] 3 0 sp_is_rising kws_is_rising := ft_mk (ok_is_rising F_is_rising BB ) (PySem.W.mg_of X G a_is_rising) k_is_rising b_is_rising kw_nil
  have T_is_round : FT PySem.Challenge.rw_barhouse_k03_whole_own_turns_and_axes.prog w K mg base ⟨K, (cAof C_RhythmError C_BadRound), flD⟩ "is_round" ["thing"] 5 0 sp_is_round kws_is_round := ft_mk (ok_is_round F_is_round BB c_MOST_PULSES T_is_between T_is_rising) (PySem.W.mg_of X G a_is_round) k_is_round b_is_round kw_nil
  have T_need_round : FT PySem.Challenge.rw_barhouse_k03_whole_own_turns_and_axes.prog w K mg base ⟨K, (cAof C_RhythmError C_BadRound), flD⟩ "need_round" ["thing"] 6 0 sp_need_round kws_need_round := ft_mk (ok_need_round F_need_round BB T_is_round e_BadRound) (PySem.W.mg_of X G a_need_round) k_need_round b_need_round kw_nil
  have T_mirrored_by : FT PySem.Challenge.rw_barhouse_k03_whole_own_turns_and_axes.prog w K mg base ⟨K, (cAof C_RhythmError C_BadRound), flD⟩ "mirrored_by" ["circle", "by"] 3 0 sp_mirrored_by kws_mirrored_by := ft_mk (ok_mirrored_by F_mirrored_by BB ) (PySem.W.mg_of X G a_mirrored_by) k_mirrored_by b_mirrored_by kw_nil
  have T_word_by : FT PySem.Challenge.rw_barhouse_k03_whole_own_turns_and_axes.prog w K mg base ⟨K, (cAof C_RhythmError C_BadRound), flD⟩ "word_by" ["circle"] 3 0 sp_word_by kws_word_by := ft_mk (ok_word_by F_word_by BB ) (PySem.W.mg_of X G a_word_by) k_word_by b_word_by kw_nil
  have T_period_of : FT PySem.Challenge.rw_barhouse_k03_whole_own_turns_and_axes.prog w K mg base ⟨K, (cAof C_RhythmError C_BadRound), flD⟩ "period_of" ["word"] 3 0 sp_period_of kws_period_of := ft_mk (ok_period_of F_period_of BB ) (PySem.W.mg_of X G a_period_of) k_period_of b_period_of kw_nil
  have T_period : FT PySem.Challenge.rw_barhouse_k03_whole_own_turns_and_axes.prog w K mg base ⟨K, (cAof C_RhythmError C_BadRound), flD⟩ "period" ["circle"] 7 0 sp_period kws_period := ft_mk (ok_period F_period BB T_need_round T_period_of T_word_by) (PySem.W.mg_of X G a_period) k_period b_period (kw_cons (Fun.kbn F_period 0 ["circle"] [0] fun _ _ _ _ _ _ us ws h1 h2 => match us, ws, h1, h2 with | [], [_], _, _ => rfl) kw_nil)
  have T_axes : FT PySem.Challenge.rw_barhouse_k03_whole_own_turns_and_axes.prog w K mg base ⟨K, (cAof C_RhythmError C_BadRound), flD⟩ "axes" ["circle"] 7 0 sp_axes kws_axes := ft_mk (ok_axes F_axes BB T_mirrored_by T_need_round) (PySem.W.mg_of X G a_axes) k_axes b_axes (kw_cons (Fun.kbn F_axes 0 ["circle"] [0] fun _ _ _ _ _ _ us ws h1 h2 => match us, ws, h1, h2 with | [], [_], _, _ => rfl) kw_nil)
  have T__law_mixed : FT PySem.Challenge.rw_barhouse_k03_whole_own_turns_and_axes.prog w K mg base ⟨K, (cAof C_RhythmError C_BadRound), flD⟩ "_law_mixed" ["state"] 3 1 sp__law_mixed kws__law_mixed := ft_mk (ok__law_mixed F__law_mixed BB ) (PySem.W.mg_of X G a__law_mixed) k__law_mixed b__law_mixed kw_nil
  have T__law_draw : FT PySem.Challenge.rw_barhouse_k03_whole_own_turns_and_axes.prog w K mg base ⟨K, (cAof C_RhythmError C_BadRound), flD⟩ "_law_draw" ["state", "room"] 4 1 sp__law_draw kws__law_draw := ft_mk (ok__law_draw F__law_draw BB T__law_mixed) (PySem.W.mg_of X G a__law_draw) k__law_draw b__law_draw kw_nil
  have T__law_pick : FT PySem.Challenge.rw_barhouse_k03_whole_own_turns_and_axes.prog w K mg base ⟨K, (cAof C_RhythmError C_BadRound), flD⟩ "_law_pick" ["state", "some"] 5 1 sp__law_pick kws__law_pick := ft_mk (ok__law_pick F__law_pick BB T__law_draw) (PySem.W.mg_of X G a__law_pick) k__law_pick b__law_pick kw_nil
  have T__law_plain : FT PySem.Challenge.rw_barhouse_k03_whole_own_turns_and_axes.prog w K mg base ⟨K, (cAof C_RhythmError C_BadRound), flD⟩ "_law_plain" ["value"] 12 0 sp__law_plain kws__law_plain := ok__law_plain F__law_plain BB (PySem.W.mg_of X G a__law_plain) b__law_plain kw_nil  9
  have T__law_is : FT PySem.Challenge.rw_barhouse_k03_whole_own_turns_and_axes.prog w K mg base ⟨K, (cAof C_RhythmError C_BadRound), flD⟩ "_law_is" ["found", "due"] 13 0 sp__law_is kws__law_is := ft_mk (ok__law_is F__law_is BB T__law_plain) (PySem.W.mg_of X G a__law_is) k__law_is b__law_is kw_nil
  have T__law_round : FT PySem.Challenge.rw_barhouse_k03_whole_own_turns_and_axes.prog w K mg base ⟨K, (cAof C_RhythmError C_BadRound), flD⟩ "_law_round" ["state", "most"] 6 300 sp__law_round kws__law_round := ft_mk (ok__law_round F__law_round BB T__law_draw T__law_pick) (PySem.W.mg_of X G a__law_round) k__law_round b__law_round kw_nil
  have T__law_turned : FT PySem.Challenge.rw_barhouse_k03_whole_own_turns_and_axes.prog w K mg base ⟨K, (cAof C_RhythmError C_BadRound), flD⟩ "_law_turned" ["circle", "by"] 3 0 sp__law_turned kws__law_turned := ft_mk (ok__law_turned F__law_turned BB ) (PySem.W.mg_of X G a__law_turned) k__law_turned b__law_turned kw_nil
  have T__law_mirrored : FT PySem.Challenge.rw_barhouse_k03_whole_own_turns_and_axes.prog w K mg base ⟨K, (cAof C_RhythmError C_BadRound), flD⟩ "_law_mirrored" ["circle", "by"] 3 0 sp__law_mirrored kws__law_mirrored := ft_mk (ok__law_mirrored F__law_mirrored BB ) (PySem.W.mg_of X G a__law_mirrored) k__law_mirrored b__law_mirrored kw_nil
  have T__law_odd_round : FT PySem.Challenge.rw_barhouse_k03_whole_own_turns_and_axes.prog w K mg base ⟨K, (cAof C_RhythmError C_BadRound), flD⟩ "_law_odd_round" ["state"] 6 1 sp__law_odd_round kws__law_odd_round := ft_mk (ok__law_odd_round F__law_odd_round BB T__law_pick) (PySem.W.mg_of X G a__law_odd_round) k__law_odd_round b__law_odd_round kw_nil
  have FB := ok__law_begun (P := PySem.Challenge.rw_barhouse_k03_whole_own_turns_and_axes.prog) (w := w) (base := base) (cA := (cAof C_RhythmError C_BadRound)) F__law_begun BB
  have CT : CatchT K mg f__law_caught C_RhythmError := caught_mk (PySem.W.mg_of X G a__law_caught) k__law_caught (PySem.W.mg_of X G a_RhythmError) l__law_caught c__law_caught ⟨⟨_, _, _, _, _, _, _, _, _, _, _, _, _, _, _⟩, rfl⟩ rfl b__law_caught
  have hR : ∀ c, isR c = true → PySem.W.exmOne K (.ref ((cAof C_RhythmError C_BadRound) c)) (.ref C_RhythmError) = some true := fun c hc => by
    match c, hc with
    | 0, _ => exact x_RhythmError
    | 1, _ => exact x_BadRound
    | n + 2, hc => exact absurd hc (by rw [isR_out]; exact Bool.false_ne_true)
  exact law_ok (k := 10) (m := 100000) (d := d_law) (N := N_law) l_law c_law fs_law (by decide) rfl (by decide) (by decide) rfl (by first | exact .inl rfl | exact .inr rfl) (by first | exact .inl rfl | exact .inr (.inl rfl)) rfl (fun _ _ _ _ => rfl) FB (PySem.W.mg_of X G a__law_begun) k__law_begun b__law_begun
    (fun A outer s H E W h0 hr hW C => wk_law BB T__law_draw T__law_is T__law_mirrored T__law_odd_round T__law_pick T__law_round T__law_turned T_axes T_period i_BadRound hr C ⟨CT, TB, rfl, by rw [hW]; exact List.mem_singleton.mpr rfl, fun p hp _ => by rw [hW] at hp; rw [List.mem_singleton.mp hp]; rfl, hR⟩)
    sem_law

end K03
open PySem PySem.W PyProof.Rows
set_option maxHeartbeats 0 in
theorem PySem.Challenge.cw_barhouse_k03_whole_own_turns_and_axes_holds : PySem.Challenge.rw_barhouse_k03_whole_own_turns_and_axes.Holds := by
  w_on; o_law; k_head; (case hw => w_witness2)
  k_fill
  refine DL.walk_end (l := PySem.Challenge.rw_barhouse_k03_whole_own_turns_and_axes) (n := 63) (k := 16) (x := "script") rfl (by decide) rfl ⟨rfl, by decide, by decide⟩ (by rfl) (fun w h Y => PySem.W.km_in_of Y) ?F
  case F =>
    intro w mg fa h x Y KX G hmg own
    refine' K03.all_mk KX G hmg own ?z_abs ?z_all ?z_bool ?z_dict ?z_int ?z_isinstance ?z_len ?z_list ?z_min ?z_range ?z_repr ?z_sorted ?z_str ?z_tuple ?z_zip ?c_MOST_PULSES ?a_is_integer ?l_is_integer ?c_is_integer ?k_is_integer ?a_is_between ?l_is_between ?c_is_between ?k_is_between ?a_is_rising ?l_is_rising ?c_is_rising ?k_is_rising ?a_is_round ?l_is_round ?c_is_round ?k_is_round ?a_need_round ?l_need_round ?c_need_round ?k_need_round ?a_mirrored_by ?l_mirrored_by ?c_mirrored_by ?k_mirrored_by ?a_word_by ?l_word_by ?c_word_by ?k_word_by ?a_period_of ?l_period_of ?c_period_of ?k_period_of ?a_period ?l_period ?c_period ?k_period ?a_axes ?l_axes ?c_axes ?k_axes ?a__law_mixed ?l__law_mixed ?c__law_mixed ?k__law_mixed ?a__law_draw ?l__law_draw ?c__law_draw ?k__law_draw ?a__law_pick ?l__law_pick ?c__law_pick ?k__law_pick ?a__law_plain ?l__law_plain ?c__law_plain ?k__law_plain ?a__law_is ?l__law_is ?c__law_is ?k__law_is ?a__law_round ?l__law_round ?c__law_round ?k__law_round ?a__law_turned ?l__law_turned ?c__law_turned ?k__law_turned ?a__law_mirrored ?l__law_mirrored ?c__law_mirrored ?k__law_mirrored ?a__law_odd_round ?l__law_odd_round ?c__law_odd_round ?k__law_odd_round ?a_law ?l_law ?c_law ?k_law ?a__law_begun ?l__law_begun ?c__law_begun ?k__law_begun ?a__law_caught ?l__law_caught ?c__law_caught ?k__law_caught ?l_cc ?p_cc ?h_cc ?n_cP ?a_RhythmError ?a_BadRound ?x_RhythmError ?x_BadRound ?kC_BadRound ?bC_BadRound ?tC_BadRound ?xP_BadRound ?kg1 ?kg2 ?ke_RhythmError ?ke_BadRound ?q_BadRound_NoneType ?q_BadRound_bool ?q_BadRound_int ?q_BadRound_str ?q_BadRound_tuple ?q_BadRound_list ?q_BadRound_dict ?q_BadRound_RhythmError ?q_BadRound_BadRound
    (case z_abs => k_is)
    (case z_all => k_is)
    (case z_bool => k_is)
    (case z_dict => k_is)
    (case z_int => k_is)
    (case z_isinstance => k_is)
    (case z_len => k_is)
    (case z_list => k_is)
    (case z_min => k_is)
    (case z_range => k_is)
    (case z_repr => k_is)
    (case z_sorted => k_is)
    (case z_str => k_is)
    (case z_tuple => k_is)
    (case z_zip => k_is)
    (case c_MOST_PULSES => first | exact DL.loose_int x (.head _) | exact DL.loose_int x (.tail _ (.head _)) | exact DL.loose_int x (.tail _ (.tail _ (.head _))) | exact DL.loose_int x (.tail _ (.tail _ (.tail _ (.head _)))) | exact ⟨_, PySem.W.mg_of KX G (by k_is)⟩)
    (case a_is_integer => k_is)
    (case l_is_integer => k_is)
    (case c_is_integer => k_is)
    (case k_is_integer => k_is)
    (case a_is_between => k_is)
    (case l_is_between => k_is)
    (case c_is_between => k_is)
    (case k_is_between => k_is)
    (case a_is_rising => k_is)
    (case l_is_rising => k_is)
    (case c_is_rising => k_is)
    (case k_is_rising => k_is)
    (case a_is_round => k_is)
    (case l_is_round => k_is)
    (case c_is_round => k_is)
    (case k_is_round => k_is)
    (case a_need_round => k_is)
    (case l_need_round => k_is)
    (case c_need_round => k_is)
    (case k_need_round => k_is)
    (case a_mirrored_by => k_is)
    (case l_mirrored_by => k_is)
    (case c_mirrored_by => k_is)
    (case k_mirrored_by => k_is)
    (case a_word_by => k_is)
    (case l_word_by => k_is)
    (case c_word_by => k_is)
    (case k_word_by => k_is)
    (case a_period_of => k_is)
    (case l_period_of => k_is)
    (case c_period_of => k_is)
    (case k_period_of => k_is)
    (case a_period => k_is)
    (case l_period => k_is)
    (case c_period => k_is)
    (case k_period => k_is)
    (case a_axes => k_is)
    (case l_axes => k_is)
    (case c_axes => k_is)
    (case k_axes => k_is)
    (case a__law_mixed => k_is)
    (case l__law_mixed => k_is)
    (case c__law_mixed => k_is)
    (case k__law_mixed => k_is)
    (case a__law_draw => k_is)
    (case l__law_draw => k_is)
    (case c__law_draw => k_is)
    (case k__law_draw => k_is)
    (case a__law_pick => k_is)
    (case l__law_pick => k_is)
    (case c__law_pick => k_is)
    (case k__law_pick => k_is)
    (case a__law_plain => k_is)
    (case l__law_plain => k_is)
    (case c__law_plain => k_is)
    (case k__law_plain => k_is)
    (case a__law_is => k_is)
    (case l__law_is => k_is)
    (case c__law_is => k_is)
    (case k__law_is => k_is)
    (case a__law_round => k_is)
    (case l__law_round => k_is)
    (case c__law_round => k_is)
    (case k__law_round => k_is)
    (case a__law_turned => k_is)
    (case l__law_turned => k_is)
    (case c__law_turned => k_is)
    (case k__law_turned => k_is)
    (case a__law_mirrored => k_is)
    (case l__law_mirrored => k_is)
    (case c__law_mirrored => k_is)
    (case k__law_mirrored => k_is)
    (case a__law_odd_round => k_is)
    (case l__law_odd_round => k_is)
    (case c__law_odd_round => k_is)
    (case k__law_odd_round => k_is)
    (case a_law => k_is)
    (case l_law => k_is)
    (case c_law => k_is)
    (case k_law => k_is)
    (case a__law_begun => k_is)
    (case l__law_begun => k_is)
    (case c__law_begun => k_is)
    (case k__law_begun => k_is)
    (case a__law_caught => k_is)
    (case l__law_caught => k_is)
    (case c__law_caught => k_is)
    (case k__law_caught => k_is)
    (case l_cc => k_is)
    (case p_cc => exact rfl)
    (case h_cc => first | kernel_rfl | rfl)
    (case n_cP => first | kernel_rfl | rfl)
    (case a_RhythmError => k_is)
    (case a_BadRound => k_is)
    (case x_RhythmError => first | kernel_rfl | rfl)
    (case x_BadRound => first | kernel_rfl | rfl)
    (case kC_BadRound => k_is)
    (case bC_BadRound => k_is)
    (case tC_BadRound => k_is)
    (case xP_BadRound => first | kernel_rfl | rfl)
    (case kg1 => k_is)
    (case kg2 => k_is)
    (case ke_RhythmError => first | kernel_rfl | rfl)
    (case ke_BadRound => first | kernel_rfl | rfl)
    (case q_BadRound_NoneType => first | kernel_rfl | rfl)
    (case q_BadRound_bool => first | kernel_rfl | rfl)
    (case q_BadRound_int => first | kernel_rfl | rfl)
    (case q_BadRound_str => first | kernel_rfl | rfl)
    (case q_BadRound_tuple => first | kernel_rfl | rfl)
    (case q_BadRound_list => first | kernel_rfl | rfl)
    (case q_BadRound_dict => first | kernel_rfl | rfl)
    (case q_BadRound_RhythmError => first | kernel_rfl | rfl)
    (case q_BadRound_BadRound => first | kernel_rfl | rfl)
