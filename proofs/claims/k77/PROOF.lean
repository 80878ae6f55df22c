import PyProof.Rows.All
import Wide.All
import OpenK.AllK
import Wide.FinOn
import HandS.ForMost
import HandS.Wide
import HandS.Gcd
import HandS.IsInst
import HandS.Defaults
import HandS.Zip
import HandS.Rev
import HandS.WordsExc
import HandS.HeadHook1
import HandS.HeadHook2
import HandS.Style
import HandS.Deep
import HandS.TryOnly
import KE.GoesMore
import PyProof.EqAt
import PyProof.EqKinds
import PyProof.NeKinds
import PyProof.TupleCall
import HandS.OwnEq
import HandS.NamedTupGet
import KE.KStateDown
import HandS.Head0
import HandS.Head1
import HandS.Head2
import HandS.Head3
import HandS.HeadEnd
import PySem.Challenge.RW_nextprices_k77_whole_shown_turns
set_option Elab.async false
set_option linter.all false
section
set_option maxRecDepth 100000
set_option maxHeartbeats 2000000
/-! the data layer: trees of data, what stands for them, environments of slots -/
namespace G
open PySem PySem.Spec PyProof.Rows L2

/-- data -/
inductive D where
  | non | bl (b : Bool) | int (i : Int) | str (s : Str)
  | lst (l : List D) | tup (l : List D)
  | raw (l : List D)
  | mls (l : List D)
  | adr (a : Addr)
  | frac (q : Rat)
  | obj (c : Nat) (l : List (Str × D))
  | dic (l : List (Key × D))
  | pool
  | ty (n : String) | cls (a : Addr)

/-- the classes' addresses, what the pool holds -/
structure Cl where
  frac : Addr
  cls : Nat → Addr
  pk : Hp → Option HO → Prop
  pkm : ∀ {W W' : Hp} {o}, Same W W' → pk W o → pk W' o
  pks : ∀ {W : Hp} {o}, pk W o → ∃ x, o = some x
  m : Hp

def fracF (q : Rat) : List (Str × V) := [("num", .int q.num), ("den", .int q.den)]

mutual
inductive Rep (C : Cl) (P : Option Addr) (W : Hp) : V → D → Prop where
  | non : Rep C P W .non .non
  | bl (b : Bool) : Rep C P W (.bl b) (.bl b)
  | int (i : Int) : Rep C P W (.int i) (.int i)
  | str (s : Str) : Rep C P W (.str s) (.str s)
  | lst {a : Addr} {vs : List V} {l : List D} : W a = some (.lst vs) → RepL C P W vs l → Rep C P W (.ref a) (.lst l)
  | tup {a : Addr} {vs : List V} {l : List D} : W a = some (.tup vs) → RepL C P W vs l → Rep C P W (.ref a) (.tup l)
  | raw {a : Addr} {o : Obj} {vs : List V} {l : List D} : W a = some (.frz o (.lst vs)) → RepL C P W vs l → Rep C P W (.ref a) (.raw l)
  | mls {a : Addr} {vs : List V} {l : List D} : C.m a = some (.lst vs) → RepL C P W vs l → Rep C P W (.ref a) (.mls l)
  | adr (a : Addr) : Rep C P W (.ref a) (.adr a)
  | frac {a dx : Addr} {q : Rat} : W a = some (.ins C.frac dx (fracF q)) → Rep C P W (.ref a) (.frac q)
  | obj {a dx : Addr} {c : Nat} {fs : List (Str × V)} {l : List (Str × D)} : W a = some (.ins (C.cls c) dx fs) → fs.map (·.1) = l.map (·.1) → RepL C P W (fs.map (·.2)) (l.map (·.2)) → Rep C P W (.ref a) (.obj c l)
  | dic {a : Addr} {fs : List (Key × V)} {l : List (Key × D)} : W a = some (.dK fs) → fs.map (·.1) = l.map (·.1) → RepL C P W (fs.map (·.2)) (l.map (·.2)) → Rep C P W (.ref a) (.dic l)
  | pool {a : Addr} : P = some a → Rep C P W (.ref a) .pool
  | ty (n : String) : Rep C P W (.ty n) (.ty n)
  | cls (a : Addr) : Rep C P W (.ref a) (.cls a)
inductive RepL (C : Cl) (P : Option Addr) (W : Hp) : List V → List D → Prop where
  | nil : RepL C P W [] []
  | cons {v : V} {d : D} {vs : List V} {l : List D} : Rep C P W v d → RepL C P W vs l → RepL C P W (v :: vs) (d :: l)
end

section
variable {C : Cl} {P : Option Addr} {W W' : Hp}
mutual
theorem Rep.mono (s : Same W W') : ∀ {v : V} {d : D}, Rep C P W v d → Rep C P W' v d
  | _, _, .non => .non
  | _, _, .bl b => .bl b
  | _, _, .int i => .int i
  | _, _, .str i => .str i
  | _, _, .lst h r => .lst (s _ _ h) (RepL.mono s r)
  | _, _, .tup h r => .tup (s _ _ h) (RepL.mono s r)
  | _, _, .raw h r => .raw (s _ _ h) (RepL.mono s r)
  | _, _, .mls h r => .mls h (RepL.mono s r)
  | _, _, .adr a => .adr a
  | _, _, .frac h => .frac (s _ _ h)
  | _, _, .obj h e r => .obj (s _ _ h) e (RepL.mono s r)
  | _, _, .dic h e r => .dic (s _ _ h) e (RepL.mono s r)
  | _, _, .pool h => .pool h
  | _, _, .ty n => .ty n
  | _, _, .cls n => .cls n
theorem RepL.mono (s : Same W W') : ∀ {vs : List V} {l : List D}, RepL C P W vs l → RepL C P W' vs l
  | _, _, .nil => .nil
  | _, _, .cons h r => .cons (Rep.mono s h) (RepL.mono s r)
end
theorem RepL.length : ∀ {vs : List V} {l : List D}, RepL C P W vs l → vs.length = l.length
  | _, _, .nil => rfl
  | _, _, .cons _ r => congrArg Nat.succ r.length
theorem RepL.get : ∀ {vs : List V} {l : List D} {i : Nat} {d : D}, RepL C P W vs l → l[i]? = some d → ∃ v, vs[i]? = some v ∧ Rep C P W v d
  | _, _, _, _, .nil, e => by simp at e
  | _, _, 0, d, .cons h r, e => by simp at e; subst e; exact ⟨_, rfl, h⟩
  | _, _, i + 1, d, .cons h r, e => by
    obtain ⟨v, h1, h2⟩ := RepL.get (i := i) r (by simpa using e)
    exact ⟨v, by simpa using h1, h2⟩
theorem RepL.getV : ∀ {vs : List V} {l : List D} {i : Nat} {v : V}, RepL C P W vs l → vs[i]? = some v → ∃ d, l[i]? = some d ∧ Rep C P W v d
  | _, _, _, _, .nil, e => by simp at e
  | _, _, 0, d, .cons h r, e => by simp at e; subst e; exact ⟨_, rfl, h⟩
  | _, _, i + 1, d, .cons h r, e => by
    obtain ⟨v, h1, h2⟩ := RepL.getV (i := i) r (by simpa using e)
    exact ⟨v, by simpa using h1, h2⟩
theorem RepL.append : ∀ {vs ws : List V} {l m : List D}, RepL C P W vs l → RepL C P W ws m → RepL C P W (vs ++ ws) (l ++ m)
  | _, _, _, _, .nil, s => s
  | _, _, _, _, .cons h r, s => .cons h (RepL.append r s)
theorem RepL.one {v : V} {d : D} (h : Rep C P W v d) : RepL C P W [v] [d] := .cons h .nil
theorem RepL.take : ∀ {vs : List V} {l : List D} (n : Nat), RepL C P W vs l → RepL C P W (vs.take n) (l.take n)
  | _, _, 0, _ => .nil
  | _, _, _ + 1, .nil => .nil
  | _, _, n + 1, .cons h r => .cons h (RepL.take n r)
theorem RepL.drop : ∀ {vs : List V} {l : List D} (n : Nat), RepL C P W vs l → RepL C P W (vs.drop n) (l.drop n)
  | _, _, 0, r => r
  | _, _, _ + 1, .nil => .nil
  | _, _, n + 1, .cons _ r => RepL.drop n r
theorem RepL.set {v : V} {d : D} (h : Rep C P W v d) : ∀ {vs : List V} {l : List D} (i : Nat), RepL C P W vs l → RepL C P W (vs.set i v) (l.set i d)
  | _, _, _, .nil => .nil
  | _, _, 0, .cons _ r => .cons h r
  | _, _, i + 1, .cons q r => .cons q (RepL.set h i r)
theorem RepL.reverse : ∀ {vs : List V} {l : List D}, RepL C P W vs l → RepL C P W vs.reverse l.reverse
  | _, _, .nil => .nil
  | _, _, .cons h r => by
    rw [List.reverse_cons, List.reverse_cons]
    exact (RepL.reverse r).append (.one h)
theorem RepL.rep {vs : List V} {l : List D} (h : RepL C P W vs l) : ∀ k : Nat, RepL C P W (List.replicate k vs).flatten (List.replicate k l).flatten
  | 0 => .nil
  | k + 1 => by
    rw [List.replicate_succ, List.replicate_succ, List.flatten_cons, List.flatten_cons]
    exact h.append (RepL.rep h k)
theorem RepL.cut {vs : List V} {l : List D} (h : RepL C P W vs l) (lo hi : Option Int) : RepL C P W (cutV vs lo hi) ((l.drop (HT.sIx l.length 0 lo)).take (HT.sIx l.length l.length hi - HT.sIx l.length 0 lo)) := by
  unfold cutV
  rw [h.length]
  exact (h.drop _).take _
theorem RepL.ints : ∀ {vs : List V} {ns : List Int}, RepL C P W vs (ns.map D.int) → vs = ns.map V.int
  | vs, [], h => by cases h; rfl
  | vs, n :: ns, h => by
    cases h with
    | cons h r =>
      cases h
      rw [RepL.ints r]
      rfl
theorem RepL.bls : ∀ {vs : List V} {bs : List Bool}, RepL C P W vs (bs.map D.bl) → vs = bs.map V.bl
  | vs, [], h => by cases h; rfl
  | vs, n :: ns, h => by
    cases h with
    | cons h r =>
      cases h
      rw [RepL.bls r]
      rfl
theorem repL_ints : ∀ {ns : List Int}, RepL C P W (ns.map V.int) (ns.map D.int)
  | [] => .nil
  | n :: ns => .cons (.int n) repL_ints
end

/-- nothing is given to be changed -/
abbrev noS : Addr → Prop := fun _ => False
/-- a step of the heap: the world grows, what was tracked stands but for the pool (P) and what is given to be changed (S) -/
structure Stp (C : Cl) (P : Option Addr) (S : Addr → Prop) (W H W' H' : Hp) : Prop where
  ww : Same W W'
  wh : Same W' H'
  hh : ∀ a o, H a = some o → P ≠ some a → ¬ S a → H' a = some o
  dom : ∀ a o, H a = some o → ∃ o', H' a = some o'
  old : ∀ a o, H a = some o → W' a = W a
  pool : ∀ a, P = some a → C.pk W (H a) → C.pk W' (H' a)

section
variable {C : Cl} {P : Option Addr} {S : Addr → Prop} {W H W' H' W2 H2 : Hp}
theorem Stp.refl (h : Same W H) : Stp C P S W H W H := ⟨.refl _, h, fun _ _ e _ _ => e, fun _ o e => ⟨o, e⟩, fun _ _ _ => rfl, fun _ _ q => q⟩
theorem Stp.trans (a : Stp C P S W H W' H') (b : Stp C P S W' H' W2 H2) : Stp C P S W H W2 H2 where
  ww := a.ww.trans b.ww
  wh := b.wh
  hh := fun x o e p s => b.hh x o (a.hh x o e p s) p s
  dom := fun x o e => let ⟨o', e'⟩ := a.dom x o e; b.dom x o' e'
  old := fun x o e => let ⟨o', e'⟩ := a.dom x o e; (b.old x o' e').trans (a.old x o e)
  pool := fun x e q => b.pool x e (a.pool x e q)
theorem Stp.self (a : Stp C P noS W H W' H') : Stp C P S W H W' H' := ⟨a.ww, a.wh, fun x o e p _ => a.hh x o e p (fun z => z), a.dom, a.old, a.pool⟩
theorem Stp.free (a : Stp C P S W H W' H') {x : Addr} (h : H' x = none) : H x = none := by
  cases e : H x with
  | none => rfl
  | some o =>
    obtain ⟨o', e'⟩ := a.dom x o e
    rw [e'] at h; cases h
/-- a new object, persistent -/
theorem Stp.new (hw : Same W H) {p : Addr} {o : HO} (hp : H p = none) (hP : ∀ a, P = some a → H a ≠ none) : Stp C P S W H (upd W p o) (upd H p o) where
  ww := fun a u e => by rw [upd_ne (ne_of_none (hw a u e) hp)]; exact e
  wh := fun a u e => by
    by_cases h : a = p
    · subst h; rw [upd_same] at e ⊢; exact e
    · rw [upd_ne h] at e ⊢; exact hw a u e
  hh := fun a u e _ _ => by rw [upd_ne (ne_of_none e hp)]; exact e
  dom := fun a u e => ⟨u, by rw [upd_ne (ne_of_none e hp)]; exact e⟩
  old := fun a u e => by rw [upd_ne (ne_of_none e hp)]
  pool := fun a e q => by
    have h : a ≠ p := fun z => by subst z; exact hP a e hp
    rw [upd_ne h]
    exact C.pkm (fun b u e => by rw [upd_ne (ne_of_none (hw b u e) hp)]; exact e) q
/-- a new object, not yet in the world -/
theorem Stp.own (hw : Same W H) {p : Addr} {o : HO} (hp : H p = none) (hP : ∀ a, P = some a → H a ≠ none) : Stp C P S W H W (upd H p o) where
  ww := .refl _
  wh := fun a u e => by rw [upd_ne (ne_of_none (hw a u e) hp)]; exact hw a u e
  hh := fun a u e _ _ => by rw [upd_ne (ne_of_none e hp)]; exact e
  dom := fun a u e => ⟨u, by rw [upd_ne (ne_of_none e hp)]; exact e⟩
  old := fun a u e => rfl
  pool := fun a e q => by
    have h : a ≠ p := fun z => by subst z; exact hP a e hp
    rw [upd_ne h]
    exact q
end

/-- slots of a frame: unknown; data; a list that only this frame knows; an instance that is being made; behind the slots: the lists that this frame may change, by their addresses -/
inductive Sl where
  | no
  | d (x : D)
  | own (l : List D)
  | ins (c : Addr) (l : List (Str × D))
  | reg (cs : List (Addr × List D))

def Sl.isO : Sl → Bool
  | .own _ => true
  | .ins _ _ => true
  | _ => false
def Sl.isR : Sl → Bool
  | .reg _ => true
  | _ => false
/-- the i-th is a slot -/
def isSlot : List Sl → Nat → Bool
  | [], _ => false
  | s :: _, 0 => !s.isR
  | _ :: r, i + 1 => isSlot r i
theorem isSlot_at : ∀ {Γ : List Sl} {i : Nat}, isSlot Γ i = true → ∃ s, Γ[i]? = some s ∧ s.isR = false
  | [], _, h => by cases h
  | s :: _, 0, h => ⟨s, rfl, by simpa [isSlot] using h⟩
  | _ :: r, i + 1, h => by
    obtain ⟨s, h1, h2⟩ := isSlot_at (Γ := r) (i := i) h
    exact ⟨s, by simpa using h1, h2⟩
theorem isSlot_set {s : Sl} (hs : s.isR = false) : ∀ {Γ : List Sl} {i j : Nat}, isSlot Γ j = true → isSlot (Γ.set i s) j = true
  | [], _, _, h => by cases h
  | _ :: _, 0, 0, h => by simp [isSlot, hs]
  | _ :: _, 0, _ + 1, h => h
  | _ :: _, _ + 1, 0, h => h
  | _ :: r, i + 1, j + 1, h => isSlot_set hs (Γ := r) (i := i) (j := j) h
theorem isSlot_lt {Γ : List Sl} {i : Nat} (h : isSlot Γ i = true) : i < Γ.length := by
  obtain ⟨s, h1, _⟩ := isSlot_at h
  exact (List.getElem?_eq_some_iff.mp h1).1

def SlOk (C : Cl) (P : Option Addr) (W H : Hp) (ov : Option V) (a : Addr) : Sl → Prop
  | .no => True
  | .d x => ∃ v, ov = some v ∧ Rep C P W v x
  | .own l => ov = some (.ref a) ∧ ∃ vs, H a = some (.lst vs) ∧ RepL C P W vs l
  | .ins c l => ov = some (.ref a) ∧ ∃ dx fs, H a = some (.ins c dx fs) ∧ fs.map (·.1) = l.map (·.1) ∧ RepL C P W (fs.map (·.2)) (l.map (·.2))
  | .reg _ => True

/-- where a body began: the pool, what is given to be changed, world and heap at its entry, and what of the world is surely there -/
structure Bs where
  P : Option Addr
  S : Addr → Prop
  W0 : Hp
  H0 : Hp
  kp : Hp

def Bs.keep (B : Bs) (W : Hp) : Bs := { B with kp := W }

/-- the pool is there, and what may be read but not kept -/
structure PlOk (C : Cl) (P : Option Addr) (W H : Hp) : Prop where
  po : ∀ a, P = some a → W a = none ∧ C.pk W (H a)
  rg : ∀ a o, C.m a = some o → H a = some o ∧ W a = none ∧ P ≠ some a
theorem PlOk.ne {C : Cl} {P : Option Addr} {W H : Hp} (h : PlOk C P W H) : ∀ a, P = some a → H a ≠ none := fun a e z => by
  obtain ⟨x, q⟩ := C.pks (h.po a e).2
  rw [z] at q; cases q
theorem PlOk.step {C : Cl} {P : Option Addr} {W H W' H' : Hp} (h : PlOk C P W H) (s : Stp C P noS W H W' H') : PlOk C P W' H' where
  po := fun a e => by
    obtain ⟨h1, h2⟩ := h.po a e
    obtain ⟨x, q⟩ := C.pks h2
    exact ⟨(s.old a x q).trans h1, s.pool a e h2⟩
  rg := fun a o e => by
    obtain ⟨h1, h2, h3⟩ := h.rg a o e
    exact ⟨s.hh a o h1 h3 (fun z => z), (s.old a o h1).trans h2, h3⟩

def Fr (B : Bs) (W : Hp) (a : Addr) : Sl → Prop
  | .ins _ _ => W a = none ∧ B.P ≠ some a ∧ B.S a
  | _ => W a = none ∧ B.P ≠ some a ∧ B.H0 a = none
theorem Fr.w {B : Bs} {W : Hp} {a : Addr} {s : Sl} (h : Fr B W a s) : W a = none := by cases s <;> exact h.1
theorem Fr.p {B : Bs} {W : Hp} {a : Addr} {s : Sl} (h : Fr B W a s) : B.P ≠ some a := by cases s <;> exact h.2.1
theorem Fr.h {B : Bs} {W : Hp} {a : Addr} {s : Sl} (h : Fr B W a s) : B.H0 a = none ∨ B.S a := by cases s <;> first | exact .inl h.2.2 | exact .inr h.2.2
theorem Fr.mono {B : Bs} {W W' : Hp} {a : Addr} {s : Sl} (h : Fr B W a s) (z : W' a = none) : Fr B W' a s := by cases s <;> exact ⟨z, h.2.1, h.2.2⟩

/-- a list that the frame may change -/
structure CellOk (C : Cl) (B : Bs) (W H : Hp) (p : Addr × List D) : Prop where
  w : W p.1 = none
  np : B.P ≠ some p.1
  h : B.H0 p.1 = none
  at_ : ∃ vs, H p.1 = some (.lst vs) ∧ RepL C B.P W vs p.2

structure Owns (C : Cl) (B : Bs) (W H : Hp) (σ : L2.St) (Γ : List Sl) (ow : Nat → Addr) : Prop where
  inj : ∀ (i j : Nat) (s t : Sl), Γ[i]? = some s → Γ[j]? = some t → s.isO = true → t.isO = true → ow i = ow j → i = j
  fr : ∀ (i : Nat) (s : Sl), Γ[i]? = some s → s.isO = true → Fr B W (ow i) s
  ok : ∀ (i : Nat) (s : Sl), Γ[i]? = some s → SlOk C B.P W H (σ.getD i none) (ow i) s
  one : ∀ (i j : Nat) (cs ds : List (Addr × List D)), Γ[i]? = some (.reg cs) → Γ[j]? = some (.reg ds) → i = j
  nd : ∀ (i : Nat) (cs : List (Addr × List D)), Γ[i]? = some (.reg cs) → (cs.map (·.1)).Nodup
  cl : ∀ (i : Nat) (cs : List (Addr × List D)) (p : Addr × List D), Γ[i]? = some (.reg cs) → p ∈ cs → CellOk C B W H p
  df : ∀ (i : Nat) (cs : List (Addr × List D)) (p : Addr × List D) (j : Nat) (s : Sl), Γ[i]? = some (.reg cs) → p ∈ cs → Γ[j]? = some s → s.isO = true → ow j ≠ p.1

structure LenOk (σ : L2.St) (Γ : List Sl) : Prop where
  le : σ.length ≤ Γ.length
  c : ∀ (i : Nat) (s : Sl), Γ[i]? = some s → (σ.length ≤ i ↔ s.isR = true)
theorem LenOk.lt {σ : L2.St} {Γ : List Sl} (h : LenOk σ Γ) {i : Nat} (hi : isSlot Γ i = true) : i < σ.length := by
  obtain ⟨s, h1, h2⟩ := isSlot_at hi
  rcases Nat.lt_or_ge i σ.length with z | z
  · exact z
  · rw [(h.c i s h1).mp z] at h2; cases h2
theorem LenOk.set {σ : L2.St} {Γ : List Sl} (h : LenOk σ Γ) {i : Nat} {x : Option V} {s : Sl} (hi : i < σ.length) (hs : s.isR = false) : LenOk (σ.set i x) (Γ.set i s) where
  le := by rw [List.length_set, List.length_set]; exact h.le
  c := fun j t h1 => by
    rw [List.length_set]
    by_cases hj : i = j
    · subst hj
      rw [List.getElem?_set_self (by have := h.le; omega)] at h1
      cases h1
      exact ⟨fun z => by omega, fun z => by rw [hs] at z; cases z⟩
    · rw [List.getElem?_set_ne hj] at h1
      exact h.c j t h1
theorem LenOk.setG {σ : L2.St} {Γ : List Sl} (h : LenOk σ Γ) {i : Nat} {s t : Sl} (hs : Γ[i]? = some s) (e : s.isR = t.isR) : LenOk σ (Γ.set i t) where
  le := by rw [List.length_set]; exact h.le
  c := fun j u h1 => by
    by_cases hj : i = j
    · subst hj
      rw [List.getElem?_set_self (List.getElem?_eq_some_iff.mp hs).1] at h1
      cases h1
      rw [← e]
      exact h.c i s hs
    · rw [List.getElem?_set_ne hj] at h1
      exact h.c j u h1

structure EnvOk (C : Cl) (B : Bs) (W H : Hp) (σ : L2.St) (Γ : List Sl) : Prop where
  stp : Stp C B.P B.S B.W0 B.H0 W H
  kp : Same B.kp W
  pl : PlOk C B.P W H
  p0 : ∀ a o, C.m a = some o → B.H0 a = some o ∧ ¬ B.S a
  len : LenOk σ Γ
  ow : ∃ ow : Nat → Addr, Owns C B W H σ Γ ow

section
variable {C : Cl} {B : Bs} {W H W' H' : Hp} {σ : L2.St} {Γ Γ' : List Sl}
theorem EnvOk.wh (e : EnvOk C B W H σ Γ) : Same W H := e.stp.wh
/-- an address that may be changed is none of those that are only read -/
theorem EnvOk.nm (e : EnvOk C B W H σ Γ) {a b : Addr} {o : HO} (h : B.H0 a = none ∨ B.S a) (hm : C.m b = some o) : b ≠ a := fun z => by
  subst z
  obtain ⟨h1, h2⟩ := e.p0 b o hm
  rcases h with h | h
  · rw [h1] at h; cases h
  · exact h2 h
theorem SlOk.isO_at {ov : Option V} {a : Addr} {s : Sl} {P : Option Addr} (h : SlOk C P W H ov a s) (o : s.isO = true) : ∃ u, H a = some u := by
  cases s with
  | no => cases o
  | d x => cases o
  | own l => obtain ⟨_, vs, q, _⟩ := h; exact ⟨_, q⟩
  | ins c l => obtain ⟨_, dx, fs, q, _⟩ := h; exact ⟨_, q⟩
  | reg cs => cases o
theorem CellOk.step {p : Addr × List D} (k : CellOk C B W H p) (s : Stp C B.P noS W H W' H') : CellOk C B W' H' p := by
  obtain ⟨vs, h1, h2⟩ := k.at_
  exact ⟨(s.old _ _ h1).trans k.w, k.np, k.h, vs, s.hh _ _ h1 k.np (fun z => z), h2.mono s.ww⟩
theorem Owns.step {ow : Nat → Addr} (o : Owns C B W H σ Γ ow) (s : Stp C B.P noS W H W' H') : Owns C B W' H' σ Γ ow := by
  refine ⟨o.inj, fun i t h1 h2 => ?_, fun i t h1 => ?_, o.one, o.nd, fun i cs p h1 h2 => (o.cl i cs p h1 h2).step s, o.df⟩
  · obtain ⟨u, hu⟩ := (o.ok i t h1).isO_at h2
    exact (o.fr i t h1 h2).mono ((s.old _ _ hu).trans (o.fr i t h1 h2).w)
  · have k := o.ok i t h1
    cases t with
    | no => trivial
    | d x => obtain ⟨v, h3, h4⟩ := k; exact ⟨v, h3, h4.mono s.ww⟩
    | own l =>
      obtain ⟨h3, vs, h4, h5⟩ := k
      exact ⟨h3, vs, s.hh _ _ h4 (o.fr i _ h1 rfl).p (fun z => z), h5.mono s.ww⟩
    | ins c l =>
      obtain ⟨h3, dx, fs, h4, h5, h6⟩ := k
      exact ⟨h3, dx, fs, s.hh _ _ h4 (o.fr i _ h1 rfl).p (fun z => z), h5, h6.mono s.ww⟩
    | reg cs => trivial
theorem Owns.at_ {ow : Nat → Addr} (o : Owns C B W H σ Γ ow) {i : Nat} {s : Sl} (h : Γ[i]? = some s) (hs : s.isO = true) : ∃ u, H (ow i) = some u := (o.ok i s h).isO_at hs
theorem Owns.ne {ow : Nat → Addr} (o : Owns C B W H σ Γ ow) {p : Addr} (hp : H p = none) : ∀ i s, Γ[i]? = some s → s.isO = true → ow i ≠ p := fun i s h1 h2 z => by
  obtain ⟨u, hu⟩ := o.at_ h1 h2
  rw [z, hp] at hu; cases hu
theorem Owns.neC {ow : Nat → Addr} (o : Owns C B W H σ Γ ow) {p : Addr} (hp : H p = none) : ∀ (i : Nat) (cs : List (Addr × List D)) (q : Addr × List D), Γ[i]? = some (.reg cs) → q ∈ cs → q.1 ≠ p := fun i cs q h1 h2 z => by
  obtain ⟨vs, hu, _⟩ := (o.cl i cs q h1 h2).at_
  rw [z, hp] at hu; cases hu
theorem EnvOk.step (e : EnvOk C B W H σ Γ) (s : Stp C B.P noS W H W' H') : EnvOk C B W' H' σ Γ where
  stp := e.stp.trans s.self
  kp := e.kp.trans s.ww
  pl := e.pl.step s
  p0 := e.p0
  len := e.len
  ow := let ⟨ow, o⟩ := e.ow; ⟨ow, o.step s⟩
/-- the heap changes at one address that the frame may change -/
theorem EnvOk.stpAt (e : EnvOk C B W H σ Γ) {p : Addr} {u : HO} (hp : W p = none) (hP : B.P ≠ some p) (h0 : B.H0 p = none ∨ B.S p) : Stp C B.P B.S B.W0 B.H0 W (upd H p u) ∧ PlOk C B.P W (upd H p u) := by
  refine ⟨⟨e.stp.ww, fun a x q => ?_, fun a x q p' z => ?_, fun a x q => ?_, e.stp.old, fun a q z => ?_⟩, fun a q => ?_, fun a o q => ?_⟩
  · rw [upd_ne (fun z => by subst z; rw [hp] at q; cases q)]
    exact e.wh a x q
  · by_cases ha : a = p
    · subst ha
      rcases h0 with h0 | h0
      · rw [h0] at q; cases q
      · exact absurd h0 z
    · rw [upd_ne ha]; exact e.stp.hh a x q p' z
  · by_cases ha : a = p
    · subst ha; exact ⟨u, upd_same⟩
    · rw [upd_ne ha]; exact e.stp.dom a x q
  · rw [upd_ne (fun z => by subst z; exact hP q)]
    exact e.stp.pool a q z
  · rw [upd_ne (fun z => by subst z; exact hP q)]
    exact e.pl.po a q
  · rw [upd_ne (e.nm h0 q)]
    exact e.pl.rg a o q
/-- an object beside the frame changes -/
theorem EnvOk.poke (e : EnvOk C B W H σ Γ) {ow : Nat → Addr} (o : Owns C B W H σ Γ ow) {p : Addr} {u : HO} (hp : W p = none) (hP : B.P ≠ some p) (h0 : B.H0 p = none ∨ B.S p) (hn : ∀ i s, Γ[i]? = some s → s.isO = true → ow i ≠ p)
    (hc : ∀ (i : Nat) (cs : List (Addr × List D)) (q : Addr × List D), Γ[i]? = some (.reg cs) → q ∈ cs → q.1 ≠ p) : EnvOk C B W (upd H p u) σ Γ ∧ Owns C B W (upd H p u) σ Γ ow := by
  have o' : Owns C B W (upd H p u) σ Γ ow := ⟨o.inj, o.fr, fun i s h1 => by
    have k := o.ok i s h1
    cases s with
    | no => trivial
    | d x => exact k
    | own l => obtain ⟨q1, vs, q2, q3⟩ := k; exact ⟨q1, vs, by rw [upd_ne (hn i _ h1 rfl)]; exact q2, q3⟩
    | ins c l => obtain ⟨q1, dx, fs, q2, q3⟩ := k; exact ⟨q1, dx, fs, by rw [upd_ne (hn i _ h1 rfl)]; exact q2, q3⟩
    | reg cs => trivial, o.one, o.nd, fun i cs q h1 h2 => by
      have k := o.cl i cs q h1 h2
      obtain ⟨vs, k1, k2⟩ := k.at_
      exact ⟨k.w, k.np, k.h, vs, by rw [upd_ne (hc i cs q h1 h2)]; exact k1, k2⟩, o.df⟩
  obtain ⟨s1, s2⟩ := e.stpAt (u := u) hp hP h0
  exact ⟨⟨s1, e.kp, s2, e.p0, e.len, ow, o'⟩, o'⟩
theorem EnvOk.keep (e : EnvOk C B W H σ Γ) (W1 : Hp) (h : Same W1 W) : EnvOk C (B.keep W1) W H σ Γ := by
  obtain ⟨ow, o⟩ := e.ow
  exact ⟨e.stp, h, e.pl, e.p0, e.len, ow, o.inj, o.fr, o.ok, o.one, o.nd, fun i cs p h1 h2 => let k := o.cl i cs p h1 h2; ⟨k.w, k.np, k.h, k.at_⟩, o.df⟩
theorem EnvOk.unkeep {W1 : Hp} (e : EnvOk C (B.keep W1) W H σ Γ) (h : Same B.kp W1) : EnvOk C B W H σ Γ := by
  obtain ⟨ow, o⟩ := e.ow
  exact ⟨e.stp, h.trans e.kp, e.pl, e.p0, e.len, ow, o.inj, o.fr, o.ok, o.one, o.nd, fun i cs p h1 h2 => let k := o.cl i cs p h1 h2; ⟨k.w, k.np, k.h, k.at_⟩, o.df⟩

/-- fewer things known -/
inductive Wk : List Sl → List Sl → Prop where
  | nil : Wk [] []
  | cut {cs : List (Addr × List D)} {l : List Sl} (w : Wk l []) : Wk (.reg cs :: l) []
  | sub {cs ds : List (Addr × List D)} {l : List Sl} (w : Wk l []) (h : ∀ p ∈ ds, p ∈ cs) (n : (ds.map (·.1)).Nodup) : Wk (.reg cs :: l) [.reg ds]
  | same {s : Sl} {l m : List Sl} : Wk l m → Wk (s :: l) (s :: m)
  | no {s : Sl} {l m : List Sl} (w : Wk l m) (h : s.isR = false := by rfl) : Wk (s :: l) (.no :: m)
theorem Wk.refl : ∀ {l : List Sl}, Wk l l
  | [] => .nil
  | _ :: _ => .same Wk.refl
theorem Wk.len : ∀ {l m : List Sl}, Wk l m → m.length ≤ l.length ∧ ∀ (i : Nat) (s : Sl), m.length ≤ i → l[i]? = some s → s.isR = true
  | _, _, .nil => ⟨Nat.le_refl _, fun i s _ h => by simp at h⟩
  | _, _, .cut w => ⟨Nat.zero_le _, fun i s _ h => by
    cases i with
    | zero => simp at h; subst h; rfl
    | succ i => exact w.len.2 i s (Nat.zero_le _) (by simpa using h)⟩
  | _, _, .sub w _ _ => ⟨Nat.succ_le_succ (Nat.zero_le _), fun i s z h => by
    cases i with
    | zero => simp at z
    | succ i => exact w.len.2 i s (Nat.zero_le _) (by simpa using h)⟩
  | _, _, .same w => ⟨Nat.succ_le_succ w.len.1, fun i s z h => by
    cases i with
    | zero => simp at z
    | succ i => exact w.len.2 i s (Nat.le_of_succ_le_succ z) (by simpa using h)⟩
  | _, _, .no w _ => ⟨Nat.succ_le_succ w.len.1, fun i s z h => by
    cases i with
    | zero => simp at z
    | succ i => exact w.len.2 i s (Nat.le_of_succ_le_succ z) (by simpa using h)⟩
theorem Wk.get : ∀ {l m : List Sl} {i : Nat} {t : Sl}, Wk l m → m[i]? = some t → (t = .no ∧ ∃ s, l[i]? = some s ∧ s.isR = false) ∨ l[i]? = some t ∨ ∃ cs ds, t = .reg ds ∧ l[i]? = some (.reg cs) ∧ (∀ p ∈ ds, p ∈ cs) ∧ (ds.map (·.1)).Nodup
  | _, _, _, _, .nil, e => by simp at e
  | _, _, _, _, .cut _, e => by simp at e
  | _, _, 0, t, .sub _ h n, e => by right; right; simp at e; exact ⟨_, _, e.symm, rfl, h, n⟩
  | _, _, i + 1, t, .sub _ h n, e => by simp at e
  | _, _, 0, t, .same h, e => by right; left; simpa using e
  | _, _, 0, t, .no h z, e => by left; exact ⟨by simpa using e.symm, _, rfl, z⟩
  | _, _, i + 1, t, .same h, e => by
    have := Wk.get (i := i) h (by simpa using e)
    simpa using this
  | _, _, i + 1, t, .no h _, e => by
    have := Wk.get (i := i) h (by simpa using e)
    simpa using this
theorem Wk.slot : ∀ {l m : List Sl} {i : Nat}, Wk l m → isSlot m i = true → isSlot l i = true
  | _, _, _, .nil, e => e
  | _, _, _, .cut _, e => by cases e
  | _, _, 0, .sub _ _ _, e => by cases e
  | _, _, _ + 1, .sub _ _ _, e => by cases e
  | _, _, 0, .same h, e => e
  | _, _, 0, .no h z, e => by simp [isSlot, z]
  | _, _, i + 1, .same h, e => Wk.slot (i := i) h e
  | _, _, i + 1, .no h _, e => Wk.slot (i := i) h e
theorem LenOk.weak {σ : L2.St} (h : LenOk σ Γ) (w : Wk Γ Γ') : LenOk σ Γ' where
  le := by
    rcases Nat.lt_or_ge Γ'.length σ.length with z | z
    · have hl : Γ'.length < Γ.length := Nat.lt_of_lt_of_le z h.le
      have hg : Γ[Γ'.length]? = some Γ[Γ'.length] := by simp [hl]
      have := (h.c _ _ hg).mpr (w.len.2 _ _ (Nat.le_refl _) hg)
      omega
    · exact z
  c := fun i s h1 => by
    rcases w.get h1 with ⟨rfl, t, z, y⟩ | z | ⟨cs, ds, rfl, z, _⟩
    · have := h.c i t z
      rw [y] at this
      exact this
    · exact h.c i s z
    · exact h.c i (.reg cs) z
theorem Owns.weak {ow : Nat → Addr} (o : Owns C B W H σ Γ ow) (w : Wk Γ Γ') : Owns C B W H σ Γ' ow := by
  have gO : ∀ {i : Nat} {s : Sl}, Γ'[i]? = some s → s.isO = true → Γ[i]? = some s := fun h1 h2 => by
    rcases w.get h1 with ⟨rfl, _⟩ | z | ⟨cs, ds, rfl, z, _⟩
    · cases h2
    · exact z
    · cases h2
  have gR : ∀ {i : Nat} {ds}, Γ'[i]? = some (.reg ds) → ∃ cs, Γ[i]? = some (.reg cs) ∧ (∀ p ∈ ds, p ∈ cs) ∧ (ds.map (·.1)).Nodup := fun {i ds} h1 => by
    rcases w.get h1 with ⟨z, _⟩ | z | ⟨cs, ds, e, z, y⟩
    · cases z
    · exact ⟨ds, z, fun _ h => h, o.nd _ _ z⟩
    · cases e; exact ⟨cs, z, y⟩
  refine ⟨fun i j s t h1 h2 h3 h4 => o.inj i j s t (gO h1 h3) (gO h2 h4) h3 h4, fun i s h1 h2 => o.fr i s (gO h1 h2) h2, fun i s h1 => ?_, fun i j cs ds h1 h2 => ?_, fun i cs h1 => ?_, fun i cs p h1 h2 => ?_, fun i cs p j s h1 h2 h3 h4 => ?_⟩
  · rcases w.get h1 with ⟨rfl, _⟩ | z | ⟨cs, ds, rfl, z, _⟩
    · trivial
    · exact o.ok i s z
    · trivial
  · obtain ⟨cs', z1, _⟩ := gR h1
    obtain ⟨ds', z2, _⟩ := gR h2
    exact o.one i j _ _ z1 z2
  · obtain ⟨_, _, _, z⟩ := gR h1; exact z
  · obtain ⟨cs', z1, z2, _⟩ := gR h1
    exact o.cl i cs' p z1 (z2 p h2)
  · obtain ⟨cs', z1, z2, _⟩ := gR h1
    exact o.df i cs' p j s z1 (z2 p h2) (gO h3 h4) h4
theorem EnvOk.weak (e : EnvOk C B W H σ Γ) (w : Wk Γ Γ') : EnvOk C B W H σ Γ' := by
  obtain ⟨ow, o⟩ := e.ow
  exact ⟨e.stp, e.kp, e.pl, e.p0, e.len.weak w, ow, o.weak w⟩
theorem getD_set_same {σ : L2.St} {i : Nat} {x : Option V} (h : i < σ.length) : (σ.set i x).getD i none = x := by
  rw [List.getD_eq_getElem?_getD, List.getElem?_set_self h]; rfl
theorem getD_set_ne {σ : L2.St} {i j : Nat} {x : Option V} (h : i ≠ j) : (σ.set i x).getD j none = σ.getD j none := by
  rw [List.getD_eq_getElem?_getD, List.getD_eq_getElem?_getD, List.getElem?_set_ne h]
theorem set_cases {i a : Nat} {s t : Sl} (h : (Γ.set i t)[a]? = some s) : (a = i ∧ s = t) ∨ (a ≠ i ∧ Γ[a]? = some s) := by
  by_cases ha : i = a
  · subst ha
    by_cases hi : i < Γ.length
    · rw [List.getElem?_set_self hi] at h; cases h; exact .inl ⟨rfl, rfl⟩
    · rw [List.getElem?_eq_none (by simpa using hi)] at h; cases h
  · rw [List.getElem?_set_ne ha] at h; exact .inr ⟨Ne.symm ha, h⟩
/-- a slot gets something that is not owned -/
theorem Owns.put {ow : Nat → Addr} {s : Sl} {i : Nat} {x : Option V} (o : Owns C B W H σ Γ ow) (hi : i < σ.length) (s0 : s.isO = false) (s1 : s.isR = false) (k : SlOk C B.P W H x (ow i) s) : Owns C B W H (σ.set i x) (Γ.set i s) ow := by
  have gO : ∀ {a : Nat} {t : Sl}, (Γ.set i s)[a]? = some t → t.isO = true → Γ[a]? = some t := fun h1 h2 => by
    rcases set_cases h1 with ⟨_, rfl⟩ | ⟨_, z⟩
    · rw [s0] at h2; cases h2
    · exact z
  have gR : ∀ {a : Nat} {cs}, (Γ.set i s)[a]? = some (.reg cs) → Γ[a]? = some (.reg cs) := fun h1 => by
    rcases set_cases h1 with ⟨_, z⟩ | ⟨_, z⟩
    · rw [← z] at s1; cases s1
    · exact z
  refine ⟨fun a b u t h1 h2 h3 h4 => o.inj a b u t (gO h1 h3) (gO h2 h4) h3 h4, fun a u h1 h2 => o.fr a u (gO h1 h2) h2, fun a u h1 => ?_, fun a b cs ds h1 h2 => o.one a b cs ds (gR h1) (gR h2), fun a cs h1 => o.nd a cs (gR h1), fun a cs p h1 h2 => o.cl a cs p (gR h1) h2, fun a cs p b u h1 h2 h3 h4 => o.df a cs p b u (gR h1) h2 (gO h3 h4) h4⟩
  rcases set_cases h1 with ⟨rfl, rfl⟩ | ⟨ha, z⟩
  · rw [getD_set_same hi]; exact k
  · rw [getD_set_ne (Ne.symm ha)]; exact o.ok a u z
theorem Owns.setD {ow : Nat → Addr} (o : Owns C B W H σ Γ ow) (hl : LenOk σ Γ) {i : Nat} {v : V} {x : D} (hi : isSlot Γ i = true) (r : Rep C B.P W v x) : Owns C B W H (σ.set i (some v)) (Γ.set i (.d x)) ow :=
  o.put (hl.lt hi) rfl rfl ⟨v, rfl, r⟩
/-- a slot gets data -/
theorem EnvOk.setD (e : EnvOk C B W H σ Γ) {i : Nat} {v : V} {x : D} (hi : isSlot Γ i = true) (r : Rep C B.P W v x) : EnvOk C B W H (σ.set i (some v)) (Γ.set i (.d x)) := by
  obtain ⟨ow, o⟩ := e.ow
  exact ⟨e.stp, e.kp, e.pl, e.p0, e.len.set (e.len.lt hi) rfl, ow, o.setD e.len hi r⟩
/-- a slot gets a list that nobody else knows -/
theorem EnvOk.setO (e : EnvOk C B W H σ Γ) {i : Nat} {p : Addr} {vs : List V} {l : List D} (hi : isSlot Γ i = true) (hp : B.H0 p = none) (hW : W p = none) (hP : B.P ≠ some p) (hf : ∃ ow : Nat → Addr, Owns C B W H σ Γ ow ∧ (∀ j s, Γ[j]? = some s → s.isO = true → ow j ≠ p) ∧ ∀ (j : Nat) (cs : List (Addr × List D)) (q : Addr × List D), Γ[j]? = some (.reg cs) → q ∈ cs → q.1 ≠ p)
    (hh : H p = some (.lst vs)) (r : RepL C B.P W vs l) : EnvOk C B W H (σ.set i (some (.ref p))) (Γ.set i (.own l)) := by
  obtain ⟨ow, o, hf, hg⟩ := hf
  have hl := e.len.lt hi
  have gR : ∀ {a : Nat} {cs}, (Γ.set i (.own l))[a]? = some (.reg cs) → Γ[a]? = some (.reg cs) := fun h1 => by
    rcases set_cases h1 with ⟨_, z⟩ | ⟨_, z⟩
    · cases z
    · exact z
  refine ⟨e.stp, e.kp, e.pl, e.p0, e.len.set hl rfl, fun j => if j = i then p else ow j, fun a b s t h1 h2 h3 h4 => ?_, fun a s h1 h2 => ?_, fun a s h1 => ?_, fun a b cs ds h1 h2 => o.one a b cs ds (gR h1) (gR h2), fun a cs h1 => o.nd a cs (gR h1), fun a cs q h1 h2 => o.cl a cs q (gR h1) h2, fun a cs q b u h1 h2 h3 h4 => ?_⟩
  · rcases set_cases h1 with ⟨rfl, rfl⟩ | ⟨ha, h1⟩
    · rcases set_cases h2 with ⟨rfl, rfl⟩ | ⟨hb, h2⟩
      · exact fun _ => rfl
      · simp only [if_true, if_neg hb]
        exact fun z => absurd z.symm (hf b t h2 h4)
    · rcases set_cases h2 with ⟨rfl, rfl⟩ | ⟨hb, h2⟩
      · simp only [if_true, if_neg ha]
        rcases set_cases h1 with ⟨z, _⟩ | ⟨_, h1⟩
        · exact absurd z ha
        · exact fun z => absurd z (hf a s h1 h3)
      · simp only [if_neg ha, if_neg hb]
        exact o.inj a b s t h1 h2 h3 h4
  · rcases set_cases h1 with ⟨rfl, rfl⟩ | ⟨ha, h1⟩
    · simp only [if_true]
      exact ⟨hW, hP, hp⟩
    · simp only [if_neg ha]
      exact o.fr a s h1 h2
  · rcases set_cases h1 with ⟨rfl, rfl⟩ | ⟨ha, h1⟩
    · rw [getD_set_same hl]
      simp only [if_true]
      exact ⟨rfl, vs, hh, r⟩
    · rw [getD_set_ne (Ne.symm ha)]
      simp only [if_neg ha]
      exact o.ok a s h1
  · rcases set_cases h3 with ⟨rfl, rfl⟩ | ⟨ha, h3⟩
    · simp only [if_true]
      exact fun z => hg a cs q (gR h1) h2 z.symm
    · simp only [if_neg ha]
      exact o.df a cs q b u (gR h1) h2 h3 h4
/-- an own object changes -/
theorem EnvOk.chg (e : EnvOk C B W H σ Γ) {i : Nat} {s t : Sl} {u : HO} (hs : Γ[i]? = some s) (hs1 : s.isO = true) (ht1 : t.isO = true) (hst : ∀ a, Fr B W a s → Fr B W a t) : ∃ ow : Nat → Addr, Owns C B W H σ Γ ow ∧
    (SlOk C B.P W (upd H (ow i) u) (σ.getD i none) (ow i) t → EnvOk C B W (upd H (ow i) u) σ (Γ.set i t)) := by
  obtain ⟨ow, o⟩ := e.ow
  have hi : i < Γ.length := (List.getElem?_eq_some_iff.mp hs).1
  have f := o.fr i s hs hs1
  have sR : s.isR = false := by cases s <;> first | rfl | cases hs1
  have tR : t.isR = false := by cases t <;> first | rfl | cases ht1
  have gO : ∀ (j : Nat) (x : Sl), (Γ.set i t)[j]? = some x → x.isO = true → ∃ y, Γ[j]? = some y ∧ y.isO = true := fun j x h5 h6 => by
    rcases set_cases h5 with ⟨rfl, rfl⟩ | ⟨_, z⟩
    · exact ⟨s, hs, hs1⟩
    · exact ⟨x, z, h6⟩
  have gR : ∀ {a : Nat} {cs}, (Γ.set i t)[a]? = some (.reg cs) → Γ[a]? = some (.reg cs) := fun h1 => by
    rcases set_cases h1 with ⟨_, z⟩ | ⟨_, z⟩
    · rw [← z] at tR; cases tR
    · exact z
  obtain ⟨s1, s2⟩ := e.stpAt (u := u) f.w f.p f.h
  refine ⟨ow, o, fun k => ⟨s1, e.kp, s2, e.p0, e.len.setG hs (sR.trans tR.symm), ow, fun a b s' t' h1 h2 h3 h4 => ?_, fun a s' h1 h2 => ?_, fun a s' h1 => ?_, fun a b cs ds h1 h2 => o.one a b cs ds (gR h1) (gR h2), fun a cs h1 => o.nd a cs (gR h1), fun a cs q h1 h2 => ?_, fun a cs q b u h1 h2 h3 h4 => ?_⟩⟩
  · obtain ⟨y1, g1, g2⟩ := gO a s' h1 h3
    obtain ⟨y2, g3, g4⟩ := gO b t' h2 h4
    exact o.inj a b y1 y2 g1 g3 g2 g4
  · rcases set_cases h1 with ⟨rfl, rfl⟩ | ⟨ha, h1⟩
    · exact hst _ f
    · exact o.fr a s' h1 h2
  · rcases set_cases h1 with ⟨rfl, rfl⟩ | ⟨ha, h1⟩
    · exact k
    · have q := o.ok a s' h1
      have ne : s'.isO = true → ow a ≠ ow i := fun z w => ha (o.inj a i s' s h1 hs z hs1 w)
      cases s' with
      | no => trivial
      | d x => exact q
      | own l => obtain ⟨q1, vs, q2, q3⟩ := q; exact ⟨q1, vs, by rw [upd_ne (ne rfl)]; exact q2, q3⟩
      | ins c l => obtain ⟨q1, dx, fs, q2, q3⟩ := q; exact ⟨q1, dx, fs, by rw [upd_ne (ne rfl)]; exact q2, q3⟩
      | reg cs => trivial
  · have k := o.cl a cs q (gR h1) h2
    obtain ⟨vs, k1, k2⟩ := k.at_
    exact ⟨k.w, k.np, k.h, vs, by rw [upd_ne (Ne.symm (o.df a cs q i s (gR h1) h2 hs hs1))]; exact k1, k2⟩
  · obtain ⟨y, g1, g2⟩ := gO b u h3 h4
    exact o.df a cs q b y (gR h1) h2 g1 g2
/-- a slot is forgotten -/
def forget (Γ : List Sl) (v : Nat) : List Sl := match isSlot Γ v with
  | true => Γ.set v .no
  | false => Γ
def wipeG (Γ : List Sl) : List Nat → List Sl
  | [] => Γ
  | v :: vs => forget (wipeG Γ vs) v
theorem slot_none {σ : L2.St} (h : LenOk σ Γ) {i : Nat} (hi : isSlot Γ i = false) : σ.length ≤ i := by
  rcases Nat.lt_or_ge i σ.length with z | z
  · exfalso
    have hl : i < Γ.length := Nat.lt_of_lt_of_le z h.le
    have hg : Γ[i]? = some Γ[i] := by simp [hl]
    have hr : Γ[i].isR = false := by
      cases q : Γ[i].isR with
      | false => rfl
      | true => have := (h.c i _ hg).mpr q; omega
    have key : ∀ (l : List Sl) (j : Nat) (s : Sl), l[j]? = some s → s.isR = false → isSlot l j = true := by
      intro l
      induction l with
      | nil => intro j s h; simp at h
      | cons x l ih =>
        intro j s h1 h2
        cases j with
        | zero => simp at h1; subst h1; simp [isSlot, h2]
        | succ j => exact ih j s (by simpa using h1) h2
    rw [key Γ i _ hg hr] at hi
    cases hi
  · exact z
theorem Owns.wipe1 {ow : Nat → Addr} (o : Owns C B W H σ Γ ow) (hl : LenOk σ Γ) (i : Nat) : Owns C B W H (σ.set i none) (forget Γ i) ow := by
  unfold forget
  cases h : isSlot Γ i with
  | true => exact o.put (hl.lt h) rfl rfl trivial
  | false =>
    rw [List.set_eq_of_length_le (slot_none hl h)]
    exact o
theorem LenOk.wipe1 (hl : LenOk σ Γ) (i : Nat) : LenOk (σ.set i none) (forget Γ i) := by
  unfold forget
  cases h : isSlot Γ i with
  | true => exact hl.set (hl.lt h) rfl
  | false =>
    rw [List.set_eq_of_length_le (slot_none hl h)]
    exact hl
theorem LenOk.wipe (hl : LenOk σ Γ) : ∀ vs : List Nat, LenOk (L2.wipe σ vs) (wipeG Γ vs)
  | [] => hl
  | v :: vs => (LenOk.wipe hl vs).wipe1 v
theorem Owns.wipe {ow : Nat → Addr} (o : Owns C B W H σ Γ ow) (hl : LenOk σ Γ) : ∀ vs : List Nat, Owns C B W H (L2.wipe σ vs) (wipeG Γ vs) ow
  | [] => o
  | v :: vs => (Owns.wipe o hl vs).wipe1 (hl.wipe vs) v
theorem EnvOk.wipe (e : EnvOk C B W H σ Γ) (vs : List Nat) : EnvOk C B W H (L2.wipe σ vs) (wipeG Γ vs) := by
  obtain ⟨ow, o⟩ := e.ow
  exact ⟨e.stp, e.kp, e.pl, e.p0, e.len.wipe vs, ow, o.wipe e.len vs⟩
/-- an own list becomes data -/
theorem EnvOk.freeze (e : EnvOk C B W H σ Γ) {i : Nat} {l : List D} (hs : Γ[i]? = some (.own l)) : ∃ W', Same W W' ∧ EnvOk C B W' H σ (Γ.set i (.d (.lst l))) := by
  obtain ⟨ow, o⟩ := e.ow
  have hi : i < Γ.length := (List.getElem?_eq_some_iff.mp hs).1
  obtain ⟨f1, f2, f3⟩ := o.fr i _ hs rfl
  obtain ⟨e1, vs, e2, e3⟩ := o.ok i _ hs
  have ww : Same W (upd W (ow i) (.lst vs)) := fun a x q => by
    rw [upd_ne (fun z => by subst z; rw [f1] at q; cases q)]; exact q
  have wh : Same (upd W (ow i) (.lst vs)) H := fun a x q => by
    by_cases ha : a = ow i
    · subst ha; rw [upd_same] at q; cases q; exact e2
    · rw [upd_ne ha] at q; exact e.wh a x q
  have gO : ∀ {a : Nat} {t : Sl}, (Γ.set i (.d (.lst l)))[a]? = some t → t.isO = true → a ≠ i ∧ Γ[a]? = some t := fun h1 h2 => by
    rcases set_cases h1 with ⟨_, rfl⟩ | z
    · cases h2
    · exact z
  have gR : ∀ {a : Nat} {cs}, (Γ.set i (.d (.lst l)))[a]? = some (.reg cs) → Γ[a]? = some (.reg cs) := fun h1 => by
    rcases set_cases h1 with ⟨_, z⟩ | ⟨_, z⟩
    · cases z
    · exact z
  refine ⟨upd W (ow i) (.lst vs), ww, ⟨⟨e.stp.ww.trans ww, wh, e.stp.hh, e.stp.dom, fun a x q => ?_, fun a q z => C.pkm ww (e.stp.pool a q z)⟩, e.kp.trans ww, ⟨fun a q => ?_, fun a o' q => ?_⟩, e.p0, e.len.setG hs rfl, ow, fun a b s t h1 h2 h3 h4 => o.inj a b s t (gO h1 h3).2 (gO h2 h4).2 h3 h4, fun a s h1 h2 => ?_, fun a s h1 => ?_, fun a b cs ds h1 h2 => o.one a b cs ds (gR h1) (gR h2), fun a cs h1 => o.nd a cs (gR h1), fun a cs q h1 h2 => ?_, fun a cs p b u h1 h2 h3 h4 => o.df a cs p b u (gR h1) h2 (gO h3 h4).2 h4⟩⟩
  · rw [upd_ne (fun z => by subst z; rw [f3] at q; cases q)]
    exact e.stp.old a x q
  · rw [upd_ne (fun z => by subst z; exact f2 q)]
    exact ⟨(e.pl.po a q).1, C.pkm ww (e.pl.po a q).2⟩
  · rw [upd_ne (e.nm (.inl f3) q)]
    exact e.pl.rg a o' q
  · obtain ⟨ha, h1⟩ := gO h1 h2
    have ne : ow a ≠ ow i := fun w => ha (o.inj a i s _ h1 hs h2 rfl w)
    refine (o.fr a s h1 h2).mono ?_
    rw [upd_ne ne]
    exact (o.fr a s h1 h2).w
  · rcases set_cases h1 with ⟨rfl, rfl⟩ | ⟨ha, h1⟩
    · exact ⟨.ref (ow a), e1, .lst upd_same (e3.mono ww)⟩
    · have q := o.ok a s h1
      cases s with
      | no => trivial
      | d x => obtain ⟨v, q1, q2⟩ := q; exact ⟨v, q1, q2.mono ww⟩
      | own l => obtain ⟨q1, vs', q2, q3⟩ := q; exact ⟨q1, vs', q2, q3.mono ww⟩
      | ins c l => obtain ⟨q1, dx, fs, q2, q3, q4⟩ := q; exact ⟨q1, dx, fs, q2, q3, q4.mono ww⟩
      | reg cs => trivial
  · have k := o.cl a cs q (gR h1) h2
    obtain ⟨us, k1, k2⟩ := k.at_
    exact ⟨by rw [upd_ne (Ne.symm (o.df a cs q i _ (gR h1) h2 hs rfl))]; exact k.w, k.np, k.h, us, k1, k2.mono ww⟩
/-! ### lists that the frame may change -/
theorem app_cases {i : Nat} {s t : Sl} (h : (Γ ++ [t])[i]? = some s) : Γ[i]? = some s ∨ (i = Γ.length ∧ s = t) := by
  rcases Nat.lt_or_ge i Γ.length with z | z
  · rw [List.getElem?_append_left z] at h; exact .inl h
  · rw [List.getElem?_append_right z] at h
    cases q : i - Γ.length with
    | zero => rw [q] at h; simp at h; exact .inr ⟨by omega, h.symm⟩
    | succ n => rw [q] at h; simp at h
/-- none as yet -/
theorem EnvOk.regNew (e : EnvOk C B W H σ Γ) (hn : Γ.all (fun s => !s.isR) = true) : EnvOk C B W H σ (Γ ++ [.reg []]) := by
  obtain ⟨ow, o⟩ := e.ow
  have nR : ∀ {i : Nat} {cs}, Γ[i]? ≠ some (.reg cs) := fun {i cs} z => by
    have := List.all_eq_true.mp hn _ (List.mem_of_getElem? z)
    cases this
  have gR : ∀ {i : Nat} {cs}, (Γ ++ [.reg []])[i]? = some (.reg cs) → i = Γ.length ∧ cs = [] := fun h => by
    rcases app_cases h with z | ⟨z, y⟩
    · exact absurd z nR
    · cases y; exact ⟨z, rfl⟩
  have gO : ∀ {i : Nat} {s : Sl}, (Γ ++ [.reg []])[i]? = some s → s.isO = true → Γ[i]? = some s := fun h h2 => by
    rcases app_cases h with z | ⟨z, rfl⟩
    · exact z
    · cases h2
  refine ⟨e.stp, e.kp, e.pl, e.p0, ⟨by rw [List.length_append]; have := e.len.le; omega, fun i s h => ?_⟩, ow, fun a b s t h1 h2 h3 h4 => o.inj a b s t (gO h1 h3) (gO h2 h4) h3 h4, fun a s h1 h2 => o.fr a s (gO h1 h2) h2, fun a s h1 => ?_, fun a b cs ds h1 h2 => (gR h1).1.trans (gR h2).1.symm, fun a cs h1 => ?_, fun a cs p h1 h2 => ?_, fun a cs p b s h1 h2 _ _ => ?_⟩
  · rcases app_cases h with z | ⟨z, rfl⟩
    · exact e.len.c i s z
    · exact ⟨fun _ => rfl, fun _ => by have := e.len.le; omega⟩
  · rcases app_cases h1 with z | ⟨z, rfl⟩
    · exact o.ok a s z
    · trivial
  · rw [(gR h1).2]; exact List.nodup_nil
  · rw [(gR h1).2] at h2; cases h2
  · rw [(gR h1).2] at h2; cases h2
/-- the list of changeable lists is another one -/
theorem Owns.regSet {ow : Nat → Addr} (o : Owns C B W H σ Γ ow) {j : Nat} {cs ds : List (Addr × List D)} (hj : Γ[j]? = some (.reg cs)) (nd : (ds.map (·.1)).Nodup) (cl : ∀ p ∈ ds, CellOk C B W H p) (df : ∀ p ∈ ds, ∀ i s, Γ[i]? = some s → s.isO = true → ow i ≠ p.1) : Owns C B W H σ (Γ.set j (.reg ds)) ow := by
  have gO : ∀ {a : Nat} {t : Sl}, (Γ.set j (.reg ds))[a]? = some t → t.isO = true → Γ[a]? = some t := fun h1 h2 => by
    rcases set_cases h1 with ⟨_, rfl⟩ | ⟨_, z⟩
    · cases h2
    · exact z
  have gR : ∀ {a : Nat} {es}, (Γ.set j (.reg ds))[a]? = some (.reg es) → a = j ∧ es = ds := fun h1 => by
    rcases set_cases h1 with ⟨z, y⟩ | ⟨ha, z⟩
    · cases y; exact ⟨z, rfl⟩
    · exact absurd (o.one _ _ _ _ z hj) ha
  refine ⟨fun a b s t h1 h2 h3 h4 => o.inj a b s t (gO h1 h3) (gO h2 h4) h3 h4, fun a s h1 h2 => o.fr a s (gO h1 h2) h2, fun a s h1 => ?_, fun a b es fs h1 h2 => (gR h1).1.trans (gR h2).1.symm, fun a es h1 => ?_, fun a es p h1 h2 => ?_, fun a es p b s h1 h2 h3 h4 => ?_⟩
  · rcases set_cases h1 with ⟨_, rfl⟩ | ⟨_, z⟩
    · trivial
    · exact o.ok a s z
  · rw [(gR h1).2]; exact nd
  · rw [(gR h1).2] at h2; exact cl p h2
  · rw [(gR h1).2] at h2; exact df p h2 b s (gO h3 h4) h4
/-- a new list is a changeable one -/
theorem EnvOk.regAdd (e : EnvOk C B W H σ Γ) {j : Nat} {cs : List (Addr × List D)} (hj : Γ[j]? = some (.reg cs)) {a : Addr} {vs : List V} {l : List D} (ha : B.H0 a = none) (hW : W a = none) (hP : B.P ≠ some a)
    (hf : ∃ ow : Nat → Addr, Owns C B W H σ Γ ow ∧ (∀ j s, Γ[j]? = some s → s.isO = true → ow j ≠ a) ∧ ∀ (j : Nat) (cs : List (Addr × List D)) (q : Addr × List D), Γ[j]? = some (.reg cs) → q ∈ cs → q.1 ≠ a) (hh : H a = some (.lst vs)) (r : RepL C B.P W vs l) : EnvOk C B W H σ (Γ.set j (.reg (cs ++ [(a, l)]))) := by
  obtain ⟨ow, o, hf, hg⟩ := hf
  refine ⟨e.stp, e.kp, e.pl, e.p0, e.len.setG hj rfl, ow, o.regSet hj ?_ (fun p hp => ?_) (fun p hp i s h1 h2 => ?_)⟩
  · rw [List.map_append]
    refine List.nodup_append.mpr ⟨o.nd _ _ hj, by simp, fun x hx y hy => ?_⟩
    obtain ⟨q, hq, rfl⟩ := List.mem_map.mp hx
    simp at hy; subst hy
    exact hg j cs q hj hq
  · rcases List.mem_append.mp hp with hp | hp
    · exact o.cl j cs p hj hp
    · cases List.mem_singleton.mp hp
      exact ⟨hW, hP, ha, vs, hh, r⟩
  · rcases List.mem_append.mp hp with hp | hp
    · exact o.df j cs p i s hj hp h1 h2
    · cases List.mem_singleton.mp hp
      exact hf i s h1 h2
theorem mem_setC {cs : List (Addr × List D)} {k : Nat} {a : Addr} {l m : List D} (n : (cs.map (·.1)).Nodup) (h : cs[k]? = some (a, l)) {p : Addr × List D} (hp : p ∈ cs.set k (a, m)) : p = (a, m) ∨ (p ∈ cs ∧ p.1 ≠ a) := by
  obtain ⟨i, hi⟩ := List.mem_iff_getElem?.mp hp
  by_cases hk : k = i
  · subst hk
    rw [List.getElem?_set_self (List.getElem?_eq_some_iff.mp h).1] at hi
    cases hi; exact .inl rfl
  · rw [List.getElem?_set_ne hk] at hi
    refine .inr ⟨List.mem_of_getElem? hi, fun z => hk ?_⟩
    have h1 : (cs.map (·.1))[k]? = some a := by rw [List.getElem?_map, h]; rfl
    have h2 : (cs.map (·.1))[i]? = some a := by rw [List.getElem?_map, hi, ← z]; rfl
    have hlt := (List.getElem?_eq_some_iff.mp h1).1
    exact (List.getElem?_inj hlt n).mp (h1.trans h2.symm)
/-- a changeable list changes -/
theorem EnvOk.regChg (e : EnvOk C B W H σ Γ) {j k : Nat} {cs : List (Addr × List D)} {a : Addr} {l m : List D} {us : List V} (hj : Γ[j]? = some (.reg cs)) (hk : cs[k]? = some (a, l)) (r : RepL C B.P W us m) : EnvOk C B W (upd H a (.lst us)) σ (Γ.set j (.reg (cs.set k (a, m)))) := by
  obtain ⟨ow, o⟩ := e.ow
  have hm := List.mem_of_getElem? hk
  have c := o.cl j cs (a, l) hj hm
  have nd := o.nd j cs hj
  obtain ⟨s1, s2⟩ := e.stpAt (u := .lst us) c.w c.np (.inl c.h)
  have key : (cs.set k (a, m)).map (·.1) = cs.map (·.1) := by
    rw [List.map_set]
    apply List.ext_getElem?
    intro i
    rw [List.getElem?_set]
    by_cases hi : k = i
    · subst hi
      have hlt := (List.getElem?_eq_some_iff.mp hk).1
      rw [if_pos rfl, if_pos (by rw [List.length_map]; exact hlt), List.getElem?_map, hk]; rfl
    · rw [if_neg hi]
  have o' : Owns C B W (upd H a (.lst us)) σ (Γ.set j (.reg [])) ow := by
    have o1 := o.regSet hj (ds := []) (by simp) (fun _ h => nomatch h) (fun _ h => nomatch h)
    refine ⟨o1.inj, o1.fr, fun i s h1 => ?_, o1.one, o1.nd, fun i es p h1 h2 => ?_, o1.df⟩
    · have q := o1.ok i s h1
      have ne : s.isO = true → ow i ≠ a := fun z => by
        rcases set_cases h1 with ⟨_, rfl⟩ | ⟨_, y⟩
        · cases z
        · exact o.df j cs (a, l) i s hj hm y z
      cases s with
      | no => trivial
      | d x => exact q
      | own l => obtain ⟨q1, vs, q2, q3⟩ := q; exact ⟨q1, vs, by rw [upd_ne (ne rfl)]; exact q2, q3⟩
      | ins c l => obtain ⟨q1, dx, fs, q2, q3⟩ := q; exact ⟨q1, dx, fs, by rw [upd_ne (ne rfl)]; exact q2, q3⟩
      | reg cs => trivial
    · rcases set_cases h1 with ⟨_, z⟩ | ⟨hi, z⟩
      · cases z; cases h2
      · exact absurd (o.one _ _ _ _ z hj) hi
  have o2 := o'.regSet (j := j) (cs := []) (ds := cs.set k (a, m)) (by rw [List.getElem?_set_self (List.getElem?_eq_some_iff.mp hj).1]) (by rw [key]; exact nd) (fun p hp => ?_) (fun p hp i s h1 h2 => ?_)
  · rw [List.set_set] at o2
    exact ⟨s1, e.kp, s2, e.p0, e.len.setG hj rfl, ow, o2⟩
  · rcases mem_setC nd hk hp with rfl | ⟨hp, hne⟩
    · exact ⟨c.w, c.np, c.h, us, upd_same, r⟩
    · have c2 := o.cl j cs p hj hp
      obtain ⟨vs, q1, q2⟩ := c2.at_
      exact ⟨c2.w, c2.np, c2.h, vs, by rw [upd_ne hne]; exact q1, q2⟩
  · rcases set_cases h1 with ⟨_, rfl⟩ | ⟨_, h1⟩
    · cases h2
    · rcases mem_setC nd hk hp with rfl | ⟨hp, _⟩
      · exact o.df j cs (a, l) i s hj hm h1 h2
      · exact o.df j cs p i s hj hp h1 h2
/-- an own list becomes a changeable one -/
theorem EnvOk.share (e : EnvOk C B W H σ Γ) {i j : Nat} {cs : List (Addr × List D)} {l : List D} (hj : Γ[j]? = some (.reg cs)) (hs : Γ[i]? = some (.own l)) : ∃ a, EnvOk C B W H σ ((Γ.set i (.d (.adr a))).set j (.reg (cs ++ [(a, l)]))) := by
  obtain ⟨ow, o⟩ := e.ow
  obtain ⟨f1, f2, f3⟩ := o.fr i _ hs rfl
  obtain ⟨q1, vs, q2, q3⟩ := o.ok i _ hs
  have hij : i ≠ j := fun z => by subst z; rw [hs] at hj; cases hj
  have hl : i < σ.length := by
    rcases Nat.lt_or_ge i σ.length with z | z
    · exact z
    · have := (e.len.c i _ hs).mp z; cases this
  have e1 : EnvOk C B W H (σ.set i (some (.ref (ow i)))) (Γ.set i (.d (.adr (ow i)))) := by
    refine ⟨e.stp, e.kp, e.pl, e.p0, e.len.set hl rfl, ow, o.put hl rfl rfl ⟨_, rfl, .adr _⟩⟩
  have es : σ.set i (some (.ref (ow i))) = σ := by
    apply List.ext_getElem?
    intro n
    rw [List.getElem?_set]
    by_cases hn : i = n
    · subst hn
      rw [if_pos rfl, if_pos hl]
      rw [List.getD_eq_getElem?_getD] at q1
      cases z : σ[i]? with
      | none => rw [z] at q1; cases q1
      | some y => rw [z] at q1; exact congrArg some q1.symm
    · rw [if_neg hn]
  rw [es] at e1
  have o1 : Owns C B W H σ (Γ.set i (.d (.adr (ow i)))) ow := by
    have := o.put (i := i) (s := .d (.adr (ow i))) (x := some (.ref (ow i))) hl rfl rfl ⟨_, rfl, .adr _⟩
    rw [es] at this; exact this
  refine ⟨ow i, e1.regAdd (cs := cs) (by rw [List.getElem?_set_ne hij]; exact hj) f3 f1 f2 ⟨ow, o1, fun b s h1 h2 => ?_, fun b ds q h1 h2 => ?_⟩ q2 q3⟩
  · rcases set_cases h1 with ⟨_, rfl⟩ | ⟨hb, h1⟩
    · cases h2
    · exact fun z => hb (o.inj b i s _ h1 hs h2 rfl z)
  · rcases set_cases h1 with ⟨_, z⟩ | ⟨hb, h1⟩
    · cases z
    · exact Ne.symm (o.df b ds q i _ h1 h2 hs rfl)
end
end G
end

section
set_option maxRecDepth 100000
set_option maxHeartbeats 2000000
/-! the data layer: what a reading evaluates to -/
namespace G
open PySem PySem.Spec PyProof.Rows L2

inductive Kd where
  | l | t | m
def Kd.ho : Kd → List V → HO
  | .l, vs => .lst vs
  | .t, vs => .tup vs
  | .m, vs => .lst vs
def Kd.d : Kd → List D → D
  | .l, xs => .lst xs
  | .t, xs => .tup xs
  | .m, xs => .mls xs

section
variable (C : Cl) (B : Bs)
/-- an expression gives data d with K d -/
def EK (Γ : List Sl) (te : TE) (K : D → Prop) : Prop := ∀ W H σ, EnvOk C B W H σ Γ → ∀ Q : VK, (∀ d v W' H', Stp C B.P noS W H W' H' → Rep C B.P W' v d → K d → Q v H') → te σ H Q
/-- .. a sequence (one that only the frame knows, too) -/
def EL (Γ : List Sl) (te : TE) (K : Kd → List D → Prop) : Prop := ∀ W H σ, EnvOk C B W H σ Γ → ∀ Q : VK, (∀ k l a vs W' H', Stp C B.P noS W H W' H' → H' a = some (k.ho vs) → B.P ≠ some a → (k = .t → W' a = some (.tup vs)) → RepL C B.P W' vs l → K k l → Q (.ref a) H') → te σ H Q
/-- .. a new list -/
def EF (Γ : List Sl) (te : TE) (K : List D → Prop) : Prop := ∀ W H σ, EnvOk C B W H σ Γ → ∀ Q : VK, (∀ l a vs W' H', Stp C B.P noS W H W' H' → H a = none → W' a = none → H' a = some (.lst vs) → RepL C B.P W' vs l → K l → Q (.ref a) H') → te σ H Q
def TK (Γ : List Sl) (tt : TT) (K : Bool → Prop) : Prop := ∀ W H σ, EnvOk C B W H σ Γ → ∀ Q : Bool → Hp → Prop, (∀ b W' H', Stp C B.P noS W H W' H' → K b → Q b H') → tt σ H Q
def AK (Γ : List Sl) (ta : TA) (K : List D → Prop) : Prop := ∀ W H σ, EnvOk C B W H σ Γ → ∀ Q : List V → Hp → Prop, (∀ l vs W' H', Stp C B.P noS W H W' H' → RepL C B.P W' vs l → K l → Q vs H') → ta σ H Q
/-- a two-place operation on data -/
def RK (r : R2) (d1 d2 : D) (K : D → Prop) : Prop := ∀ W H, Same W H → PlOk C B.P W H → ∀ v1 v2, Rep C B.P W v1 d1 → Rep C B.P W v2 d2 → ∀ Q : VK, (∀ d v W' H', Stp C B.P noS W H W' H' → Rep C B.P W' v d → K d → Q v H') → r v1 v2 H Q
def UK (r : V → Hp → VK → Prop) (d1 : D) (K : D → Prop) : Prop := ∀ W H, Same W H → PlOk C B.P W H → ∀ v1, Rep C B.P W v1 d1 → ∀ Q : VK, (∀ d v W' H', Stp C B.P noS W H W' H' → Rep C B.P W' v d → K d → Q v H') → r v1 H Q
/-- a call of a builtin on data -/
def CK (r : List V → Hp → VK → Prop) (l : List D) (K : D → Prop) : Prop := ∀ W H, Same W H → PlOk C B.P W H → ∀ vs, RepL C B.P W vs l → ∀ Q : VK, (∀ d v W' H', Stp C B.P noS W H W' H' → Rep C B.P W' v d → K d → Q v H') → r vs H Q
end

/-- what a def promises, by data -/
def SpOf (C : Cl) (S : List D → (D → Prop) → Prop) : Sp := fun vs H Q _ => ∃ P W l K, Same W H ∧ PlOk C P W H ∧ RepL C P W vs l ∧ S l K ∧ ∀ d v W' H', K d → Stp C P noS W H W' H' → Rep C P W' v d → Q v H'

section
variable {C : Cl} {B : Bs} {Γ : List Sl} {ta tb te : TE} {tt t u : TT} {K : D → Prop}
theorem EK.mono {K' : D → Prop} (h : EK C B Γ te K) (k : ∀ d, K d → K' d) : EK C B Γ te K' := fun W H σ e Q q => h W H σ e Q fun d v W' H' s r z => q d v W' H' s r (k d z)
theorem TK.mono {K K' : Bool → Prop} (h : TK C B Γ tt K) (k : ∀ d, K d → K' d) : TK C B Γ tt K' := fun W H σ e Q q => h W H σ e Q fun d W' H' s z => q d W' H' s (k d z)
theorem getD_some {σ : L2.St} {i : Nat} {v : V} (h : σ.getD i none = some v) : σ[i]? = some (some v) := by
  rw [List.getD_eq_getElem?_getD] at h
  cases e : σ[i]? with
  | none => rw [e] at h; cases h
  | some x => rw [e] at h; exact congrArg some h
theorem EnvOk.at_ {W H : Hp} {σ : L2.St} (e : EnvOk C B W H σ Γ) {i : Nat} {x : D} (h : Γ[i]? = some (.d x)) : ∃ v, σ[i]? = some (some v) ∧ Rep C B.P W v x := by
  obtain ⟨ow, o⟩ := e.ow
  obtain ⟨v, h1, h2⟩ := o.ok i _ h
  exact ⟨v, getD_some h1, h2⟩
theorem ek_var {i : Nat} {x : D} (h : Γ[i]? = some (.d x)) (k : K x) : EK C B Γ (tVar i) K := fun W H σ e Q q => by
  obtain ⟨v, h1, h2⟩ := e.at_ h
  exact ⟨v, h1, q x v W H (.refl e.wh) h2 k⟩
theorem ek_int {i : Int} (k : K (.int i)) : EK C B Γ (tC (.int i)) K := fun W H σ e Q q => q _ _ W H (.refl e.wh) (.int i) k
theorem ek_bl {i : Bool} (k : K (.bl i)) : EK C B Γ (tC (.bl i)) K := fun W H σ e Q q => q _ _ W H (.refl e.wh) (.bl i) k
theorem ek_non (k : K .non) : EK C B Γ (tC .non) K := fun W H σ e Q q => q _ _ W H (.refl e.wh) .non k
theorem ek_str {i : Str} (k : K (.str i)) : EK C B Γ (tC (.str i)) K := fun W H σ e Q q => q _ _ W H (.refl e.wh) (.str i) k

theorem ek_op {r : R2} (h : EK C B Γ ta fun d1 => EK C B Γ tb fun d2 => RK C B r d1 d2 K) : EK C B Γ (tOp r ta tb) K := fun W H σ e Q q =>
  h W H σ e _ fun d1 v1 W1 H1 s1 r1 h1 => h1 W1 H1 σ (e.step s1) _ fun d2 v2 W2 H2 s2 r2 h2 =>
    h2 W2 H2 s2.wh ((e.pl.step s1).step s2) v1 v2 (r1.mono s2.ww) r2 Q fun d v W3 H3 s3 r3 k => q d v W3 H3 ((s1.trans s2).trans s3) r3 k
theorem ek_un {r : V → Hp → VK → Prop} (h : EK C B Γ ta fun d1 => UK C B r d1 K) : EK C B Γ (tUn r ta) K := fun W H σ e Q q =>
  h W H σ e _ fun d1 v1 W1 H1 s1 r1 h1 => h1 W1 H1 s1.wh (e.pl.step s1) v1 r1 Q fun d v W3 H3 s3 r3 k => q d v W3 H3 (s1.trans s3) r3 k
theorem ak_nil {K : List D → Prop} (k : K []) : AK C B Γ tNil K := fun W H σ e Q q => q [] [] W H (.refl e.wh) .nil k
theorem ak_cons {ta : TE} {tr : TA} {K : List D → Prop} (h : EK C B Γ ta fun d => AK C B Γ tr fun l => K (d :: l)) : AK C B Γ (tCons ta tr) K := fun W H σ e Q q =>
  h W H σ e _ fun d v W1 H1 s1 r1 h1 => h1 W1 H1 σ (e.step s1) _ fun l vs W2 H2 s2 r2 h2 => q (d :: l) (v :: vs) W2 H2 (s1.trans s2) (.cons (r1.mono s2.ww) r2) h2
theorem ek_cb {r : List V → Hp → VK → Prop} {ta : TA} (h : AK C B Γ ta fun l => CK C B r l K) : EK C B Γ (tCB r ta) K := fun W H σ e Q q =>
  h W H σ e _ fun l vs W1 H1 s1 r1 h1 => h1 W1 H1 s1.wh (e.pl.step s1) vs r1 Q fun d v W3 H3 s3 r3 k => q d v W3 H3 (s1.trans s3) r3 k
/-- a call of a def -/
theorem ek_call {S : List D → (D → Prop) → Prop} {dvs : List V} {dds : List D} {ta : TA} (hd : ∀ W, RepL C B.P W dvs dds) (h : AK C B Γ ta fun l => S (l ++ dds) K) : EK C B Γ (tCall (SpOf C S) dvs E0 ta) K := fun W H σ e Q q =>
  h W H σ e _ fun l vs W1 H1 s1 r1 h1 => ⟨B.P, W1, l ++ dds, K, s1.wh, e.pl.step s1, r1.append (hd W1), h1, fun d v W3 H3 k s3 r3 => q d v W3 H3 (s1.trans s3) r3 k⟩
theorem ek_call0 {S : List D → (D → Prop) → Prop} {ta : TA} (h : AK C B Γ ta fun l => S l K) : EK C B Γ (tCall (SpOf C S) [] E0 ta) K :=
  ek_call (dds := []) (fun _ => .nil) (by simpa using h)
/-- a method of an instance -/
theorem rep_frac {P : Option Addr} {W : Hp} {v : V} {q : Rat} (r : Rep C P W v (.frac q)) : ∃ a dx, v = .ref a ∧ W a = some (.ins C.frac dx (fracF q)) := by
  cases r with
  | frac h => exact ⟨_, _, rfl, h⟩
theorem ek_methF {S : List D → (D → Prop) → Prop} {m : Str} {ta : TE} {t : TA}  (hl : ∀ q, (fracF q).lookup m = none)
    (h : EK C B Γ ta fun d0 => ∃ q, d0 = .frac q ∧ AK C B Γ t fun l => S (.frac q :: l) K) : EK C B Γ (tMeth C.frac m (SpOf C S) [] E0 ta t) K := fun W H σ e Q q =>
  h W H σ e _ fun d0 v0 W1 H1 s1 r1 ⟨x, e0, h1⟩ => by
    subst e0
    obtain ⟨a, dx, rfl, ha⟩ := rep_frac r1
    refine ⟨a, dx, _, rfl, s1.wh _ _ ha, hl x, h1 W1 H1 σ (e.step s1) _ fun l vs W2 H2 s2 r2 h2 => ?_⟩
    rw [List.append_nil]
    exact ⟨B.P, W2, .frac x :: l, K, s2.wh, (e.pl.step s1).step s2, .cons (r1.mono s2.ww) r2, h2, fun d v W3 H3 k s3 r3 => q d v W3 H3 ((s1.trans s2).trans s3) r3 k⟩
theorem rep_obj {P : Option Addr} {W : Hp} {v : V} {c : Nat} {l : List (Str × D)} (r : Rep C P W v (.obj c l)) : ∃ a dx fs, v = .ref a ∧ W a = some (.ins (C.cls c) dx fs) ∧ fs.map (·.1) = l.map (·.1) ∧ RepL C P W (fs.map (·.2)) (l.map (·.2)) := by
  cases r with
  | obj h e r => exact ⟨_, _, _, rfl, h, e, r⟩
theorem lookup_keys {α β : Type} {f : Str} : ∀ {fs : List (Str × α)} {l : List (Str × β)}, fs.map (·.1) = l.map (·.1) → l.lookup f = none → fs.lookup f = none
  | [], _, _, _ => rfl
  | (k, x) :: fs, [], h, _ => by cases h
  | (k, x) :: fs, (k', y) :: l, h, h2 => by
    have h1 : k = k' := by simp at h; exact h.1
    have h3 : fs.map (·.1) = l.map (·.1) := by simp at h; exact h.2
    subst h1
    by_cases e : (f == k) = true
    · simp only [List.lookup, e] at h2; cases h2
    · have e : (f == k) = false := by simpa using e
      simp only [List.lookup, e] at h2 ⊢
      exact lookup_keys h3 h2
theorem lookup_rep {P : Option Addr} {W : Hp} {f : Str} {d : D} : ∀ {fs : List (Str × V)} {l : List (Str × D)}, fs.map (·.1) = l.map (·.1) → RepL C P W (fs.map (·.2)) (l.map (·.2)) → l.lookup f = some d → ∃ v, fs.lookup f = some v ∧ Rep C P W v d
  | [], [], _, _, h => by cases h
  | [], _ :: _, h, _, _ => by cases h
  | (k, x) :: fs, [], h, _, _ => by cases h
  | (k, x) :: fs, (k', y) :: l, h, r, h2 => by
    have h1 : k = k' := by simp at h; exact h.1
    have h3 : fs.map (·.1) = l.map (·.1) := by simp at h; exact h.2
    subst h1
    cases r with
    | cons r rr =>
      by_cases e : (f == k) = true
      · simp only [List.lookup, e] at h2 ⊢; cases h2; exact ⟨_, rfl, r⟩
      · have e : (f == k) = false := by simpa using e
        simp only [List.lookup, e] at h2 ⊢
        exact lookup_rep h3 rr h2
theorem ek_methO {S : List D → (D → Prop) → Prop} {m : Str} {c : Nat} {ta : TE} {t : TA} 
    (h : EK C B Γ ta fun d0 => ∃ fl, d0 = .obj c fl ∧ fl.lookup m = none ∧ AK C B Γ t fun l => S (.obj c fl :: l) K) : EK C B Γ (tMeth (C.cls c) m (SpOf C S) [] E0 ta t) K := fun W H σ e Q q =>
  h W H σ e _ fun d0 v0 W1 H1 s1 r1 ⟨x, e0, hl, h1⟩ => by
    subst e0
    obtain ⟨a, dx, fs, rfl, ha, hk, hr⟩ := rep_obj r1
    refine ⟨a, dx, _, rfl, s1.wh _ _ ha, lookup_keys hk hl, h1 W1 H1 σ (e.step s1) _ fun l vs W2 H2 s2 r2 h2 => ?_⟩
    rw [List.append_nil]
    exact ⟨B.P, W2, .obj c x :: l, K, s2.wh, (e.pl.step s1).step s2, .cons (r1.mono s2.ww) r2, h2, fun d v W3 H3 k s3 r3 => q d v W3 H3 ((s1.trans s2).trans s3) r3 k⟩
/-- attributes -/
theorem ek_num {KK : PySem.W.Frag} {ta : TE} (c : Cls KK C.frac) (n : NoAttr KK C.frac "num") (h : EK C B Γ ta fun d => ∃ q, d = .frac q ∧ K (.int q.num)) : EK C B Γ (tFld KK ta "num") K := fun W H σ e Q q =>
  h W H σ e _ fun d0 v0 W1 H1 s1 r1 ⟨x, e0, h1⟩ => by
    subst e0
    obtain ⟨a, dx, rfl, ha⟩ := rep_frac r1
    exact ⟨a, C.frac, dx, _, .int x.num, rfl, s1.wh _ _ ha, c, n, rfl, q _ _ W1 H1 s1 (.int _) h1⟩
theorem ek_den {KK : PySem.W.Frag} {ta : TE} (c : Cls KK C.frac) (n : NoAttr KK C.frac "den") (h : EK C B Γ ta fun d => ∃ q, d = .frac q ∧ K (.int q.den)) : EK C B Γ (tFld KK ta "den") K := fun W H σ e Q q =>
  h W H σ e _ fun d0 v0 W1 H1 s1 r1 ⟨x, e0, h1⟩ => by
    subst e0
    obtain ⟨a, dx, rfl, ha⟩ := rep_frac r1
    exact ⟨a, C.frac, dx, _, .int x.den, rfl, s1.wh _ _ ha, c, n, rfl, q _ _ W1 H1 s1 (.int _) h1⟩
theorem ek_fld {KK : PySem.W.Frag} {f : Str} {ta : TE} (h : EK C B Γ ta fun d => ∃ c l x, d = .obj c l ∧ Cls KK (C.cls c) ∧ NoAttr KK (C.cls c) f ∧ l.lookup f = some x ∧ K x) : EK C B Γ (tFld KK ta f) K := fun W H σ e Q q =>
  h W H σ e _ fun d0 v0 W1 H1 s1 r1 ⟨c, l, x, e0, cl, na, hl, h1⟩ => by
    subst e0
    obtain ⟨a, dx, fs, rfl, ha, hk, hr⟩ := rep_obj r1
    obtain ⟨v, hv, rv⟩ := lookup_rep hk hr hl
    exact ⟨a, C.cls c, dx, _, v, rfl, s1.wh _ _ ha, cl, na, hv, q _ _ W1 H1 s1 rv h1⟩
/-- displays -/
theorem ek_tup {ta : TA} (h : AK C B Γ ta fun l => l.length ≤ sizeLine ∧ K (.tup l)) : EK C B Γ (tTup ta) K := fun W H σ e Q q =>
  h W H σ e _ fun l vs W1 H1 s1 r1 ⟨hz, h1⟩ => ⟨by rw [r1.length]; exact hz, fun p hp => by
    have s2 := Stp.new (C := C) (P := B.P) (S := noS) (o := .tup vs) s1.wh hp (e.pl.step s1).ne
    exact q _ _ _ _ (s1.trans s2) (.tup upd_same (r1.mono s2.ww)) h1⟩
theorem ef_lst {ta : TA} {K : List D → Prop} (h : AK C B Γ ta fun l => l.length ≤ sizeLine ∧ K l) : EF C B Γ (tLst ta) K := fun W H σ e Q q =>
  h W H σ e _ fun l vs W1 H1 s1 r1 ⟨hz, h1⟩ => ⟨by rw [r1.length]; exact hz, fun p hp => by
    have s2 := Stp.own (C := C) (P := B.P) (S := noS) (o := .lst vs) s1.wh hp (e.pl.step s1).ne
    have hW : W1 p = none := by
      cases z : W1 p with
      | none => rfl
      | some o => rw [s1.wh _ _ z] at hp; cases hp
    exact q l p vs _ _ (s1.trans s2) (s1.free hp) hW upd_same r1 h1⟩
/-- a new list becomes data at once -/
theorem ek_ef {te : TE} (h : EF C B Γ te fun l => K (.lst l)) : EK C B Γ te K := fun W H σ e Q q =>
  h W H σ e _ fun l a vs W1 H1 s1 ha hW hh r1 h1 => by
    have hP : B.P ≠ some a := fun z => e.pl.ne a z ha
    have ww : Same W1 (upd W1 a (.lst vs)) := fun b x z => by rw [upd_ne (fun y => by subst y; rw [hW] at z; cases z)]; exact z
    refine q _ _ (upd W1 a (.lst vs)) H1 ⟨s1.ww.trans ww, fun b x z => ?_, s1.hh, s1.dom, fun b x z => ?_, fun b z w => C.pkm ww (s1.pool b z w)⟩ (.lst upd_same (r1.mono ww)) h1
    · by_cases hb : b = a
      · subst hb; rw [upd_same] at z; cases z; exact hh
      · rw [upd_ne hb] at z; exact s1.wh b x z
    · rw [upd_ne (ne_of_none z ha)]; exact s1.old b x z
theorem el_ef {te : TE} {K : Kd → List D → Prop} (h : EF C B Γ te fun l => K .l l) : EL C B Γ te K := fun W H σ e Q q =>
  h W H σ e _ fun l a vs W1 H1 s1 ha hW hh r1 h1 => q .l l a vs W1 H1 s1 hh (fun z => e.pl.ne a z ha) (fun z => nomatch z) r1 h1
theorem el_ek {te : TE} {K : Kd → List D → Prop} (h : EK C B Γ te fun d => ∃ k l, d = k.d l ∧ K k l) : EL C B Γ te K := fun W H σ e Q q =>
  h W H σ e _ fun d v W1 H1 s1 r1 ⟨k, l, e0, h1⟩ => by
    have pl := e.pl.step s1
    cases k with
    | l =>
      subst e0
      cases r1 with
      | lst ha r => exact q .l l _ _ W1 H1 s1 (s1.wh _ _ ha) (fun z => by rw [(pl.po _ z).1] at ha; cases ha) (fun z => nomatch z) r h1
    | t =>
      subst e0
      cases r1 with
      | tup ha r => exact q .t l _ _ W1 H1 s1 (s1.wh _ _ ha) (fun z => by rw [(pl.po _ z).1] at ha; cases ha) (fun _ => ha) r h1
    | m =>
      subst e0
      cases r1 with
      | mls ha r => exact q .m l _ _ W1 H1 s1 (pl.rg _ _ ha).1 (pl.rg _ _ ha).2.2 (fun z => nomatch z) r h1
/-- .. a list that the frame may change -/
theorem el_adr {te : TE} {j : Nat} {cs : List (Addr × List D)} {K : Kd → List D → Prop} (hj : Γ[j]? = some (.reg cs)) (h : EK C B Γ te fun d => ∃ a l, d = .adr a ∧ (a, l) ∈ cs ∧ K .l l) : EL C B Γ te K := fun W H σ e Q q =>
  h W H σ e _ fun d v W1 H1 s1 r1 ⟨a, l, e0, hm, h1⟩ => by
    subst e0
    cases r1
    obtain ⟨ow, o⟩ := (e.step s1).ow
    have c := o.cl j cs (a, l) hj hm
    obtain ⟨vs, q1, q2⟩ := c.at_
    exact q .l l a vs W1 H1 s1 q1 c.np (fun z => nomatch z) q2 h1
theorem el_var {i : Nat} {x : D} {K : Kd → List D → Prop} (h : Γ[i]? = some (.d x)) (k : ∃ k l, x = k.d l ∧ K k l) : EL C B Γ (tVar i) K := el_ek (ek_var h k)
theorem el_own {i : Nat} {l : List D} {K : Kd → List D → Prop} (h : Γ[i]? = some (.own l)) (k : K .l l) : EL C B Γ (tVar i) K := fun W H σ e Q q => by
  obtain ⟨ow, o⟩ := e.ow
  obtain ⟨h1, vs, h2, h3⟩ := o.ok i _ h
  exact ⟨_, getD_some h1, q .l l (ow i) vs W H (.refl e.wh) h2 (o.fr i _ h rfl).p (fun z => nomatch z) h3 k⟩
/-- items -/
theorem atI_rep {P : Option Addr} {W : Hp} {vs : List V} {l : List D} {i : Int} {d : D} (r : RepL C P W vs l) (h : atI l i = some d) : ∃ v, atI vs i = some v ∧ Rep C P W v d := by
  unfold atI at h ⊢
  rw [r.length]
  cases e : ixN l.length i with
  | none => rw [e] at h; cases h
  | some j =>
    rw [e] at h
    exact r.get h
theorem ek_ix {KK : PySem.W.Frag} (h : EL C B Γ ta fun _ l => EK C B Γ tb fun d2 => ∃ i x, d2 = .int i ∧ atI l i = some x ∧ K x) : EK C B Γ (tOp (rIx KK) ta tb) K := fun W H σ e Q q =>
  h W H σ e _ fun k l a vs W1 H1 s1 ha hP _ r1 h1 => h1 W1 H1 σ (e.step s1) _ fun d2 v2 W2 H2 s2 r2 ⟨i, x, e2, hx, kx⟩ => by
    subst e2
    cases r2
    obtain ⟨v, hv, rv⟩ := atI_rep (r1.mono s2.ww) hx
    have ha2 := s2.hh _ _ ha hP (fun z => nomatch z)
    have fin := q x v W2 H2 (s1.trans s2) rv kx
    cases k with
    | l => exact .inl ⟨a, vs, i, v, rfl, rfl, SqL.of ha2, hv, fin⟩
    | t => exact .inr (.inl ⟨a, vs, i, v, rfl, rfl, SqT.of ha2, hv, fin⟩)
    | m => exact .inl ⟨a, vs, i, v, rfl, rfl, SqL.of ha2, hv, fin⟩
/-- tests -/
theorem tk_test {te : TE} {K : Bool → Prop} (h : EK C B Γ te fun d => ∃ b, d = .bl b ∧ K b) : TK C B Γ (tTest te) K := fun W H σ e Q q =>
  h W H σ e _ fun d v W1 H1 s1 r1 ⟨b, e0, h1⟩ => by
    subst e0; cases r1
    exact ⟨b, rfl, q b W1 H1 s1 h1⟩
theorem tk_B {te : TE} {K : Bool → Prop} (h : EK C B Γ te fun d => ∃ b, d = .bl b ∧ K b) : TK C B Γ (tB te) K := fun W H σ e Q q =>
  h W H σ e _ fun d v W1 H1 s1 r1 ⟨b, e0, h1⟩ => by
    subst e0; cases r1
    exact ⟨b, rfl, q b W1 H1 s1 h1⟩
theorem tk_and {K : Bool → Prop} (h : TK C B Γ t fun b => (b = true → TK C B Γ u K) ∧ (b = false → K false)) : TK C B Γ (tAnd t u) K := fun W H σ e Q q =>
  h W H σ e _ fun b W1 H1 s1 h1 => by
    cases b with
    | true =>
      show u σ H1 Q
      exact h1.1 rfl W1 H1 σ (e.step s1) Q fun c W2 H2 s2 k => q c W2 H2 (s1.trans s2) k
    | false => exact q false W1 H1 s1 (h1.2 rfl)
theorem tk_or {K : Bool → Prop} (h : TK C B Γ t fun b => (b = true → K true) ∧ (b = false → TK C B Γ u K)) : TK C B Γ (tOr t u) K := fun W H σ e Q q =>
  h W H σ e _ fun b W1 H1 s1 h1 => by
    cases b with
    | true => exact q true W1 H1 s1 (h1.1 rfl)
    | false =>
      show u σ H1 Q
      exact h1.2 rfl W1 H1 σ (e.step s1) Q fun c W2 H2 s2 k => q c W2 H2 (s1.trans s2) k
theorem tk_not {K : Bool → Prop} (h : TK C B Γ t fun b => K (!b)) : TK C B Γ (tNot t) K := fun W H σ e Q q => h W H σ e _ fun b W1 H1 s1 h1 => q (!b) W1 H1 s1 h1
theorem ek_andV (h : EK C B Γ ta fun d => ∃ b, d = .bl b ∧ (b = true → EK C B Γ tb K) ∧ (b = false → K (.bl false))) : EK C B Γ (tAndV ta tb) K := fun W H σ e Q q =>
  h W H σ e _ fun d v W1 H1 s1 r1 ⟨b, e0, h1⟩ => by
    subst e0; cases r1
    refine ⟨b, rfl, ?_⟩
    cases b with
    | true =>
      show tb σ H1 Q
      exact h1.1 rfl W1 H1 σ (e.step s1) Q fun d v W2 H2 s2 r k => q d v W2 H2 (s1.trans s2) r k
    | false => exact q _ _ W1 H1 s1 (.bl false) (h1.2 rfl)
theorem ek_orV (h : EK C B Γ ta fun d => ∃ b, d = .bl b ∧ (b = true → K (.bl true)) ∧ (b = false → EK C B Γ tb K)) : EK C B Γ (tOrV ta tb) K := fun W H σ e Q q =>
  h W H σ e _ fun d v W1 H1 s1 r1 ⟨b, e0, h1⟩ => by
    subst e0; cases r1
    refine ⟨b, rfl, ?_⟩
    cases b with
    | true => exact q _ _ W1 H1 s1 (.bl true) (h1.1 rfl)
    | false =>
      show tb σ H1 Q
      exact h1.2 rfl W1 H1 σ (e.step s1) Q fun d v W2 H2 s2 r k => q d v W2 H2 (s1.trans s2) r k
theorem ek_notV (h : EK C B Γ ta fun d => ∃ b, d = .bl b ∧ K (.bl (!b))) : EK C B Γ (tNotV ta) K := fun W H σ e Q q =>
  h W H σ e _ fun d v W1 H1 s1 r1 ⟨b, e0, h1⟩ => by
    subst e0; cases r1
    exact ⟨b, rfl, q _ _ W1 H1 s1 (.bl _) h1⟩
theorem ek_if (h : TK C B Γ t fun b => (b = true → EK C B Γ ta K) ∧ (b = false → EK C B Γ tb K)) : EK C B Γ (tIf t ta tb) K := fun W H σ e Q q =>
  h W H σ e _ fun b W1 H1 s1 h1 => by
    cases b with
    | true =>
      show ta σ H1 Q
      exact h1.1 rfl W1 H1 σ (e.step s1) Q fun d v W2 H2 s2 r k => q d v W2 H2 (s1.trans s2) r k
    | false =>
      show tb σ H1 Q
      exact h1.2 rfl W1 H1 σ (e.step s1) Q fun d v W2 H2 s2 r k => q d v W2 H2 (s1.trans s2) r k
/-- operations on data -/
theorem rk_I0 {g : Int → Int → V} {i j : Int} {d : D} (hg : ∀ W, Rep C B.P W (g i j) d) (k : K d) : RK C B (rI0 g) (.int i) (.int j) K := fun W H hw pl v1 v2 r1 r2 Q q => by
  cases r1; cases r2
  exact ⟨i, j, rfl, rfl, q d _ W H (.refl hw) (hg W) k⟩
theorem rk_I {Cd : Int → Int → Prop} {g : Int → Int → V} {i j : Int} {d : D} (hg : ∀ W, Rep C B.P W (g i j) d) (hc : Cd i j) (k : K d) : RK C B (rI Cd g) (.int i) (.int j) K := fun W H hw pl v1 v2 r1 r2 Q q => by
  cases r1; cases r2
  exact ⟨i, j, rfl, rfl, hc, q d _ W H (.refl hw) (hg W) k⟩
theorem RK.or1 {r r' : R2} {d1 d2 : D} (h : RK C B r d1 d2 K) : RK C B (fun x y H Q => r x y H Q ∨ r' x y H Q) d1 d2 K := fun W H hw pl v1 v2 r1 r2 Q q => .inl (h W H hw pl v1 v2 r1 r2 Q q)
theorem RK.or2 {r r' : R2} {d1 d2 : D} (h : RK C B r' d1 d2 K) : RK C B (fun x y H Q => r x y H Q ∨ r' x y H Q) d1 d2 K := fun W H hw pl v1 v2 r1 r2 Q q => .inr (h W H hw pl v1 v2 r1 r2 Q q)
theorem uk_I {g : Int → V} {i : Int} {d : D} (hg : ∀ W, Rep C B.P W (g i) d) (k : K d) : UK C B (rU g) (.int i) K := fun W H hw pl v1 r1 Q q => by
  cases r1
  exact ⟨i, rfl, q d _ W H (.refl hw) (hg W) k⟩
/-- scalars compared -/
def D.scal : D → Option V
  | .non => some .non
  | .bl b => some (.bl b)
  | .int i => some (.int i)
  | .str s => some (.str s)
  | _ => none
theorem rep_scal {P : Option Addr} {W : Hp} {v w : V} {d : D} (h : d.scal = some w) (r : Rep C P W v d) : v = w := by
  cases r <;> first | (cases h; rfl) | cases h
theorem rk_eq {d1 d2 : D} {v1 v2 : V} (h1 : d1.scal = some v1) (h2 : d2.scal = some v2) (hs : scal v1 v2 = true) (k : K (.bl (decide (v1 = v2)))) : RK C B rEq d1 d2 K := fun W H hw pl x y r1 r2 Q q => by
  rw [rep_scal h1 r1, rep_scal h2 r2]
  exact ⟨hs, q _ _ W H (.refl hw) (.bl _) k⟩
theorem rk_ne {d1 d2 : D} {v1 v2 : V} (h1 : d1.scal = some v1) (h2 : d2.scal = some v2) (hs : scal v1 v2 = true) (k : K (.bl (!decide (v1 = v2)))) : RK C B rNe d1 d2 K := fun W H hw pl x y r1 r2 Q q => by
  rw [rep_scal h1 r1, rep_scal h2 r2]
  exact ⟨hs, q _ _ W H (.refl hw) (.bl _) k⟩
end
end G
end

section
set_option maxRecDepth 100000
set_option maxHeartbeats 2000000
/-! the data layer: statements, loops, comprehensions -/
namespace G
open PySem PySem.Spec PyProof.Rows L2

structure Oc where
  nx : List Sl → Prop
  rt : List Sl → D → Prop
  bk : List Sl → Prop := fun _ => False
  ct : List Sl → Prop := fun _ => False

section
variable (C : Cl) (B : Bs)
structure Sat (O : Oc) (D' : Ends) : Prop where
  nx : ∀ Γ W H σ, EnvOk C B W H σ Γ → O.nx Γ → D'.nx σ H
  rt : ∀ Γ d v W H σ, EnvOk C B W H σ Γ → Rep C B.P W v d → O.rt Γ d → D'.rt v H
  bk : ∀ Γ W H σ, EnvOk C B W H σ Γ → O.bk Γ → D'.bk σ H
  ct : ∀ Γ W H σ, EnvOk C B W H σ Γ → O.ct Γ → D'.ct σ H
def SK (Γ : List Sl) (ts : TS) (O : Oc) : Prop := ∀ W H σ, EnvOk C B W H σ Γ → ∀ D' : Ends, Sat C B O D' → ts D' σ H
/-- a target gets data -/
def GK (Γ : List Sl) (g : TG) (d : D) (K : List Sl → Prop) : Prop := ∀ W H σ v, EnvOk C B W H σ Γ → Rep C B.P W v d → ∀ Q : L2.St → Hp → Prop, (∀ Γ' W' H' σ', EnvOk C B W' H' σ' Γ' → K Γ' → Q σ' H') → g v σ H Q
def GKs (Γ : List Sl) (g : TGs) (l : List D) (K : List Sl → Prop) : Prop := ∀ W H σ vs, EnvOk C B W H σ Γ → RepL C B.P W vs l → ∀ Q : L2.St → Hp → Prop, (∀ Γ' W' H' σ', EnvOk C B W' H' σ' Γ' → K Γ' → Q σ' H') → g vs σ H Q
/-- targets that are names: the slots change, the heap does not -/
def GN (Γ : List Sl) (g : TG) (d : D) (T : List Nat) (K : List Sl → Prop) : Prop := ∀ W H σ v (ow : Nat → Addr), EnvOk C B W H σ Γ → (∀ i s, Γ[i]? = some s → s.isO = true → i ∉ T) → Owns C B W H σ Γ ow → Rep C B.P W v d → ∀ Q : L2.St → Hp → Prop, (∀ Γ' σ', EnvOk C B W H σ' Γ' → Owns C B W H σ' Γ' ow → (∀ vs : List Nat, (∀ i ∈ T, i ∈ vs) → L2.wipe σ' vs = L2.wipe σ vs) → K Γ' → Q σ' H) → g v σ H Q
/-- what an iterator yields -/
structure Yl (J : It) (W1 : Hp) (l : List D) : Prop where
  stop : ∀ H, Same W1 H → Same C.m H → J.stop l.length H
  go : ∀ i W H, i < l.length → Same W1 W → Same W H → PlOk C B.P W H → J.go i H ∧ ∀ x H', J.yld i H x H' → ∃ W' d, Stp C B.P noS W H W' H' ∧ l[i]? = some d ∧ Rep C B.P W' x d
def IK (Γ : List Sl) (wi : TI) (K : List D → Prop) : Prop := ∀ W H σ, EnvOk C B W H σ Γ → ∀ R : It → Hp → Prop, (∀ J W' H' l, Stp C B.P noS W H W' H' → Yl C B J W' l → K l → R J H') → wi σ H R
end

section
variable {C : Cl} {B : Bs} {Γ : List Sl} {ta tb te : TE} {tt : TT} {t u : TS} {O : Oc} {K : D → Prop}
theorem SK.mono {O' : Oc} (h : SK C B Γ t O) (n : ∀ Γ, O.nx Γ → O'.nx Γ) (r : ∀ Γ d, O.rt Γ d → O'.rt Γ d) (b : ∀ Γ, O.bk Γ → O'.bk Γ) (c : ∀ Γ, O.ct Γ → O'.ct Γ) : SK C B Γ t O' := fun W H σ e D' s =>
  h W H σ e D' ⟨fun Γ W H σ e z => s.nx Γ W H σ e (n Γ z), fun Γ d v W H σ e r' z => s.rt Γ d v W H σ e r' (r Γ d z), fun Γ W H σ e z => s.bk Γ W H σ e (b Γ z), fun Γ W H σ e z => s.ct Γ W H σ e (c Γ z)⟩
theorem sk_seq (h : SK C B Γ t { O with nx := fun Γ' => SK C B Γ' u O }) : SK C B Γ (tSeq t u) O := fun W H σ e D' s =>
  h W H σ e { D' with nx := u D' } ⟨fun Γ W H σ e z => z W H σ e D' s, s.rt, s.bk, s.ct⟩
/-- with a word between -/
theorem sk_cut (M : List Sl → Prop) (h : SK C B Γ t { O with nx := M }) (k : ∀ Γ', M Γ' → SK C B Γ' u O) : SK C B Γ (tSeq t u) O :=
  sk_seq (h.mono k (fun _ _ z => z) (fun _ z => z) (fun _ z => z))
theorem sk_next (h : O.nx Γ) : SK C B Γ tNext O := fun W H σ e D' s => s.nx Γ W H σ e h
theorem sk_break (h : O.bk Γ) : SK C B Γ tBreak O := fun W H σ e D' s => s.bk Γ W H σ e h
theorem sk_cont (h : O.ct Γ) : SK C B Γ tCont O := fun W H σ e D' s => s.ct Γ W H σ e h
theorem sk_weak {Γ' : List Sl} (w : Wk Γ Γ') (h : SK C B Γ' t O) : SK C B Γ t O := fun W H σ e D' s => h W H σ (e.weak w) D' s
theorem sk_freeze (i : Nat) {l : List D} (hs : Γ[i]? = some (.own l)) (h : SK C B (Γ.set i (.d (.lst l))) t O) : SK C B Γ t O := fun W H σ e D' s => by
  obtain ⟨W', _, e'⟩ := e.freeze hs
  exact h W' H σ e' D' s
theorem sk_asg {g : TG} (h : EK C B Γ te fun d => GK C B Γ g d O.nx) : SK C B Γ (tAsg te g) O := fun W H σ e D' s =>
  h W H σ e _ fun d v W1 H1 s1 r1 k => k W1 H1 σ v (e.step s1) r1 D'.nx fun Γ' W' H' σ' e' z => s.nx Γ' W' H' σ' e' z
theorem gk_name {i : Nat} {d : D} {K : List Sl → Prop} (k : K (Γ.set i (.d d))) (hi : isSlot Γ i = true := by rfl) : GK C B Γ (gName i) d K := fun W H σ v e r Q q =>
  q _ W H _ (e.setD hi r) k
theorem gk_tup {KK : PySem.W.Frag} {n : Nat} {gs : TGs} {d : D} {K : List Sl → Prop} (h : ∃ l, d = .tup l ∧ l.length = n ∧ GKs C B Γ gs l K) : GK C B Γ (gTup KK n gs) d K := fun W H σ v e r Q q => by
  obtain ⟨l, rfl, hn, k⟩ := h
  cases r with
  | tup ha rl => exact ⟨_, _, rfl, SqT.of (e.wh _ _ ha), rl.length.trans hn, k W H σ _ e rl Q q⟩
theorem gk_tupL {KK : PySem.W.Frag} {n : Nat} {gs : TGs} {l : List D} {K : List Sl → Prop} (hn : l.length = n) (h : GKs C B Γ gs l K) : GK C B Γ (gTup KK n gs) (.tup l) K := gk_tup ⟨l, rfl, hn, h⟩
theorem gks_nil {K : List Sl → Prop} (k : K Γ) : GKs C B Γ gNil [] K := fun W H σ vs e r Q q => by
  cases r
  exact ⟨rfl, q Γ W H σ e k⟩
theorem RepL.later {P : Option Addr} {W W' : Hp} {vs : List V} {l : List D} (h : RepL C P W vs l) (s : Same W W') : RepL C P W' vs l := h.mono s
theorem gks_cons {gs : TGs} {d : D} {l : List D} {i : Nat} {K : List Sl → Prop} (h : GKs C B (Γ.set i (.d d)) gs l K) (hi : isSlot Γ i = true := by rfl) : GKs C B Γ (gCons (gName i) gs) (d :: l) K := fun W H σ vs e r Q q => by
  cases r with
  | cons r1 r2 => exact ⟨_, _, rfl, h W H _ _ (e.setD hi r1) r2 Q q⟩
/-- a tuple within -/
theorem gks_consT {KK : PySem.W.Frag} {n i j : Nat} {gs : TGs} {x y : D} {l : List D} {K : List Sl → Prop} (h : GKs C B ((Γ.set i (.d x)).set j (.d y)) gs l K) (hi : isSlot Γ i = true := by rfl) (hj : isSlot Γ j = true := by rfl) :
    GKs C B Γ (gCons (gTup KK 2 (gCons (gName i) (gCons (gName j) gNil))) gs) (.tup [x, y] :: l) K := fun W H σ vs e r Q q => by
  cases r with
  | cons r1 r2 =>
    cases r1 with
    | tup ha rl =>
      cases rl with
      | cons q1 rl =>
        cases rl with
        | cons q2 rl =>
          cases rl
          refine ⟨_, _, rfl, _, _, rfl, SqT.of (e.wh _ _ ha), rfl, ⟨_, _, rfl, _, _, rfl, rfl, ?_⟩⟩
          exact h W H _ _ ((e.setD hi q1).setD (isSlot_set rfl hj) q2) r2 Q q
/-- own[i] = v -/
theorem gk_sub {i : Nat} {l : List D} {ti : TE} {d : D} {K : List Sl → Prop} (hs : Γ[i]? = some (.own l)) (h : EK C B Γ ti fun d2 => ∃ k j, d2 = .int k ∧ ixN l.length k = some j ∧ K (Γ.set i (.own (l.set j d)))) : GK C B Γ (gSub (tVar i) ti rSetL) d K := fun W H σ v e r Q q => by
  obtain ⟨ow, o⟩ := e.ow
  obtain ⟨h1, vs, h2, h3⟩ := o.ok i _ hs
  refine ⟨_, getD_some h1, h W H σ e _ fun d2 v2 W2 H2 s2 r2 ⟨k, j, e2, hj, kx⟩ => ?_⟩
  subst e2
  cases r2
  have o2 := o.step s2
  obtain ⟨h1', vs', h2', h3'⟩ := o2.ok i _ hs
  refine ⟨ow i, vs', k, j, rfl, rfl, h2', by rw [h3'.length]; exact hj, ?_⟩
  obtain ⟨ow2, o3, f⟩ := (e.step s2).chg (u := .lst (vs'.set j v)) (t := .own (l.set j d)) hs rfl rfl (fun _ h => h)
  have ee : ow2 i = ow i := by
    obtain ⟨g1, _⟩ := o3.ok i _ hs
    rw [h1] at g1
    injection g1 with g1
    injection g1 with g1
    exact g1.symm
  rw [ee] at f
  exact q _ W2 _ σ (f ⟨h1, vs'.set j v, upd_same, h3'.set (r.mono s2.ww) j⟩) kx
theorem sk_asgO {i : Nat} (h : EF C B Γ te fun l => O.nx (Γ.set i (.own l))) (hi : isSlot Γ i = true := by rfl) : SK C B Γ (tAsg te (gName i)) O := fun W H σ e D' s =>
  h W H σ e _ fun l a vs W1 H1 s1 ha hW hh r1 k => by
    obtain ⟨ow, o⟩ := e.ow
    refine s.nx _ W1 H1 _ ((e.step s1).setO hi (e.stp.free ha) hW (fun z => e.pl.ne a z ha) ⟨ow, o.step s1, o.ne ha, o.neC ha⟩ hh r1) k
theorem sk_ret (h : EK C B Γ te (O.rt Γ)) : SK C B Γ (tRet te) O := fun W H σ e D' s =>
  h W H σ e _ fun d v W1 H1 s1 r1 k => s.rt Γ d v W1 H1 σ (e.step s1) r1 k
theorem sk_drop (h : EK C B Γ te fun _ => O.nx Γ) : SK C B Γ (tDrop te) O := fun W H σ e D' s =>
  h W H σ e _ fun d v W1 H1 s1 r1 k => s.nx Γ W1 H1 σ (e.step s1) k
theorem sk_if (h : TK C B Γ tt fun b => (b = true → SK C B Γ t O) ∧ (b = false → SK C B Γ u O)) : SK C B Γ (tIfS tt t u) O := fun W H σ e D' s =>
  h W H σ e _ fun b W1 H1 s1 k => by
    cases b with
    | true => exact k.1 rfl W1 H1 σ (e.step s1) D' s
    | false => exact k.2 rfl W1 H1 σ (e.step s1) D' s
theorem sk_append {KK : PySem.W.Frag} {i : Nat} {l : List D} (hs : Γ[i]? = some (.own l)) (h : EK C B Γ te fun d => l.length < sizeLine ∧ O.nx (Γ.set i (.own (l ++ [d])))) :
    SK C B Γ (tDrop (tBM KK "list" rAppend (tVar i) (tCons te tNil))) O := fun W H σ e D' s => by
  obtain ⟨ow, o⟩ := e.ow
  obtain ⟨h1, vs, h2, h3⟩ := o.ok i _ hs
  refine ⟨_, getD_some h1, .inl ⟨rfl, _, SqL.of h2⟩, h W H σ e _ fun d v W1 H1 s1 r1 ⟨hz, k⟩ => ?_⟩
  have o2 := o.step s1
  obtain ⟨h1', vs', h2', h3'⟩ := o2.ok i _ hs
  refine ⟨ow i, vs', v, rfl, rfl, h2', by rw [h3'.length]; exact hz, ?_⟩
  obtain ⟨ow2, o3, f⟩ := (e.step s1).chg (u := .lst (vs' ++ [v])) (t := .own (l ++ [d])) hs rfl rfl (fun _ h => h)
  have ee : ow2 i = ow i := by
    obtain ⟨g1, _⟩ := o3.ok i _ hs
    rw [h1] at g1
    injection g1 with g1
    injection g1 with g1
    exact g1.symm
  rw [ee] at f
  exact s.nx _ W1 _ σ (f ⟨h1, vs' ++ [v], upd_same, h3'.append (.one r1)⟩) k
/-- loops -/
theorem sk_for {wi : TI} {g : TG} (h : IK C B Γ wi fun l => ∃ I : Nat → List Sl → Prop, I 0 Γ ∧
      (∀ W1 i d Γ', l[i]? = some d → I i Γ' → GK C (B.keep W1) Γ' g d fun Γ2 => SK C (B.keep W1) Γ2 t { O with nx := I (i + 1), ct := I (i + 1), bk := O.nx }) ∧ ∀ Γ', I l.length Γ' → O.nx Γ') : SK C B Γ (tFor wi g t) O := fun W H σ e D' s =>
  h W H σ e _ fun J W1 H1 l s1 y ⟨I, i0, hs, hd⟩ => by
    have e1 := e.step s1
    refine ⟨fun i m σ H => m = l.length - i ∧ i ≤ l.length ∧ ∃ W2 Γ2, EnvOk C (B.keep W1) W2 H σ Γ2 ∧ I i Γ2, ⟨l.length, rfl, Nat.zero_le _, W1, Γ, e1.keep W1 (.refl _), i0⟩, ?_⟩
    rintro i m σ2 H2 ⟨rfl, hi, W2, Γ2, e2, i2⟩
    have e3 : EnvOk C B W2 H2 σ2 Γ2 := e2.unkeep e1.kp
    by_cases hlt : i < l.length
    · obtain ⟨y1, y2⟩ := y.go i W2 H2 hlt e2.kp e2.wh e2.pl
      refine .inr ⟨y1, fun σ' H' => ∃ W2 Γ2, EnvOk C (B.keep W1) W2 H' σ' Γ2 ∧ I (i + 1) Γ2, fun σ' H' z => ⟨l.length - (i + 1), by omega, rfl, hlt, z⟩, fun x H3 hy => ?_⟩
      obtain ⟨W3, d, s3, hd', r3⟩ := y2 x H3 hy
      refine hs W1 i d Γ2 hd' i2 W3 H3 σ2 x (e2.step s3) r3 _ fun Γ4 W4 H4 σ4 e4 k4 => ?_
      exact k4 W4 H4 σ4 e4 _ ⟨fun Γ5 W5 H5 σ5 e5 z => ⟨W5, Γ5, e5, z⟩, fun Γ5 d v W5 H5 σ5 e5 r5 z => s.rt Γ5 d v W5 H5 σ5 (e5.unkeep e1.kp) r5 z, fun Γ5 W5 H5 σ5 e5 z => s.nx Γ5 W5 H5 σ5 (e5.unkeep e1.kp) z, fun Γ5 W5 H5 σ5 e5 z => ⟨W5, Γ5, e5, z⟩⟩
    · have hh : i = l.length := by omega
      subst hh
      exact .inl ⟨y.stop H2 (e2.kp.trans e2.wh) (fun a o z => (e2.pl.rg a o z).1), s.nx Γ2 W2 H2 σ2 e3 (hd Γ2 i2)⟩
theorem sk_while {tc : TT} (I : Nat → List Sl → Prop) (h0 : ∃ m, I m Γ) (hs : ∀ m Γ', I m Γ' → TK C B Γ' tc fun b => (b = true → SK C B Γ' t { O with nx := fun Γ2 => ∃ m', m' < m ∧ I m' Γ2, ct := fun Γ2 => ∃ m', m' < m ∧ I m' Γ2, bk := O.nx }) ∧ (b = false → O.nx Γ')) :
    SK C B Γ (tWhile tc t) O := fun W H σ e D' s => by
  obtain ⟨m0, i0⟩ := h0
  refine ⟨fun m σ H => ∃ W2 Γ2, EnvOk C B W2 H σ Γ2 ∧ I m Γ2, ⟨m0, W, Γ, e, i0⟩, ?_⟩
  rintro m σ2 H2 ⟨W2, Γ2, e2, i2⟩
  refine hs m Γ2 i2 W2 H2 σ2 e2 _ fun b W3 H3 s3 k => ?_
  have e3 := e2.step s3
  cases b with
  | true =>
    rw [if_pos rfl]
    refine ⟨fun σ' H' => ∃ m', m' < m ∧ ∃ W2 Γ2, EnvOk C B W2 H' σ' Γ2 ∧ I m' Γ2, fun σ' H' z => z, k.1 rfl W3 H3 σ2 e3 _ ⟨fun Γ5 W5 H5 σ5 e5 ⟨m', z, z2⟩ => ⟨m', z, W5, Γ5, e5, z2⟩, fun Γ5 d v W5 H5 σ5 e5 r5 z => s.rt Γ5 d v W5 H5 σ5 e5 r5 z, fun Γ5 W5 H5 σ5 e5 z => s.nx Γ5 W5 H5 σ5 e5 z, fun Γ5 W5 H5 σ5 e5 ⟨m', z, z2⟩ => ⟨m', z, W5, Γ5, e5, z2⟩⟩⟩
  | false =>
    rw [if_neg Bool.false_ne_true]
    exact s.nx Γ2 W3 H3 σ2 e3 (k.2 rfl)
/-- what is walked -/
theorem yl_list {KK : PySem.W.Frag} {W1 : Hp} {a : Addr} {vs : List V} {l : List D} (ha : W1 a = some (.lst vs)) (r : RepL C B.P W1 vs l) : Yl C B (Itl KK a) W1 l where
  stop := fun H s _ => ⟨vs, SqL.of (s _ _ ha), Nat.le_of_eq r.length⟩
  go := fun i W H hi s1 s2 pl => by
    have hv : i < vs.length := by rw [r.length]; exact hi
    refine ⟨⟨vs, vs[i], SqL.of (s2 _ _ (s1 _ _ ha)), by simp [hv]⟩, fun x H' ⟨e, y⟩ => ?_⟩
    subst e
    obtain ⟨d, h1, h2⟩ := (r.mono s1).getV (y vs (SqL.of (s2 _ _ (s1 _ _ ha))))
    exact ⟨W, d, .refl s2, h1, h2⟩
theorem yl_tup {KK : PySem.W.Frag} {W1 : Hp} {a : Addr} {vs : List V} {l : List D} (ha : W1 a = some (.tup vs)) (r : RepL C B.P W1 vs l) : Yl C B (Itt KK a) W1 l where
  stop := fun H s _ => ⟨vs, SqT.of (s _ _ ha), Nat.le_of_eq r.length⟩
  go := fun i W H hi s1 s2 pl => by
    have hv : i < vs.length := by rw [r.length]; exact hi
    refine ⟨⟨vs, vs[i], SqT.of (s2 _ _ (s1 _ _ ha)), by simp [hv]⟩, fun x H' ⟨e, y⟩ => ?_⟩
    subst e
    obtain ⟨d, h1, h2⟩ := (r.mono s1).getV (y vs (SqT.of (s2 _ _ (s1 _ _ ha))))
    exact ⟨W, d, .refl s2, h1, h2⟩
def rangeD (lo : Int) (n : Nat) : List D := (List.range n).map fun (k : Nat) => .int (lo + (k : Int))
theorem yl_range {W1 : Hp} {lo : Int} {n : Nat} : Yl C B (Itr lo n) W1 (rangeD lo n) where
  stop := fun H s _ => by show n ≤ _; simp [rangeD]
  go := fun i W H hi s1 s2 pl => by
    have hi' : i < n := by simpa [rangeD] using hi
    refine ⟨hi', fun x H' ⟨e, y⟩ => ?_⟩
    subst e; subst y
    exact ⟨W, .int (lo + i), .refl s2, by simp [rangeD, hi'], .int _⟩
/-- a list or a tuple, by the universal rule -/
def iAny (KK : PySem.W.Frag) (te : TE) : TI := fun σ H R => iList KK te σ H R ∨ iTup KK te σ H R
theorem pi_any {X : Cx} {tg l : Expr} {tl : TE} (hl : PE X l tl) : PI X tg l (iAny X.K tl) := ⟨fun pins s σ H R I h => by
  rcases h with h | h
  · exact (pi_list hl).run pins s σ H R I h
  · exact (pi_tup hl).run pins s σ H R I h⟩
end
end G
end

section
set_option maxRecDepth 100000
set_option maxHeartbeats 2000000
/-! the data layer: what is walked, comprehensions, built-ins -/
namespace G
open PySem PySem.Spec PyProof.Rows L2

/-- a list or a tuple, by the value -/
def iSeq (KK : PySem.W.Frag) (te : TE) : TI := fun σ H R => te σ H fun x H1 => ∃ a, x = .ref a ∧ (((∃ xs, SqL KK H1 a xs) ∧ R (Itl KK a) H1) ∨ ((∃ xs, SqT KK H1 a xs) ∧ R (Itt KK a) H1))
theorem pi_seq {X : Cx} {tg l : Expr} {tl : TE} (hl : PE X l tl) : PI X tg l (iSeq X.K tl) := by
  refine ⟨fun pins s σ H R I h => ?_⟩
  refine thn (hl.run pins s σ H _ I h) fun v s1 ⟨x, H1, I1, r1, q1⟩ => ?_
  obtain ⟨a, e, q⟩ := q1
  subst e
  cases r1
  rcases q with ⟨⟨xs, hq⟩, q⟩ | ⟨⟨xs, hq⟩, q⟩
  · obtain ⟨its, rv, p, hz⟩ := I1.list hq
    refine wpAny_pyIter_list p.isList ?_
    refine ⟨s1.heap.objs.size, [s1.heap.objs.size], _, _, H1, rfl, I1.kept (t' := s1.toks) fun b o e => Heap.get?_push_of_some _ e, turn_list a _, ⟨_, Heap.get?_push_size _ rfl, rfl, rfl⟩, fun b hb => ?_, q⟩
    have e : b = s1.heap.objs.size := by simpa using hb
    subst e
    exact I1.fpOk (Nat.le_refl _) (I1.hok.fresh (Nat.le_refl _))
  · obtain ⟨its, rv, p, hz⟩ := I1.tuple hq
    refine wpAny_pyIter_tuple (show s1.heap.IsTuple a its.toArray from p) ?_
    refine ⟨s1.heap.objs.size, [s1.heap.objs.size], _, _, H1, rfl, I1.kept (t' := s1.toks) fun b o e => Heap.get?_push_of_some _ e, turn_tuple a _, ⟨_, Heap.get?_push_size _ rfl, rfl, rfl⟩, fun b hb => ?_, q⟩
    have e : b = s1.heap.objs.size := by simpa using hb
    subst e
    exact I1.fpOk (Nat.le_refl _) (I1.hok.fresh (Nat.le_refl _))

def enumD (l : List D) : List D := l.zipIdx.map fun p => .tup [.int (p.2 : Nat), p.1]
def zipD (l m : List D) : List D := (l.zip m).map fun p => .tup [p.1, p.2]

section
variable {C : Cl} {B : Bs} {Γ : List Sl} {ta tb te : TE} {K : List D → Prop} {KK : PySem.W.Frag}
/-- a list that is only read -/
theorem yl_mls {W1 : Hp} {a : Addr} {vs : List V} {l : List D} (ha : C.m a = some (.lst vs)) (r : RepL C B.P W1 vs l) : Yl C B (Itl KK a) W1 l where
  stop := fun H s z => ⟨vs, SqL.of (z _ _ ha), Nat.le_of_eq r.length⟩
  go := fun i W H hi s1 s2 pl => by
    have hv : i < vs.length := by rw [r.length]; exact hi
    have q : SqL KK H a vs := SqL.of (pl.rg _ _ ha).1
    refine ⟨⟨vs, vs[i], q, by simp [hv]⟩, fun x H' ⟨e, y⟩ => ?_⟩
    subst e
    obtain ⟨d, h1, h2⟩ := (r.mono s1).getV (y vs q)
    exact ⟨W, d, .refl s2, h1, h2⟩
theorem ik_seq (h : EK C B Γ te fun d => ∃ k l, d = Kd.d k l ∧ K l) : IK C B Γ (iSeq KK te) K := fun W H σ e R q =>
  h W H σ e _ fun d v W1 H1 s1 r1 ⟨k, l, e0, h1⟩ => by
    cases k with
    | l =>
      subst e0
      cases r1 with
      | lst ha r => exact ⟨_, rfl, .inl ⟨⟨_, SqL.of (s1.wh _ _ ha)⟩, q _ W1 H1 l s1 (yl_list ha r) h1⟩⟩
    | t =>
      subst e0
      cases r1 with
      | tup ha r => exact ⟨_, rfl, .inr ⟨⟨_, SqT.of (s1.wh _ _ ha)⟩, q _ W1 H1 l s1 (yl_tup ha r) h1⟩⟩
    | m =>
      subst e0
      cases r1 with
      | mls ha r => exact ⟨_, rfl, .inl ⟨⟨_, SqL.of ((e.pl.step s1).rg _ _ ha).1⟩, q _ W1 H1 l s1 (yl_mls ha r) h1⟩⟩
/-- the script -/
theorem yl_raw {W1 : Hp} {a : Addr} {o : Obj} {vs : List V} {l : List D} (ha : W1 a = some (.frz o (.lst vs))) (r : RepL C B.P W1 vs l) : Yl C B (Itl KK a) W1 l where
  stop := fun H s _ => ⟨vs, .inl (.inr ⟨o, s _ _ ha⟩), Nat.le_of_eq r.length⟩
  go := fun i W H hi s1 s2 pl => by
    have hv : i < vs.length := by rw [r.length]; exact hi
    have q : SqL KK H a vs := .inl (.inr ⟨o, s2 _ _ (s1 _ _ ha)⟩)
    refine ⟨⟨vs, vs[i], q, by simp [hv]⟩, fun x H' ⟨e, y⟩ => ?_⟩
    subst e
    obtain ⟨d, h1, h2⟩ := (r.mono s1).getV (y vs q)
    exact ⟨W, d, .refl s2, h1, h2⟩
theorem ik_raw (h : EK C B Γ te fun d => ∃ l, d = .raw l ∧ K l) : IK C B Γ (iSeq KK te) K := fun W H σ e R q =>
  h W H σ e _ fun d v W1 H1 s1 r1 ⟨l, e0, h1⟩ => by
    subst e0
    cases r1 with
    | raw ha r => exact ⟨_, rfl, .inl ⟨⟨_, .inl (.inr ⟨_, s1.wh _ _ ha⟩)⟩, q _ W1 H1 l s1 (yl_raw ha r) h1⟩⟩
theorem ik_range1 {ta : TA} (h : AK C B Γ ta fun l => ∃ j : Int, l = [.int j] ∧ -(2 ^ 62) ≤ j ∧ j < 2 ^ 62 ∧ K (rangeD 0 j.toNat)) : IK C B Γ (iRng1 ta) K := fun W H σ e R q =>
  h W H σ e _ fun l vs W1 H1 s1 r1 ⟨j, e0, h1, h2, k⟩ => by
    subst e0
    cases r1 with
    | cons r rr =>
      cases r; cases rr
      exact ⟨j, rfl, h1, h2, q _ W1 H1 _ s1 yl_range k⟩
theorem ik_range2 {ta : TA} (h : AK C B Γ ta fun l => ∃ i j : Int, l = [.int i, .int j] ∧ (-(2 ^ 62) ≤ i ∧ i < 2 ^ 62 ∧ -(2 ^ 62) ≤ j ∧ j < 2 ^ 62) ∧ K (rangeD i (j - i).toNat)) : IK C B Γ (iRng2 ta) K := fun W H σ e R q =>
  h W H σ e _ fun l vs W1 H1 s1 r1 ⟨i, j, e0, h1, k⟩ => by
    subst e0
    cases r1 with
    | cons r rr =>
      cases r
      cases rr with
      | cons r rr =>
        cases r; cases rr
        exact ⟨i, j, rfl, h1, q _ W1 H1 _ s1 yl_range k⟩
theorem yl_enum {W1 : Hp} {a : Addr} {vs : List V} {l : List D} (ha : W1 a = some (.lst vs)) (r : RepL C B.P W1 vs l) : Yl C B (Ite KK a) W1 (enumD l) where
  stop := fun H s _ => ⟨vs, SqL.of (s _ _ ha), by simp [enumD, r.length]⟩
  go := fun i W H hi s1 s2 pl => by
    have hi' : i < l.length := by simpa [enumD] using hi
    have hv : i < vs.length := by rw [r.length]; exact hi'
    refine ⟨⟨vs, vs[i], SqL.of (s2 _ _ (s1 _ _ ha)), by simp [hv]⟩, fun x H' ⟨T, x0, e1, e2, e3, y⟩ => ?_⟩
    subst e1; subst e3
    obtain ⟨d, h1, h2⟩ := (r.mono s1).getV (y vs (SqL.of (s2 _ _ (s1 _ _ ha))))
    have st := Stp.new (C := C) (P := B.P) (S := noS) (o := .tup [.int (i : Nat), x0]) s2 e2 pl.ne
    exact ⟨_, .tup [.int (i : Nat), d], st, by simp [enumD, h1], .tup upd_same (.cons (.int _) (.one (h2.mono st.ww)))⟩
theorem ik_enum {ta : TA} (h : AK C B Γ ta fun l => ∃ xs, l = [.lst xs] ∧ K (enumD xs)) : IK C B Γ (iEnum KK ta) K := fun W H σ e R q =>
  h W H σ e _ fun l vs W1 H1 s1 r1 ⟨xs, e0, k⟩ => by
    subst e0
    cases r1 with
    | cons r rr =>
      cases rr
      cases r with
      | lst ha r => exact ⟨_, _, rfl, SqL.of (s1.wh _ _ ha), q _ W1 H1 _ s1 (yl_enum ha r) k⟩
theorem yl_zipL {W1 : Hp} {a b : Addr} {vs ws : List V} {l m : List D} (ha : W1 a = some (.lst vs)) (hb : W1 b = some (.lst ws)) (r : RepL C B.P W1 vs l) (r2 : RepL C B.P W1 ws m) : Yl C B (Itz KK a b) W1 (zipD l m) where
  stop := fun H s _ => ⟨vs, ws, SqL.of (s _ _ ha), SqL.of (s _ _ hb), by
    simp only [zipD, List.length_map, List.length_zip, r.length, r2.length]
    omega⟩
  go := fun i W H hi s1 s2 pl => by
    have hi' : i < l.length ∧ i < m.length := by
      simp only [zipD, List.length_map, List.length_zip] at hi
      omega
    have hv : i < vs.length := by rw [r.length]; exact hi'.1
    have hw : i < ws.length := by rw [r2.length]; exact hi'.2
    refine ⟨⟨vs, ws, vs[i], ws[i], SqL.of (s2 _ _ (s1 _ _ ha)), SqL.of (s2 _ _ (s1 _ _ hb)), by simp [hv], by simp [hw]⟩, fun x H' ⟨T, x0, y0, e1, e2, e3, y, z⟩ => ?_⟩
    subst e1; subst e3
    obtain ⟨d, h1, h2⟩ := (r.mono s1).getV (y vs (SqL.of (s2 _ _ (s1 _ _ ha))))
    obtain ⟨d', h3, h4⟩ := (r2.mono s1).getV (z ws (SqL.of (s2 _ _ (s1 _ _ hb))))
    have st := Stp.new (C := C) (P := B.P) (S := noS) (o := .tup [x0, y0]) s2 e2 pl.ne
    exact ⟨_, .tup [d, d'], st, by simp [zipD, List.getElem?_zip_eq_some, h1, h3], .tup upd_same (.cons (h2.mono st.ww) (.one (h4.mono st.ww)))⟩
theorem yl_zipT {W1 : Hp} {a b : Addr} {vs ws : List V} {l m : List D} (ha : W1 a = some (.tup vs)) (hb : W1 b = some (.tup ws)) (r : RepL C B.P W1 vs l) (r2 : RepL C B.P W1 ws m) : Yl C B (RZ.ItzT KK a b) W1 (zipD l m) where
  stop := fun H s _ => ⟨vs, ws, SqT.of (s _ _ ha), SqT.of (s _ _ hb), by
    simp only [zipD, List.length_map, List.length_zip, r.length, r2.length]
    omega⟩
  go := fun i W H hi s1 s2 pl => by
    have hi' : i < l.length ∧ i < m.length := by
      simp only [zipD, List.length_map, List.length_zip] at hi
      omega
    have hv : i < vs.length := by rw [r.length]; exact hi'.1
    have hw : i < ws.length := by rw [r2.length]; exact hi'.2
    refine ⟨⟨vs, ws, vs[i], ws[i], SqT.of (s2 _ _ (s1 _ _ ha)), SqT.of (s2 _ _ (s1 _ _ hb)), by simp [hv], by simp [hw]⟩, fun x H' ⟨T, x0, y0, e1, e2, e3, y, z⟩ => ?_⟩
    subst e1; subst e3
    obtain ⟨d, h1, h2⟩ := (r.mono s1).getV (y vs (SqT.of (s2 _ _ (s1 _ _ ha))))
    obtain ⟨d', h3, h4⟩ := (r2.mono s1).getV (z ws (SqT.of (s2 _ _ (s1 _ _ hb))))
    have st := Stp.new (C := C) (P := B.P) (S := noS) (o := .tup [x0, y0]) s2 e2 pl.ne
    exact ⟨_, .tup [d, d'], st, by simp [zipD, List.getElem?_zip_eq_some, h1, h3], .tup upd_same (.cons (h2.mono st.ww) (.one (h4.mono st.ww)))⟩
theorem ik_zip {ta : TA} (h : AK C B Γ ta fun l => ∃ k xs ys, k ≠ .m ∧ l = [Kd.d k xs, Kd.d k ys] ∧ K (zipD xs ys)) : IK C B Γ (RZ.iZipA KK ta) K := fun W H σ e R q =>
  h W H σ e _ fun l vs W1 H1 s1 r1 ⟨k, xs, ys, km, e0, kk⟩ => by
    subst e0
    cases r1 with
    | cons r rr =>
      cases rr with
      | cons r' rr =>
        cases rr
        cases k with
        | m => exact absurd rfl km
        | l =>
          cases r with
          | lst ha r =>
            cases r' with
            | lst hb r2 => exact ⟨_, _, _, _, rfl, .inl ⟨SqL.of (s1.wh _ _ ha), SqL.of (s1.wh _ _ hb), q _ W1 H1 _ s1 (yl_zipL ha hb r r2) kk⟩⟩
        | t =>
          cases r with
          | tup ha r =>
            cases r' with
            | tup hb r2 => exact ⟨_, _, _, _, rfl, .inr ⟨SqT.of (s1.wh _ _ ha), SqT.of (s1.wh _ _ hb), q _ W1 H1 _ s1 (yl_zipT ha hb r r2) kk⟩⟩
theorem rev_at {α : Type} {l : List α} {i : Nat} (h : i < l.length) : l.reverse[i]? = l[l.length - 1 - i]? := List.getElem?_reverse h
theorem yl_revL {W1 : Hp} {a : Addr} {vs : List V} {l : List D} (ha : W1 a = some (.lst vs)) (r : RepL C B.P W1 vs l) : Yl C B (Itv KK a vs.length) W1 l.reverse where
  stop := fun H s _ => by show vs.length ≤ _; rw [List.length_reverse, r.length]; exact Nat.le_refl _
  go := fun i W H hi s1 s2 pl => by
    have hi' : i < l.length := by simpa using hi
    have hv : vs.length - 1 - i < vs.length := by have := r.length; omega
    refine ⟨⟨by rw [r.length]; exact hi', vs, vs[vs.length - 1 - i], SqL.of (s2 _ _ (s1 _ _ ha)), by simp [hv]⟩, fun x H' ⟨e, y⟩ => ?_⟩
    subst e
    obtain ⟨d, h1, h2⟩ := (r.mono s1).getV (y vs (SqL.of (s2 _ _ (s1 _ _ ha))))
    exact ⟨W, d, .refl s2, by rw [rev_at hi', ← r.length]; exact h1, h2⟩
theorem yl_revT {W1 : Hp} {a : Addr} {vs : List V} {l : List D} (ha : W1 a = some (.tup vs)) (r : RepL C B.P W1 vs l) : Yl C B (RT.ItvT KK a vs.length) W1 l.reverse where
  stop := fun H s _ => by show vs.length ≤ _; rw [List.length_reverse, r.length]; exact Nat.le_refl _
  go := fun i W H hi s1 s2 pl => by
    have hi' : i < l.length := by simpa using hi
    have hv : vs.length - 1 - i < vs.length := by have := r.length; omega
    refine ⟨⟨by rw [r.length]; exact hi', vs, vs[vs.length - 1 - i], SqT.of (s2 _ _ (s1 _ _ ha)), by simp [hv]⟩, fun x H' ⟨e, y⟩ => ?_⟩
    subst e
    obtain ⟨d, h1, h2⟩ := (r.mono s1).getV (y vs (SqT.of (s2 _ _ (s1 _ _ ha))))
    exact ⟨W, d, .refl s2, by rw [rev_at hi', ← r.length]; exact h1, h2⟩
theorem ik_rev (h : EK C B Γ te fun d => ∃ k l, d = Kd.d k l ∧ k ≠ .m ∧ K l.reverse) : IK C B Γ (RT.iRevA KK te) K := fun W H σ e R q =>
  h W H σ e _ fun d v W1 H1 s1 r1 ⟨k, l, e0, km, h1⟩ => by
    cases k with
    | m => exact absurd rfl km
    | l =>
      subst e0
      cases r1 with
      | lst ha r => exact ⟨_, _, rfl, .inl ⟨SqL.of (s1.wh _ _ ha), q _ W1 H1 _ s1 (yl_revL ha r) h1⟩⟩
    | t =>
      subst e0
      cases r1 with
      | tup ha r => exact ⟨_, _, rfl, .inr ⟨SqT.of (s1.wh _ _ ha), q _ W1 H1 _ s1 (yl_revT ha r) h1⟩⟩

/-! ### comprehensions -/
theorem wipe_set {σ : L2.St} {x : Option V} : ∀ {vs : List Nat} {i : Nat}, i ∈ vs → L2.wipe (σ.set i x) vs = L2.wipe σ vs
  | [], i, h => by cases h
  | v :: vs, i, h => by
    show (L2.wipe (σ.set i x) vs).set v none = (L2.wipe σ vs).set v none
    by_cases hv : v = i
    · subst hv
      have : ∀ (ws : List Nat) (τ : L2.St), (L2.wipe (τ.set v x) ws).set v none = (L2.wipe τ ws).set v none := by
        intro ws
        induction ws with
        | nil => intro τ; show (τ.set v x).set v none = τ.set v none; rw [List.set_set]
        | cons w ws ih =>
          intro τ
          show ((L2.wipe (τ.set v x) ws).set w none).set v none = ((L2.wipe τ ws).set w none).set v none
          by_cases hw : w = v
          · subst hw; rw [ih]
          · rw [List.set_comm _ _ hw, ih, List.set_comm _ _ (Ne.symm hw)]
      exact this vs σ
    · rcases List.mem_cons.mp h with e | h
      · exact absurd e.symm hv
      · rw [wipe_set h]
theorem wipe_wipe (σ : L2.St) : ∀ vs : List Nat, L2.wipe (L2.wipe σ vs) vs = L2.wipe σ vs := by
  have key : ∀ (ws vs : List Nat) (τ : L2.St), (∀ v ∈ ws, v ∈ vs) → L2.wipe (L2.wipe τ ws) vs = L2.wipe τ vs := by
    intro ws
    induction ws with
    | nil => intro vs τ _; rfl
    | cons w ws ih =>
      intro vs τ h
      show L2.wipe ((L2.wipe τ ws).set w none) vs = _
      rw [wipe_set (h w List.mem_cons_self)]
      exact ih vs τ fun v hv => h v (List.mem_cons_of_mem _ hv)
  exact fun vs => key vs vs σ fun _ h => h
/-- a comprehension's target: names among vs -/
def CG (C : Cl) (B : Bs) (Γ : List Sl) (g : TG) (d : D) (vs : List Nat) (K : List Sl → Prop) : Prop := ∀ W H σ v (ow : Nat → Addr), EnvOk C B W H σ Γ → Owns C B W H σ Γ ow → Rep C B.P W v d → ∀ Q : L2.St → Hp → Prop,
  (∀ Γ' σ', EnvOk C B W H σ' Γ' → (∃ ow', Owns C B W H σ' Γ' ow' ∧ ∀ i s, Γ'[i]? = some s → s.isO = true → ∃ j t, Γ[j]? = some t ∧ t.isO = true ∧ ow' i = ow j) → L2.wipe σ' vs = L2.wipe σ vs → K Γ' → Q σ' H) → g v σ H Q
def CGs (C : Cl) (B : Bs) (Γ : List Sl) (g : TGs) (l : List D) (vs : List Nat) (K : List Sl → Prop) : Prop := ∀ W H σ xs (ow : Nat → Addr), EnvOk C B W H σ Γ → Owns C B W H σ Γ ow → RepL C B.P W xs l → ∀ Q : L2.St → Hp → Prop,
  (∀ Γ' σ', EnvOk C B W H σ' Γ' → (∃ ow', Owns C B W H σ' Γ' ow' ∧ ∀ i s, Γ'[i]? = some s → s.isO = true → ∃ j t, Γ[j]? = some t ∧ t.isO = true ∧ ow' i = ow j) → L2.wipe σ' vs = L2.wipe σ vs → K Γ' → Q σ' H) → g xs σ H Q
theorem set_isO {i : Nat} {x : D} {a : Nat} {s : Sl} (h : (Γ.set i (.d x))[a]? = some s) (hs : s.isO = true) : Γ[a]? = some s := by
  by_cases ha : i = a
  · subst ha
    by_cases hi : i < Γ.length
    · rw [List.getElem?_set_self hi] at h; cases h; cases hs
    · rw [List.getElem?_eq_none (by simpa using hi)] at h; cases h
  · rw [List.getElem?_set_ne ha] at h; exact h
theorem cg_name {i : Nat} {d : D} {vs : List Nat} {K : List Sl → Prop} (k : K (Γ.set i (.d d))) (hi : isSlot Γ i = true := by rfl) (hv : i ∈ vs := by decide) : CG C B Γ (gName i) d vs K := fun W H σ v ow e o r Q q =>
  q _ _ (e.setD hi r) ⟨ow, o.setD e.len hi r, fun a s h hs => ⟨a, s, set_isO h hs, hs, rfl⟩⟩ (wipe_set hv) k
theorem cg_tup {n : Nat} {gs : TGs} {l : List D} {vs : List Nat} {K : List Sl → Prop} (hn : l.length = n) (h : CGs C B Γ gs l vs K) : CG C B Γ (gTup KK n gs) (.tup l) vs K := fun W H σ v ow e o r Q q => by
  cases r with
  | tup ha rl => exact ⟨_, _, rfl, SqT.of (e.wh _ _ ha), rl.length.trans hn, h W H σ _ ow e o rl Q q⟩
theorem cgs_nil {vs : List Nat} {K : List Sl → Prop} (k : K Γ) : CGs C B Γ gNil [] vs K := fun W H σ xs ow e o r Q q => by
  cases r
  exact ⟨rfl, q Γ σ e ⟨ow, o, fun i s h hs => ⟨i, s, h, hs, rfl⟩⟩ rfl k⟩
theorem cgs_cons {gs : TGs} {d : D} {l : List D} {i : Nat} {vs : List Nat} {K : List Sl → Prop} (h : CGs C B (Γ.set i (.d d)) gs l vs K) (hi : isSlot Γ i = true := by rfl) (hv : i ∈ vs := by decide) : CGs C B Γ (gCons (gName i) gs) (d :: l) vs K := fun W H σ xs ow e o r Q q => by
  cases r with
  | cons r1 r2 =>
    refine ⟨_, _, rfl, h W H _ _ ow (e.setD hi r1) (o.setD e.len hi r1) r2 Q fun Γ' σ' e' o' w k => q Γ' σ' e' ?_ (w.trans (wipe_set hv)) k⟩
    obtain ⟨ow', o', m⟩ := o'
    refine ⟨ow', o', fun a s h1 hs => ?_⟩
    obtain ⟨j, t, h2, h3, h4⟩ := m a s h1 hs
    exact ⟨j, t, set_isO h2 h3, h3, h4⟩
/-- [te for g in wi if tt]; J says what is made behind i items -/
theorem ef_lc {wi : TI} {g : TG} {tt : TT} {vs : List Nat} (h : IK C B Γ wi fun l => ∃ J : Nat → List D → Prop, J 0 [] ∧
      (∀ W1 i d acc, l[i]? = some d → J i acc → CG C (B.keep W1) (wipeG Γ vs) g d vs fun Γ2 => TK C (B.keep W1) Γ2 tt fun b => (b = true → EK C (B.keep W1) Γ2 te fun y => acc.length < sizeLine ∧ J (i + 1) (acc ++ [y])) ∧ (b = false → J (i + 1) acc)) ∧
      ∀ acc, J l.length acc → K acc) : EF C B Γ (tLc wi g tt te vs) K := fun W H σ e Q q =>
  h W H σ e _ fun It W1 H1 l s1 y ⟨J, j0, hs, hd⟩ Dl hDl => by
    have e1 := e.step s1
    obtain ⟨ow, o⟩ := e.ow
    have o1 := o.step s1
    have hW1 : W1 Dl = none := by
      cases z : W1 Dl with
      | none => rfl
      | some x => rw [s1.wh _ _ z] at hDl; cases hDl
    have hP : B.P ≠ some Dl := fun z => e1.pl.ne Dl z hDl
    have hH : H Dl = none := s1.free hDl
    have h0 : B.H0 Dl = none := e.stp.free hH
    have hn := o1.ne hDl
    have hc := o1.neC hDl
    obtain ⟨e2, o2⟩ := e1.poke (u := .lst []) o1 hW1 hP (.inl h0) hn hc
    have s2 : Stp C B.P noS W H W1 (upd H1 Dl (.lst [])) := s1.trans (Stp.own s1.wh hDl e1.pl.ne)
    refine ⟨fun i m H' => m = l.length - i ∧ i ≤ l.length ∧ ∃ W2 acc va, EnvOk C B W2 H' σ Γ ∧ Owns C B W2 H' σ Γ ow ∧ Same W1 W2 ∧ Stp C B.P noS W H W2 H' ∧ W2 Dl = none ∧ H' Dl = some (.lst va) ∧ RepL C B.P W2 va acc ∧ J i acc,
      ⟨l.length, rfl, Nat.zero_le _, W1, [], [], e2, o2, .refl _, s2, hW1, upd_same, .nil, j0⟩, ?_⟩
    rintro i m H2 ⟨rfl, hi, W2, acc, va, e3, o3, w12, st, d1, d2, d3, d4⟩
    by_cases hlt : i < l.length
    · obtain ⟨y1, y2⟩ := y.go i W2 H2 hlt w12 e3.wh e3.pl
      refine .inr ⟨y1, fun H' => ∃ W2 acc va, EnvOk C B W2 H' σ Γ ∧ Owns C B W2 H' σ Γ ow ∧ Same W1 W2 ∧ Stp C B.P noS W H W2 H' ∧ W2 Dl = none ∧ H' Dl = some (.lst va) ∧ RepL C B.P W2 va acc ∧ J (i + 1) acc, fun H' z => ⟨l.length - (i + 1), by omega, rfl, hlt, z⟩, fun x H3 hy => ?_⟩
      obtain ⟨W3, d, s3, hd', r3⟩ := y2 x H3 hy
      have e4 := (e3.step s3).wipe vs
      have o4 := (o3.step s3).wipe (e3.step s3).len vs
      refine hs W1 i d acc hd' d4 W3 H3 _ x ow (e4.keep W1 (w12.trans s3.ww)) ⟨o4.inj, o4.fr, o4.ok, o4.one, o4.nd, fun i cs p h1 h2 => let k := o4.cl i cs p h1 h2; ⟨k.w, k.np, k.h, k.at_⟩, o4.df⟩ r3 _ fun Γ5 σ5 e5 o5 w5 k5 => ⟨w5.trans (by rw [wipe_wipe]), ?_⟩
      refine k5 W3 H3 σ5 e5 _ fun b W6 H6 s6 k6 => ?_
      have s36 := s3.trans s6
      have hDl6 : H6 Dl = some (.lst va) := s36.hh _ _ d2 hP (fun z => nomatch z)
      have W6D : W6 Dl = none := (s36.old _ _ d2).trans d1
      cases b with
      | false => exact ⟨W6, acc, va, e3.step s36, o3.step s36, w12.trans s36.ww, st.trans s36, W6D, hDl6, d3.mono s36.ww, k6.2 rfl⟩
      | true =>
        refine k6.1 rfl W6 H6 σ5 (e5.step s6) _ fun yv v W7 H7 s7 r7 ⟨hz, k7⟩ => ?_
        have s37 := s36.trans s7
        have hDl7 : H7 Dl = some (.lst va) := s37.hh _ _ d2 hP (fun z => nomatch z)
        have W7D : W7 Dl = none := (s37.old _ _ d2).trans d1
        refine ⟨va, hDl7, by rw [d3.length]; exact hz, ?_⟩
        obtain ⟨e8, o8⟩ := (e3.step s37).poke (u := .lst (va ++ [v])) (o3.step s37) W7D hP (.inl h0) hn hc
        have st7 := st.trans s37
        refine ⟨W7, acc ++ [yv], va ++ [v], e8, o8, w12.trans s37.ww, ⟨st7.ww, e8.wh, fun a u q1 q2 q3 => ?_, fun a u q1 => ?_, st7.old, fun a q1 q2 => ?_⟩, W7D, upd_same, (d3.mono s37.ww).append (.one r7), k7⟩
        · rw [upd_ne (fun z => by subst z; rw [hH] at q1; cases q1)]
          exact st7.hh a u q1 q2 q3
        · rw [upd_ne (fun z => by subst z; rw [hH] at q1; cases q1)]
          exact st7.dom a u q1
        · rw [upd_ne (fun z => by subst z; exact hP q1)]
          exact st7.pool a q1 q2
    · have hh : i = l.length := by omega
      subst hh
      exact .inl ⟨y.stop H2 (w12.trans e3.wh) (fun a o z => (e3.pl.rg a o z).1), q acc Dl va W2 H2 st hH d1 d2 d3 (hd acc d4)⟩
theorem tk_yes {K : Bool → Prop} (k : K true) : TK C B Γ tYes K := fun W H σ e Q q => q true W H (.refl e.wh) k
end
end G
end

section
set_option maxRecDepth 100000
set_option maxHeartbeats 2000000
/-! list(reversed(a list)) -/
namespace GRv
open PySem PySem.Spec PyProof.Rows L2 RT
section
variable {prog : Program} {w : World} {A : Around} {E : Value → Shared → Prop} {s : Shared}
theorem init_rev {it l S : Addr} {items : Array Value} {R : Result → Shared → Prop} (hh : A.handled = none) (hit : s.heap.IsRevIter it l ((items.size : Int) - 1)) (hl : s.heap.IsList l items) (hne : l ≠ it) (hn : items.size ≤ sizeLine)
    (hSi : S ≠ it) (hSl : S ≠ l) (hS : s.heap.get? S = some { cls := .type "list", data := .seq #[] })
    (hR : ∀ (h' : Heap) (tk : Nat) (acc : Array Value) (c : Nat), (∀ b o, b ≠ it → b ≠ S → s.heap.get? b = some o → h'.get? b = some o) → h'.get? S = some { cls := .type "list", dict := none, data := .seq acc c, slots := #[] } →
      ItemsOf (fun i v => items[items.size - 1 - i]? = some v) acc items.size → R (.ok (.ret .none)) { s with heap := h', toks := tk }) :
    wpAny (model prog w) A.in1 (Builtin.«list.__init__» ⟨[.ref S, .ref it], []⟩)
      (fun fin s' => match fin with | .done f => R (.ok f) s' | .again c' => c'.quiet = true ∧ codeAny (model prog w) A c' R s') (fun e s' => R (.error e) s') s := by
  have W := (Walks.listRev (prog := prog) (w := w) (A := A.in1) hh it l hne items).toS
  have hSf : S ∉ [it, l] := by simp only [List.mem_cons, List.not_mem_nil, or_false, not_or]; exact ⟨hSi, hSl⟩
  show wpAny _ A.in1 (do let old ← Builtin.List.listItems (.ref S); Builtin.List.listUpdate (.ref S) (fun _ => #[]); letGo old.toList.reverse; Builtin.List.listExtendWith (.ref S) (.ref it) .none) _ _ s
  refine wpAny_bind ?_
  unfold Builtin.List.listItems
  refine wpAny_bind (wpAny_seqItems hS rfl (wpAny_pure ?_))
  show wpAny _ A.in1 (updateSeq S (fun _ => #[]) >>= fun _ => letGo (#[] : Array Value).toList.reverse >>= fun _ => Builtin.List.listExtendWith (.ref S) (.ref it) .none) _ _ s
  refine wpAny_bind (wpAny_updateSeq hS rfl ?_)
  have hS₂ := Heap.get?_update_self (Obj.mapSeq (fun _ => (#[] : Array Value))) hS rfl
  have oth : ∀ b o, b ≠ S → s.heap.get? b = some o → (s.heap.update S (Obj.mapSeq (fun _ => (#[] : Array Value)))).get? b = some o :=
    fun b o hb e => (Heap.get?_update_other _ _ (Ne.symm hb)).trans e
  refine wpAny_bind (wpAny_letGo ?_)
  generalize hh2 : s.heap.update S (Obj.mapSeq (fun _ => (#[] : Array Value))) = h2 at hS₂ oth
  have hit1 : h2.IsRevIter it l ((items.size : Int) - 1) := hit.at fun o e => oth it o (Ne.symm hSi) e
  have hl1 : h2.IsList l items := hl.at fun o e => oth l o (Ne.symm hSl) e
  have hT : ({ s with heap := h2 } : Shared).TypeIs (.ref it) "list_reverseiterator" := Heap.IsRevIter.typeIs (s := { s with heap := h2 }) hit1
  have h1 : Builtin.List.listSameRef (.ref S) (.ref it) = false := by simp [Builtin.List.listSameRef, hSi]
  show wpAny _ A.in1 (Builtin.List.listExtendWith (.ref S) (.ref it) .none) _ _ { s with heap := h2 }
  unfold Builtin.List.listExtendWith
  refine wpAny_bind (wpAny_typeOf hT ?_)
  rw [if_neg (by rw [h1]; decide)]
  refine wpAny_bind (wpAny_pyIter_revIter (s := { s with heap := h2 }) hit1 ?_)
  refine wpAny_bind (wpAny_holding ?_)
  unfold Builtin.List.listLengthHint
  refine wpAny_bind (wpAny_specialOf hT nolen_lri ?_)
  show wpAny _ A.in1 (specialOf (Value.ref it) (Str.ofString "__length_hint__") >>= _) _ _ _
  refine wpAny_bind (wpAny_specialOf hT hint_lri ?_)
  generalize hid : ("list_reverseiterator.__length_hint__" : String) = id0
  wp_delta
  rw [show splitId id0 = some ("list_reverseiterator", "__length_hint__") from by subst hid; decide +kernel]
  subst hid
  refine wpAny_bind (wpAny_isInstance (b := true) hT (by rw [isSubtype_type]; kernel_rfl) ?_)
  refine wpAny_pure ?_
  rw [if_neg (by decide)]
  have e0 : ((items.size : Nat) : Int) - 1 - ((0 : Nat) : Int) = (items.size : Int) - 1 := by omega
  refine wpAny_pure ⟨plainId_quiet F.plain_extend_loop _, codeAny_extend_loopS W hn _ hSf _ items.size 0 _ _ _ rfl (Nat.zero_le _) ⟨Nat.zero_le _, by rw [e0]; exact hit1, hl1⟩ hS₂ (ItemsOf.nil _) fun s' acc' c' hm hS' hacc => ?_⟩
  have q := hR s'.heap s'.toks acc' c' (fun b o hb hbS e => hm.heap b o (fun hmem => ?_) (oth b o hbS e)) hS' hacc
  · rw [Moved.eq_with hm]
    exact q
  · rcases List.mem_cons.mp hmem with e' | hmem
    · exact hbS e'
    · exact hb (List.mem_singleton.mp hmem)
theorem call_list_rev {it l : Addr} {items : Array Value} {Q : Value → Shared → Prop} (hh : A.handled = none) (hit : s.heap.IsRevIter it l ((items.size : Int) - 1)) (hl : s.heap.IsList l items) (hne : l ≠ it) (hn : items.size ≤ sizeLine)
    (hQ : ∀ (h' : Heap) (tk : Nat) (acc : Array Value) (c : Nat), (∀ b o, b ≠ it → s.heap.get? b = some o → h'.get? b = some o) → h'.get? s.heap.objs.size = some { cls := .type "list", dict := none, data := .seq acc c, slots := #[] } →
      ItemsOf (fun i v => items[items.size - 1 - i]? = some v) acc items.size → Q (.ref s.heap.objs.size) { s with heap := h', toks := tk }) :
    wpAny (model prog w) A (call (.type "list") [.ref it]) Q E s := by
  have hS : (s.heap.push { cls := .type "list", data := .seq #[] }).get? s.heap.objs.size = some { cls := .type "list", data := .seq #[] } := Heap.get?_push_size _ rfl
  obtain ⟨oi, hoi, _⟩ := id hit
  obtain ⟨ol, hol, _⟩ := id hl
  have hSi : s.heap.objs.size ≠ it := Nat.ne_of_gt (Heap.lt_size hoi)
  have hSl : s.heap.objs.size ≠ l := Nat.ne_of_gt (Heap.lt_size hol)
  refine callType_codes (Q₁ := fun obj s₁ => obj = .ref s.heap.objs.size ∧ s₁ = { s with heap := s.heap.push { cls := .type "list", data := .seq #[] } }) F.called_list (F.typeCall_list_1 _) F.entry_list_init
    (code_list_new _ ⟨rfl, rfl⟩) fun obj s₁ h₁ => ?_
  obtain ⟨rfl, rfl⟩ := h₁
  refine ⟨⟨_, hS, rfl⟩, F.args_list_init_2 _ _, init_rev (A := A.in1) (s := { s with heap := s.heap.push { cls := .type "list", data := .seq #[] } }) hh (hit.at fun o e => Heap.get?_push_of_some _ e) (hl.push _) hne hn hSi hSl hS fun h' tk acc c hk hS' hacc => ?_⟩
  exact ⟨rfl, hQ h' tk acc c (fun b o hb e => hk b o hb (Nat.ne_of_lt (Heap.lt_size e)) (Heap.get?_push_of_some _ e)) hS' hacc⟩
end
section
variable {X : Cx}
/-- list(reversed(x)), x a list -/
def tLstRev (K : PySem.W.Frag) (te : TE) : TE := fun σ H Q => te σ H fun v H1 => ∃ (a : Addr) (xs : List V), v = .ref a ∧ SqL K H1 a xs ∧ ∀ q, H1 q = none → Q (.ref q) (upd H1 q (.lst xs.reverse))
theorem pe_lstRev {e : Expr} {te : TE} {p p2 pos pos2 : Pos} (hc : X.calm = true) (hg : Gl X "list") (hm : X.mg "list" = none) (hg2 : Gl X "reversed") (hm2 : X.mg "reversed" = none) (he : PE X e te)
    (hs : starEach [e] X.env = (false, eval e X.env) :: starEach [] X.env := by rfl)
    (hs2 : starEach [.Call (.Name "reversed" p2) [e] [] pos2] X.env = (false, eval (.Call (.Name "reversed" p2) [e] [] pos2) X.env) :: starEach [] X.env := by rfl) :
    PE X (.Call (.Name "list" p) [.Call (.Name "reversed" p2) [e] [] pos2] [] pos) (tLstRev X.K te) := by
  refine ⟨fun pins s σ H Q I h => ?_⟩
  refine Call_ (ld_blt I hg hm boot_list (PyProof.Rows.callWith_type1 (args_cons (Call_ (ld_blt I hg2 hm2 PyProof.Rows.boot_reversed (PyProof.Rows.callWith_type1 (args_cons (thn (he.run pins s σ H _ I h) fun u s1 ⟨v, H1, I1, r1, q1⟩ => args_nil ?_) hs) hs rfl))) hs2) hs2 rfl))
  obtain ⟨a, xs, ev, hq, q⟩ := q1
  subst ev
  obtain rfl : u = Value.ref a := r1
  obtain ⟨its, rv, p', hz⟩ := I1.list hq
  refine call_reversed_list p'.isList (args_nil ?_)
  have k0 : ∀ b o, s1.heap.get? b = some o → (s1.heap.push (revObj a ((its.toArray.size : Int) - 1))).get? b = some o := fun b o e => Heap.get?_push_of_some _ e
  have I2 : Inv X pins σ H1 { s1 with heap := s1.heap.push (revObj a ((its.toArray.size : Int) - 1)) } := I1.kept (t' := s1.toks) k0
  obtain ⟨f0, f1, f2, f3, f4, f5⟩ := I1.fpOk (H' := H1) (b := s1.heap.objs.size) (Nat.le_refl _) (I1.hok.fresh (Nat.le_refl _))
  have hl := p'.isList
  obtain ⟨ol, hol, _⟩ := id hl
  have hne : a ≠ s1.heap.objs.size := Nat.ne_of_lt (Heap.lt_size hol)
  have hn : its.toArray.size ≤ sizeLine := by rw [List.size_toArray, ← rv.length]; exact hz
  refine call_list_rev (s := { s1 with heap := s1.heap.push (revObj a ((its.toArray.size : Int) - 1)) }) (I1.ok.hd hc) ⟨_, Heap.get?_push_size _ rfl, rfl, rfl⟩ (hl.push _) hne hn fun h' tk acc c hk hS hi => ?_
  have hsz : (s1.heap.push (revObj a ((its.toArray.size : Int) - 1))).objs.size = s1.heap.objs.size + 1 := Heap.size_push _ _
  have hv := vals_rev rv hi
  have hfr : H1 (s1.heap.push (revObj a ((its.toArray.size : Int) - 1))).objs.size = none := I2.hok.fresh (Nat.le_refl _)
  have new : ObjOk X.prog X.w (upd H1 (s1.heap.push (revObj a ((its.toArray.size : Int) - 1))).objs.size (.lst xs.reverse)) h' (s1.heap.push (revObj a ((its.toArray.size : Int) - 1))).objs.size (.lst xs.reverse) :=
    ⟨by rw [List.length_reverse]; exact hz, acc.toList, c, hv, by rw [Array.toArray_toList]; exact hS⟩
  exact ⟨.ref _, upd H1 _ (.lst xs.reverse), I2.turnedNew (t' := tk) (ch := [s1.heap.objs.size]) (fun b o hb e => hk b o (by simpa using hb) e) (fun b hb => by
    have e : b = s1.heap.objs.size := by simpa using hb
    subst e
    exact ⟨f0, f1, f2, f3, f4, f5⟩) (Nat.le_refl _) new, rfl, q _ hfr⟩
end
end GRv
end

section
set_option maxRecDepth 100000
set_option maxHeartbeats 2000000
/-! the data layer: operators, built-ins, defs -/
namespace G
open PySem PySem.Spec PyProof.Rows L2

section
variable {C : Cl} {B : Bs} {Γ : List Sl} {ta tb te : TE} {K : D → Prop} {KK : PySem.W.Frag}
/-- a built-in's call on one sequence -/
def LK (C : Cl) (B : Bs) (r : List V → Hp → VK → Prop) (k : Kd) (l : List D) (K : D → Prop) : Prop := ∀ W H a vs, Same W H → PlOk C B.P W H → H a = some (k.ho vs) → B.P ≠ some a → (k = .t → W a = some (.tup vs)) → RepL C B.P W vs l → ∀ Q : VK, (∀ d v W' H', Stp C B.P noS W H W' H' → Rep C B.P W' v d → K d → Q v H') → r [.ref a] H Q
theorem ek_cbL {r : List V → Hp → VK → Prop} (h : EL C B Γ ta fun k l => LK C B r k l K) : EK C B Γ (tCB r (tCons ta tNil)) K := fun W H σ e Q q =>
  h W H σ e _ fun k l a vs W1 H1 s1 ha hP hT r1 h1 => h1 W1 H1 a vs s1.wh (e.pl.step s1) ha hP hT r1 Q fun d v W3 H3 s3 r3 kk => q d v W3 H3 (s1.trans s3) r3 kk
/-- len -/
def rLenU (K : PySem.W.Frag) : List V → Hp → VK → Prop := fun xs H Q => ∃ x n, xs = [x] ∧ LenV K x H n ∧ Q (.int n) H
theorem cr_lenU {X : Cx} : CallR X (.builtin "len") (rLenU X.K) := call_len
theorem lk_len {k : Kd} {l : List D} (h : K (.int (l.length : Nat))) : LK C B (rLenU KK) k l K := fun W H a vs hw pl ha hP hT r Q q => by
  refine ⟨_, vs.length, rfl, ?_, q _ _ W H (.refl hw) (.int _) (by rw [r.length]; exact h)⟩
  cases k with
  | l => exact .inl ⟨vs, SqL.of ha, rfl⟩
  | t => exact .inr ⟨vs, SqT.of ha, rfl⟩
  | m => exact .inl ⟨vs, SqL.of ha, rfl⟩
theorem ek_len (h : EL C B Γ ta fun _ l => K (.int (l.length : Nat))) : EK C B Γ (tCB (rLenU KK) (tCons ta tNil)) K :=
  ek_cbL fun W H σ e Q q => h W H σ e Q fun k l a vs W' H' s ha hP hT r kk => q k l a vs W' H' s ha hP hT r (lk_len kk)
/-- list(x), tuple(x) -/
def rListU (K : PySem.W.Frag) : List V → Hp → VK → Prop := fun xs H Q => ∃ p ys, xs = [.ref p] ∧ (SqL K H p ys ∨ SqT K H p ys) ∧ ∀ l, H l = none → Q (.ref l) (upd H l (.lst ys))
def rTupU (K : PySem.W.Frag) : List V → Hp → VK → Prop := fun xs H Q => ∃ p ys, xs = [.ref p] ∧ ((SqL K H p ys ∧ ∀ l, H l = none → Q (.ref l) (upd H l (.tup ys))) ∨ (SqT K H p ys ∧ Q (.ref p) H))
theorem cr_listU {X : Cx} : CallR X (.type "list") (rListU X.K) := call_list_of
theorem cr_tupU {X : Cx} : CallR X (.type "tuple") (rTupU X.K) := call_tuple_of
theorem ef_list {K : List D → Prop} (h : EL C B Γ ta fun _ l => K l) : EF C B Γ (tCB (rListU KK) (tCons ta tNil)) K := fun W H σ e Q q =>
  h W H σ e _ fun k l a vs W1 H1 s1 ha hP hT r1 h1 => by
    refine ⟨a, vs, rfl, ?_, fun p hp => ?_⟩
    · cases k with
      | l => exact .inl (SqL.of ha)
      | t => exact .inr (SqT.of ha)
      | m => exact .inl (SqL.of ha)
    · have s2 := Stp.own (C := C) (P := B.P) (S := noS) (o := .lst vs) s1.wh hp (e.pl.step s1).ne
      have hW : W1 p = none := by
        cases z : W1 p with
        | none => rfl
        | some o => rw [s1.wh _ _ z] at hp; cases hp
      exact q l p vs _ _ (s1.trans s2) (s1.free hp) hW upd_same r1 h1
theorem ek_tuple (h : EL C B Γ ta fun _ l => K (.tup l)) : EK C B Γ (tCB (rTupU KK) (tCons ta tNil)) K := fun W H σ e Q q =>
  h W H σ e _ fun k l a vs W1 H1 s1 ha hP hT r1 h1 => by
    cases k with
    | l =>
      refine ⟨a, vs, rfl, .inl ⟨SqL.of ha, fun p hp => ?_⟩⟩
      have s2 := Stp.new (C := C) (P := B.P) (S := noS) (o := .tup vs) s1.wh hp (e.pl.step s1).ne
      exact q _ _ _ _ (s1.trans s2) (.tup upd_same (r1.mono s2.ww)) h1
    | t => exact ⟨a, vs, rfl, .inr ⟨SqT.of ha, q _ _ W1 H1 s1 (.tup (hT rfl) r1) h1⟩⟩
    | m =>
      refine ⟨a, vs, rfl, .inl ⟨SqL.of ha, fun p hp => ?_⟩⟩
      have s2 := Stp.new (C := C) (P := B.P) (S := noS) (o := .tup vs) s1.wh hp (e.pl.step s1).ne
      exact q _ _ _ _ (s1.trans s2) (.tup upd_same (r1.mono s2.ww)) h1
/-- list(reversed(x)) -/
theorem ef_lstRev {K : List D → Prop} (h : EL C B Γ ta fun k l => k = .l ∧ K l.reverse) : EF C B Γ (GRv.tLstRev KK ta) K := fun W H σ e Q q =>
  h W H σ e _ fun k l a vs W1 H1 s1 ha hP hT r1 ⟨hk, h1⟩ => by
    subst hk
    refine ⟨a, vs, rfl, SqL.of ha, fun p hp => ?_⟩
    have s2 := Stp.own (C := C) (P := B.P) (S := noS) (o := .lst vs.reverse) s1.wh hp (e.pl.step s1).ne
    have hW : W1 p = none := by
      cases z : W1 p with
      | none => rfl
      | some o => rw [s1.wh _ _ z] at hp; cases hp
    exact q l.reverse p vs.reverse _ _ (s1.trans s2) (s1.free hp) hW upd_same r1.reverse h1
/-- sum, all, any -/
theorem ek_sum (h : EL C B Γ ta fun k l => k = .l ∧ ∃ ns : List Int, l = ns.map D.int ∧ K (.int ns.sum)) : EK C B Γ (tCB (rSum KK) (tCons ta tNil)) K := fun W H σ e Q q =>
  h W H σ e _ fun k l a vs W1 H1 s1 ha hP hT r1 ⟨hk, ns, hl, h1⟩ => by
    subst hk; subst hl
    have e0 := r1.ints
    subst e0
    exact ⟨a, ns, rfl, SqL.of ha, q _ _ W1 H1 s1 (.int _) h1⟩
theorem ek_all (h : EL C B Γ ta fun k l => k = .l ∧ ∃ bs : List Bool, l = bs.map D.bl ∧ K (.bl (bs.all id))) : EK C B Γ (tCB (rAll KK) (tCons ta tNil)) K := fun W H σ e Q q =>
  h W H σ e _ fun k l a vs W1 H1 s1 ha hP hT r1 ⟨hk, ns, hl, h1⟩ => by
    subst hk; subst hl
    have e0 := r1.bls
    subst e0
    exact ⟨a, ns, rfl, SqL.of ha, q _ _ W1 H1 s1 (.bl _) h1⟩
theorem ek_any (h : EL C B Γ ta fun k l => k = .l ∧ ∃ bs : List Bool, l = bs.map D.bl ∧ K (.bl (bs.any id))) : EK C B Γ (tCB (rAny KK) (tCons ta tNil)) K := fun W H σ e Q q =>
  h W H σ e _ fun k l a vs W1 H1 s1 ha hP hT r1 ⟨hk, ns, hl, h1⟩ => by
    subst hk; subst hl
    have e0 := r1.bls
    subst e0
    exact ⟨a, ns, rfl, SqL.of ha, q _ _ W1 H1 s1 (.bl _) h1⟩
/-- gcd, abs, int -/
theorem ck_gcd {a b : Int} (k : K (.int ((Nat.gcd a.natAbs b.natAbs : Nat) : Int))) : CK C B rGcd [.int a, .int b] K := fun W H hw pl vs r Q q => by
  cases r with
  | cons r1 r2 =>
    cases r1
    cases r2 with
    | cons r1 r2 =>
      cases r1; cases r2
      exact ⟨a, b, rfl, q _ _ W H (.refl hw) (.int _) k⟩
def rAbs : List V → Hp → VK → Prop := fun xs H Q => ∃ i, xs = [.int i] ∧ Q (.int (if i < 0 then -i else i)) H
theorem cr_abs {X : Cx} : CallR X (.builtin "abs") rAbs := call_abs
theorem ck_abs {a : Int} (k : K (.int (if a < 0 then -a else a))) : CK C B rAbs [.int a] K := fun W H hw pl vs r Q q => by
  cases r with
  | cons r1 r2 =>
    cases r1; cases r2
    exact ⟨a, rfl, q _ _ W H (.refl hw) (.int _) k⟩
def rInt1 : List V → Hp → VK → Prop := fun xs H Q => (∃ i, xs = [.int i] ∧ Q (.int i) H) ∨ ∃ k, xs = [.bl k] ∧ Q (.int (if k then 1 else 0)) H
theorem cr_int1 {X : Cx} : CallR X (.type "int") rInt1 := call_int1
theorem ck_int {a : Int} (k : K (.int a)) : CK C B rInt1 [.int a] K := fun W H hw pl vs r Q q => by
  cases r with
  | cons r1 r2 =>
    cases r1; cases r2
    exact .inl ⟨a, rfl, q _ _ W H (.refl hw) (.int _) k⟩
/-- isinstance -/
structure InsF (KK : PySem.W.Frag) (A : Addr) : Prop where
  cl : Cls KK A
  ha : PySem.W.findIn KK (.ref A) "__class__" = some (some (.builtin "object.__class__"))
  hn : PySem.W.specialIn KK (.builtin "object.__class__") "__get__" = some (some (.builtin "getset_descriptor.__get__"))
  htk : PySem.W.takesIn KK (.builtin "object.__class__") = some true
  hm : PySem.W.mroIn KK A (.type "object") = some true
inductive TyD (C : Cl) (KK : PySem.W.Frag) : D → Value → Prop where
  | non : TyD C KK .non (.type "NoneType")
  | bl (b : Bool) : TyD C KK (.bl b) (.type "bool")
  | int (i : Int) : TyD C KK (.int i) (.type "int")
  | str (s : Str) : TyD C KK (.str s) (.type "str")
  | lst (l : List D) : TyD C KK (.lst l) (.type "list")
  | tup (l : List D) : TyD C KK (.tup l) (.type "tuple")
  | mls (l : List D) : TyD C KK (.mls l) (.type "list")
  | dic (l : List (Key × D)) : TyD C KK (.dic l) (.type "dict")
  | frac (q : Rat) (h : InsF KK C.frac) : TyD C KK (.frac q) (.ref C.frac)
  | obj (c : Nat) (l : List (Str × D)) (h : InsF KK (C.cls c)) : TyD C KK (.obj c l) (.ref (C.cls c))
theorem TyD.tyx {P : Option Addr} {W H : Hp} {v : V} {d : D} {t : Value} (h : TyD C KK d t) (hw : Same W H) (hm : Same C.m H) (r : Rep C P W v d) : TyX KK H v t := by
  cases h with
  | non => cases r; exact .base .non
  | bl b => cases r; exact .base (.bl b)
  | int b => cases r; exact .base (.int b)
  | str b => cases r; exact .base (.str b)
  | lst l => cases r with | lst ha _ => exact .base (.lst (hw _ _ ha))
  | tup l => cases r with | tup ha _ => exact .base (.tup (hw _ _ ha))
  | mls l => cases r with | mls ha _ => exact .base (.lst (hm _ _ ha))
  | dic l => cases r with | dic ha _ _ => exact .base (.dK (hw _ _ ha))
  | frac q h => cases r with | frac ha => exact .base (.ins (hw _ _ ha) h.cl h.ha h.hn h.htk h.hm)
  | obj c l h => cases r with | obj ha _ _ => exact .base (.ins (hw _ _ ha) h.cl h.ha h.hn h.htk h.hm)
inductive ClsD : D → Value → Prop where
  | ty (n : String) : ClsD (.ty n) (.type n)
  | cls (a : Addr) : ClsD (.cls a) (.ref a)
theorem ClsD.v {P : Option Addr} {W : Hp} {v : V} {d : D} {u : Value} (h : ClsD d u) (r : Rep C P W v d) : ClsV v u := by
  cases h with
  | ty n => cases r; exact .ty n
  | cls a => cases r; exact .own a
theorem ClsD.vs {P : Option Addr} {W : Hp} : ∀ {vs : List V} {l : List D} {us : List Value}, Paired ClsD l us → RepL C P W vs l → Paired ClsV vs us
  | _, _, _, .nil, .nil => .nil
  | _, _, _, .cons h t, .cons r s => .cons (h.v r) (ClsD.vs t s)
def rIsU (K : PySem.W.Frag) : List V → Hp → VK → Prop := fun xs H Q => rIsi K xs H Q ∨ rIsiT K xs H Q
theorem cr_isU {X : Cx} : CallR X (.builtin "isinstance") (rIsU X.K) := CallR.or call_isi call_isiT
theorem ck_is {d c : D} {t u : Value} {b : Bool} (ht : TyD C KK d t) (hc : ClsD c u) (hk : PySem.W.kitOne KK t u = some b) (k : K (.bl b)) : CK C B (rIsU KK) [d, c] K := fun W H hw pl vs r Q q => by
  cases r with
  | cons r1 r2 =>
    cases r2 with
    | cons r2 r3 =>
      cases r3
      exact .inl ⟨_, _, t, u, b, rfl, hc.v r2, ht.tyx hw (fun a o z => (pl.rg a o z).1) r1, hk, q _ _ W H (.refl hw) (.bl _) k⟩
theorem ck_isT {d : D} {cs : List D} {t : Value} {us : List Value} {b : Bool} (ht : TyD C KK d t) (hc : Paired ClsD cs us) (hk : PySem.W.kitAny KK t us = some b) (k : K (.bl b)) : CK C B (rIsU KK) [d, .tup cs] K := fun W H hw pl vs r Q q => by
  cases r with
  | cons r1 r2 =>
    cases r2 with
    | cons r2 r3 =>
      cases r3
      cases r2 with
      | tup ha rl => exact .inr ⟨_, _, _, t, us, b, rfl, hw _ _ ha, ClsD.vs hc rl, ht.tyx hw (fun a o z => (pl.rg a o z).1) r1, hk, q _ _ W H (.refl hw) (.bl _) k⟩
/-- a built-in class, an own class as a value -/
theorem ek_ty {n : String} (k : K (.ty n)) : EK C B Γ (tC (.ty n)) K := fun W H σ e Q q => q _ _ W H (.refl e.wh) (.ty n) k
theorem ek_cls {a : Addr} (k : K (.cls a)) : EK C B Γ (tC (.ref a)) K := fun W H σ e Q q => q _ _ W H (.refl e.wh) (.cls a) k
end

/-! ### an operator of an own class, both sides of it -/
def rOwn (C : Addr) (sp : Sp) : R2 := fun x y H Q => ∃ a b dx dy fs gs, x = .ref a ∧ y = .ref b ∧ H a = some (.ins C dx fs) ∧ H b = some (.ins C dy gs) ∧ sp [x, y] H Q E0
theorem op_own {X : Cx} {CX : CXT} {n : Nat} {A f : Addr} {fd : FuncData} {ps : List Str} {sp : Sp} {op : Operator} (F : FnOk X.prog X.w X.K X.mg X.base CX n f fd ps sp)
    (hs : PySem.W.findIn X.K (.ref A) (PySem.dunder op.info.2) = some (some (.ref f))) (hf : PySem.W.isFn X.K (.ref f) = true) (hc : PySem.W.selfFirst X.K A = true) (hb : Binds X.K fd ps []) (hx : Passes CX X E0) (hr : Room n X.A) :
    OpR X (binaryOp op) (rOwn A sp) := by
  intro pins s σ H x y v u Q I rx ry h
  obtain ⟨a, b, dx, dy, fs, gs, rfl, rfl, ha, hb', hsp⟩ := h
  cases rx
  cases ry
  obtain ⟨mA, J, _⟩ := ins_get I.hok ha
  obtain ⟨mB, J', _⟩ := ins_get I.hok hb'
  obtain ⟨od, J, _⟩ := J.look
  obtain ⟨od', J', _⟩ := J'.look
  obtain ⟨m, hF⟩ := I.fr
  refine PySem.W.binop_K (op := op) hF I.ok.mod.kin J J'.type hc hs hf ?_
  have r2 : Vals [V.ref a, V.ref b] [Value.ref a, Value.ref b] := .cons rfl (.cons rfl .nil)
  refine thn (run_fn (us := [.ref a, .ref b]) (vs := [.ref a, .ref b]) F hr hb .nil hx I r2 hsp) fun z s' hz => ?_
  obtain ⟨v, H', I', rv, q⟩ := hz
  have e : EP X pins σ Q z s' := ⟨v, H', I', rv, q⟩
  cases v with
  | non => cases rv; exact e
  | bl b => cases rv; exact e
  | int i => obtain ⟨t, rfl⟩ := rv; exact e
  | str i => obtain ⟨t, rfl⟩ := rv; exact e
  | byt i => obtain ⟨t, rfl⟩ := rv; exact e
  | flt i => obtain ⟨t, rfl⟩ := rv; exact e
  | ref a => cases rv; exact e
  | ty n => cases rv; exact e
section
variable {C : Cl} {B : Bs} {Γ : List Sl} {ta tb te : TE} {K : D → Prop} {KK : PySem.W.Frag}
theorem rk_own {S : List D → (D → Prop) → Prop} {p q : Rat} (h : S [.frac p, .frac q] K) : RK C B (rOwn C.frac (SpOf C S)) (.frac p) (.frac q) K := fun W H hw pl v1 v2 r1 r2 Q k => by
  obtain ⟨a, dx, e1, ha⟩ := rep_frac r1
  obtain ⟨b, dy, e2, hb⟩ := rep_frac r2
  exact ⟨a, b, dx, dy, _, _, e1, e2, hw _ _ ha, hw _ _ hb, B.P, W, _, K, hw, pl, .cons r1 (.one r2), h, fun d v W' H' kd s r => k d v W' H' s r kd⟩
/-! ### all forms of an operator -/
def rAddI : R2 := rI0 fun i j => .int (i + j)
def rSubI : R2 := rI0 fun i j => .int (i - j)
def rMulI : R2 := rI CMulW fun i j => .int (i * j)
/-- int, then own -/
def rU (r r' : R2) : R2 := fun x y H Q => r x y H Q ∨ r' x y H Q
theorem op_U {X : Cx} {f : Value → Value → Sem Value} {r r' : R2} (h : OpR X f r) (h' : OpR X f r') : OpR X f (rU r r') := OpR.or h h'
theorem rk_U1 {r r' : R2} {d1 d2 : D} (h : RK C B r d1 d2 K) : RK C B (rU r r') d1 d2 K := RK.or1 h
theorem rk_U2 {r r' : R2} {d1 d2 : D} (h : RK C B r' d1 d2 K) : RK C B (rU r r') d1 d2 K := RK.or2 h
theorem op_addI {X : Cx} : OpR X (binaryOp .Add) rAddI := op_add
theorem op_subI {X : Cx} : OpR X (binaryOp .Sub) rSubI := op_sub
theorem op_mulI {X : Cx} : OpR X (binaryOp .Mult) rMulI := op_mulW
theorem rk_add {i j : Int} (k : K (.int (i + j))) : RK C B rAddI (.int i) (.int j) K := rk_I0 (d := .int (i + j)) (fun _ => .int _) k
theorem rk_sub {i j : Int} (k : K (.int (i - j))) : RK C B rSubI (.int i) (.int j) K := rk_I0 (d := .int (i - j)) (fun _ => .int _) k
theorem rk_mul {i j : Int} (h : CMulW i j) (k : K (.int (i * j))) : RK C B rMulI (.int i) (.int j) K := rk_I (d := .int (i * j)) (fun _ => .int _) h k
def rDivI : R2 := rI CDivW fun i j => .int (i / j)
theorem op_divI {X : Cx} : OpR X (binaryOp .FloorDiv) rDivI := op_fdivW
theorem rk_div {i j : Int} (h : CDivW i j) (k : K (.int (i / j))) : RK C B rDivI (.int i) (.int j) K := rk_I (d := .int (i / j)) (fun _ => .int _) h k
def rModI : R2 := rI (fun _ j => 0 < j) fun i j => .int (i % j)
theorem op_modI {X : Cx} : OpR X (binaryOp .Mod) rModI := op_mod
theorem rk_mod {i j : Int} (h : 0 < j) (k : K (.int (i % j))) : RK C B rModI (.int i) (.int j) K := rk_I (d := .int (i % j)) (fun _ => .int _) h k
def rLtI : R2 := rI0 fun i j => .bl (decide (i < j))
def rLeI : R2 := rI0 fun i j => .bl (decide (i ≤ j))
def rGtI : R2 := rI0 fun i j => .bl (decide (j < i))
def rGeI : R2 := rI0 fun i j => .bl (decide (j ≤ i))
theorem op_ltI {X : Cx} : OpR X (compareOp .Lt) rLtI := op_lt
theorem op_leI {X : Cx} : OpR X (compareOp .LtE) rLeI := op_le
theorem op_gtI {X : Cx} : OpR X (compareOp .Gt) rGtI := op_gt
theorem op_geI {X : Cx} : OpR X (compareOp .GtE) rGeI := op_ge
theorem rk_lt {i j : Int} (k : K (.bl (decide (i < j)))) : RK C B rLtI (.int i) (.int j) K := rk_I0 (d := .bl (decide (i < j))) (fun _ => .bl _) k
theorem rk_le {i j : Int} (k : K (.bl (decide (i ≤ j)))) : RK C B rLeI (.int i) (.int j) K := rk_I0 (d := .bl (decide (i ≤ j))) (fun _ => .bl _) k
theorem rk_gt {i j : Int} (k : K (.bl (decide (j < i)))) : RK C B rGtI (.int i) (.int j) K := rk_I0 (d := .bl (decide (j < i))) (fun _ => .bl _) k
theorem rk_ge {i j : Int} (k : K (.bl (decide (j ≤ i)))) : RK C B rGeI (.int i) (.int j) K := rk_I0 (d := .bl (decide (j ≤ i))) (fun _ => .bl _) k
theorem rk_eqI {i j : Int} (k : K (.bl (decide (i = j)))) : RK C B rEq (.int i) (.int j) K := rk_eq (v1 := .int i) (v2 := .int j) rfl rfl rfl (by
  rw [show decide (V.int i = V.int j) = decide (i = j) from decide_eq_decide.mpr ⟨fun h => by injection h, fun h => by rw [h]⟩]
  exact k)
theorem rk_neI {i j : Int} (k : K (.bl (!decide (i = j)))) : RK C B rNe (.int i) (.int j) K := rk_ne (v1 := .int i) (v2 := .int j) rfl rfl rfl (by
  rw [show decide (V.int i = V.int j) = decide (i = j) from decide_eq_decide.mpr ⟨fun h => by injection h, fun h => by rw [h]⟩]
  exact k)
def rIsN : R2 := fun x y H Q => y = .non ∧ Q (.bl (decide (x = .non))) H
def rNotN : R2 := fun x y H Q => y = .non ∧ Q (.bl (!decide (x = .non))) H
theorem op_isNon {X : Cx} : OpR X (compareOp .Is) rIsN := op_isN
theorem op_notNon {X : Cx} : OpR X (compareOp .IsNot) rNotN := op_notN
def D.isN : D → Bool
  | .non => true
  | _ => false
theorem rep_isN {P : Option Addr} {W : Hp} {v : V} {d : D} (r : Rep C P W v d) : decide (v = .non) = d.isN := by
  cases r <;> rfl
theorem rk_isN {d : D} (k : K (.bl d.isN)) : RK C B rIsN d .non K := fun W H hw pl v1 v2 r1 r2 Q q => by
  cases r2
  exact ⟨rfl, q _ _ W H (.refl hw) (.bl _) (by rw [rep_isN r1]; exact k)⟩
theorem rk_notN {d : D} (k : K (.bl (!d.isN))) : RK C B rNotN d .non K := fun W H hw pl v1 v2 r1 r2 Q q => by
  cases r2
  exact ⟨rfl, q _ _ W H (.refl hw) (.bl _) (by rw [rep_isN r1]; exact k)⟩
/-- chains -/
theorem ek_chain {r r' : R2} {tc : TE} (h : EK C B Γ ta fun d1 => EK C B Γ tb fun d2 => RK C B r d1 d2 fun z => ∃ b, z = .bl b ∧ (b = true → EK C B Γ tc fun d3 => RK C B r' d2 d3 K) ∧ (b = false → K (.bl false))) : EK C B Γ (tChain r r' ta tb tc) K := fun W H σ e Q q =>
  h W H σ e _ fun d1 v1 W1 H1 s1 r1 h1 => h1 W1 H1 σ (e.step s1) _ fun d2 v2 W2 H2 s2 r2 h2 =>
    h2 W2 H2 s2.wh ((e.pl.step s1).step s2) v1 v2 (r1.mono s2.ww) r2 _ fun z zv W3 H3 s3 r3 ⟨b, ez, k1, k2⟩ => by
      subst ez; cases r3
      refine ⟨b, rfl, ?_⟩
      have s123 := (s1.trans s2).trans s3
      cases b with
      | false => exact q _ _ W3 H3 s123 (.bl false) (k2 rfl)
      | true =>
        show tc σ H3 _
        exact k1 rfl W3 H3 σ (e.step s123) _ fun d3 v3 W4 H4 s4 r4 h4 => h4 W4 H4 s4.wh ((e.pl.step s123).step s4) v2 v3 (r2.mono (s3.trans s4).ww) r4 Q fun d v W5 H5 s5 r5 k => q d v W5 H5 ((s123.trans s4).trans s5) r5 k
/-- + and * of lists -/
theorem ef_cat {K : List D → Prop} (h : EL C B Γ ta fun k l => k = .l ∧ EL C B Γ tb fun k' m => k' = .l ∧ l.length + m.length ≤ sizeLine ∧ K (l ++ m)) : EF C B Γ (tOp rCat ta tb) K := fun W H σ e Q q =>
  h W H σ e _ fun k l a vs W1 H1 s1 ha hP hT r1 ⟨hk, h1⟩ => h1 W1 H1 σ (e.step s1) _ fun k' m b ws W2 H2 s2 hb hP2 hT2 r2 ⟨hk', hz, h2⟩ => by
    subst hk; subst hk'
    have ha2 := s2.hh _ _ ha hP (fun z => nomatch z)
    refine ⟨a, b, vs, ws, rfl, rfl, ha2, hb, by rw [r1.length, r2.length]; exact hz, fun p hp => ?_⟩
    have s12 := s1.trans s2
    have s3 := Stp.own (C := C) (P := B.P) (S := noS) (o := .lst (vs ++ ws)) s12.wh hp (e.pl.step s12).ne
    have hW : W2 p = none := by
      cases z : W2 p with
      | none => rfl
      | some o => rw [s12.wh _ _ z] at hp; cases hp
    exact q (l ++ m) p (vs ++ ws) _ _ (s12.trans s3) (s12.free hp) hW upd_same ((r1.mono s2.ww).append r2) h2
theorem ef_rep {K : List D → Prop} (h : EL C B Γ ta fun k l => k = .l ∧ EK C B Γ tb fun d => ∃ n : Int, d = .int n ∧ -(2 ^ 63) ≤ n ∧ n < 2 ^ 63 ∧ l.length * n.toNat ≤ sizeLine ∧ K (List.replicate n.toNat l).flatten) : EF C B Γ (tOp rRep ta tb) K := fun W H σ e Q q =>
  h W H σ e _ fun k l a vs W1 H1 s1 ha hP hT r1 ⟨hk, h1⟩ => h1 W1 H1 σ (e.step s1) _ fun d v2 W2 H2 s2 r2 ⟨n, e2, hz1, hz2, hz3, h2⟩ => by
    subst hk; subst e2
    cases r2
    have ha2 := s2.hh _ _ ha hP (fun z => nomatch z)
    refine ⟨a, n, vs, rfl, rfl, ha2, hz1, hz2, by rw [r1.length]; exact hz3, fun p hp => ?_⟩
    have s12 := s1.trans s2
    have s3 := Stp.own (C := C) (P := B.P) (S := noS) (o := .lst (List.replicate n.toNat vs).flatten) s12.wh hp (e.pl.step s12).ne
    have hW : W2 p = none := by
      cases z : W2 p with
      | none => rfl
      | some o => rw [s12.wh _ _ z] at hp; cases hp
    exact q _ p _ _ _ (s12.trans s3) (s12.free hp) hW upd_same ((r1.mono s2.ww).rep n.toNat) h2
/-- slices -/
def OK (C : Cl) (B : Bs) (Γ : List Sl) (to : TO) (K : Option Int → Prop) : Prop := ∀ W H σ, EnvOk C B W H σ Γ → ∀ Q : Option Int → Hp → Prop, (∀ o W' H', Stp C B.P noS W H W' H' → K o → Q o H') → to σ H Q
theorem ok_none {K : Option Int → Prop} (k : K none) : OK C B Γ tNoPart K := fun W H σ e Q q => q none W H (.refl e.wh) k
theorem ok_some {K : Option Int → Prop} (h : EK C B Γ te fun d => ∃ i, d = .int i ∧ K (some i)) : OK C B Γ (tPart te) K := fun W H σ e Q q =>
  h W H σ e _ fun d v W1 H1 s1 r1 ⟨i, e0, k⟩ => by
    subst e0; cases r1
    exact ⟨i, rfl, q _ W1 H1 s1 k⟩
def cutD (l : List D) (lo hi : Option Int) : List D := (l.drop (HT.sIx l.length 0 lo)).take (HT.sIx l.length l.length hi - HT.sIx l.length 0 lo)
theorem ef_slice {K : List D → Prop} {tl th : TO} (h : EL C B Γ ta fun k l => k = .l ∧ OK C B Γ tl fun lo => OK C B Γ th fun hi => K (cutD l lo hi)) : EF C B Γ (tSl (rSlL KK) ta tl th) K := fun W H σ e Q q =>
  h W H σ e _ fun k l a vs W1 H1 s1 ha hP hT r1 ⟨hk, h1⟩ => h1 W1 H1 σ (e.step s1) _ fun lo W2 H2 s2 h2 => h2 W2 H2 σ ((e.step s1).step s2) _ fun hi W3 H3 s3 h3 => by
    subst hk
    have s23 := s2.trans s3
    have ha2 := s23.hh _ _ ha hP (fun z => nomatch z)
    have s13 := s1.trans s23
    refine ⟨a, vs, rfl, SqL.of ha2, fun p hp => ?_⟩
    have s4 := Stp.own (C := C) (P := B.P) (S := noS) (o := .lst (cutV vs lo hi)) s13.wh hp (e.pl.step s13).ne
    have hW : W3 p = none := by
      cases z : W3 p with
      | none => rfl
      | some o => rw [s13.wh _ _ z] at hp; cases hp
    exact q _ p _ _ _ (s13.trans s4) (s13.free hp) hW upd_same ((r1.mono s23.ww).cut lo hi) h3
end

/-! ### a def -/
def G0 (N : List Str) (l : List D) : List Sl := l.map Sl.d ++ List.replicate (N.length - l.length) .no
theorem G0_no {N : List Str} {l : List D} : ∀ (i : Nat) (s : Sl), (G0 N l)[i]? = some s → s.isO = false ∧ s.isR = false := fun i s h => by
  unfold G0 at h
  have m := List.mem_of_getElem? h
  rcases List.mem_append.mp m with m | m
  · obtain ⟨d, _, e⟩ := List.mem_map.mp m
    subst e; exact ⟨rfl, rfl⟩
  · rw [List.eq_of_mem_replicate m]; exact ⟨rfl, rfl⟩
theorem env_start {C : Cl} {P : Option Addr} {W H : Hp} {N : List Str} {vs : List V} {l : List D} (hw : Same W H) (pl : PlOk C P W H) (r : RepL C P W vs l) : EnvOk C ⟨P, noS, W, H, W⟩ W H (L2.start N vs) (G0 N l) where
  stp := .refl hw
  kp := .refl W
  pl := pl
  p0 := fun a o z => ⟨(pl.rg a o z).1, fun z => z⟩
  len := by
    have hl : (L2.start N vs).length = (G0 N l).length := by simp [L2.start, G0, r.length]
    refine ⟨Nat.le_of_eq hl, fun i s h => ⟨fun z => ?_, fun z => ?_⟩⟩
    · have := (List.getElem?_eq_some_iff.mp h).1; omega
    · rw [(G0_no i s h).2] at z; cases z
  ow := by
    refine ⟨fun _ => 0, fun i j s t h1 h2 h3 => ?_, fun i s h1 h2 => ?_, fun i s h => ?_, fun i j cs ds h1 => ?_, fun i cs h1 => ?_, fun i cs p h1 => ?_, fun i cs p j s h1 => ?_⟩
    · rw [(G0_no i s h1).1] at h3; cases h3
    · rw [(G0_no i s h1).1] at h2; cases h2
    · unfold G0 at h
      by_cases hi : i < l.length
      · rw [List.getElem?_append_left (by simpa using hi), List.getElem?_map] at h
        cases hd : l[i]? with
        | none => rw [hd] at h; cases h
        | some d =>
          rw [hd] at h; cases h
          obtain ⟨v, h1, h2⟩ := r.get hd
          refine ⟨v, ?_, h2⟩
          unfold L2.start
          have hiv : i < vs.length := by rw [r.length]; exact hi
          rw [List.getD_eq_getElem?_getD, List.getElem?_append_left (by simpa using hiv), List.getElem?_map, h1]
          rfl
      · rw [List.getElem?_append_right (by simpa using hi)] at h
        have m := List.mem_of_getElem? h
        rw [List.eq_of_mem_replicate m]
        trivial
    all_goals have z := (G0_no _ _ h1).2; cases z
theorem sp_body {C : Cl} {S : List D → (D → Prop) → Prop} {t : TS} {N : List Str} (h : ∀ B l K, S l K → SK C B (G0 N l) t { nx := fun _ => K .non, rt := fun _ => K }) (vs : List V) (H : Hp) (Q : VK) (E : XK) (q : SpOf C S vs H Q E) :
    t { nx := fun _ H' => Q .non H', rt := Q } (L2.start N vs) H := by
  obtain ⟨P, W, l, K, hw, pl, r, hS, k⟩ := q
  exact h ⟨P, noS, W, H, W⟩ l K hS W H _ (env_start hw pl r) _ ⟨fun Γ W' H' σ' e z => k .non .non W' H' z e.stp .non, fun Γ d v W' H' σ' e r' z => k d v W' H' z e.stp r', fun _ _ _ _ _ z => z.elim, fun _ _ _ _ _ z => z.elim⟩
/-- the promise of a def by its body -/
theorem fn_ok {P : Program} {w : World} {K : PySem.W.Frag} {mg : Str → Option Value} {base : Heap} {x qual : Str} {params : Arguments} {body : List Stmt} {scope : Scope} {dvs : List V} {kws : List (Str × V)} {f : Addr} {fd : FuncData} {N ps : List Str} {k : Nat}
    {C : Cl} {S : List D → (D → Prop) → Prop} (F : FunD K x qual params body scope dvs kws f fd) (sc : FnScope N ps scope) (len : ∀ l K, S l K → l.length = ps.length)
    (hb : ∀ (cdv : Value) (A : Around) (outer : List Env) (s : Shared) (H : Hp) (E : XK), Room k (A.deeper (envOfC qual scope s.heap.objs.size f cdv)) →
      ∃ t, PSs (cxOf (L2.CX P w) P w K mg base N qual scope f cdv A outer s H E).nox body t ∧ ∀ B l K, S l K → SK C B (G0 N l) t { nx := fun _ => K .non, rt := fun _ => K }) : FnOk P w K mg base (L2.CX P w) (k + 1) f fd ps (SpOf C S) :=
  F.ok sc (fun vs H Q E ⟨P, W, l, K, _, _, r, hS, _⟩ => r.length.trans (len l K hS)) fun cdv A outer s H vs Q E hr hsp => by
    obtain ⟨t, h1, h2⟩ := hb cdv A outer s H E hr
    exact ⟨t, h1.nox, sp_body h2 vs H Q E hsp⟩
end G
end

section
set_option maxRecDepth 100000
set_option maxHeartbeats 2000000
/-! the data layer: statements with their ends as arguments; calls by names -/
namespace G
open PySem PySem.Spec PyProof.Rows L2

/-- nx: behind it; rt: what is returned; bk, ct: break, continue -/
def SX (C : Cl) (B : Bs) (Γ : List Sl) (t : TS) (nx : List Sl → Prop) (rt : List Sl → D → Prop) (bk ct : List Sl → Prop) : Prop := SK C B Γ t ⟨nx, rt, bk, ct⟩
section
variable {C : Cl} {B : Bs} {Γ : List Sl} {ta tb te : TE} {tt : TT} {t u : TS} {nx bk ct : List Sl → Prop} {rt : List Sl → D → Prop} {KK : PySem.W.Frag}
theorem sx_seq (h : SX C B Γ t (fun Γ' => SX C B Γ' u nx rt bk ct) rt bk ct) : SX C B Γ (tSeq t u) nx rt bk ct := sk_seq (O := ⟨nx, rt, bk, ct⟩) h
theorem sx_cut (M : List Sl → Prop) (h : SX C B Γ t M rt bk ct) (k : ∀ Γ', M Γ' → SX C B Γ' u nx rt bk ct) : SX C B Γ (tSeq t u) nx rt bk ct := sk_cut (O := ⟨nx, rt, bk, ct⟩) M h k
theorem sx_next (h : nx Γ) : SX C B Γ tNext nx rt bk ct := sk_next (O := ⟨nx, rt, bk, ct⟩) h
theorem sx_break (h : bk Γ) : SX C B Γ tBreak nx rt bk ct := sk_break (O := ⟨nx, rt, bk, ct⟩) h
theorem sx_cont (h : ct Γ) : SX C B Γ tCont nx rt bk ct := sk_cont (O := ⟨nx, rt, bk, ct⟩) h
theorem sx_weak {Γ' : List Sl} (w : Wk Γ Γ') (h : SX C B Γ' t nx rt bk ct) : SX C B Γ t nx rt bk ct := sk_weak w h
theorem sx_freeze (i : Nat) {l : List D} (hs : Γ[i]? = some (.own l)) (h : SX C B (Γ.set i (.d (.lst l))) t nx rt bk ct) : SX C B Γ t nx rt bk ct := sk_freeze i hs h
theorem sx_asg {g : TG} (h : EK C B Γ te fun d => GK C B Γ g d nx) : SX C B Γ (tAsg te g) nx rt bk ct := sk_asg (O := ⟨nx, rt, bk, ct⟩) h
theorem sx_set {i : Nat} (hi : isSlot Γ i = true) (h : EK C B Γ te fun d => nx (Γ.set i (.d d))) : SX C B Γ (tAsg te (gName i)) nx rt bk ct := sk_asg (O := ⟨nx, rt, bk, ct⟩) (h.mono fun d k => gk_name k hi)
theorem sx_setO {i : Nat} (hi : isSlot Γ i = true) (h : EF C B Γ te fun l => nx (Γ.set i (.own l))) : SX C B Γ (tAsg te (gName i)) nx rt bk ct := sk_asgO (O := ⟨nx, rt, bk, ct⟩) h hi
theorem sx_ret (h : EK C B Γ te (rt Γ)) : SX C B Γ (tRet te) nx rt bk ct := sk_ret (O := ⟨nx, rt, bk, ct⟩) h
theorem sx_drop (h : EK C B Γ te fun _ => nx Γ) : SX C B Γ (tDrop te) nx rt bk ct := sk_drop (O := ⟨nx, rt, bk, ct⟩) h
theorem sx_if (h : TK C B Γ tt fun b => (b = true → SX C B Γ t nx rt bk ct) ∧ (b = false → SX C B Γ u nx rt bk ct)) : SX C B Γ (tIfS tt t u) nx rt bk ct := sk_if (O := ⟨nx, rt, bk, ct⟩) h
theorem sx_append {i : Nat} {l : List D} (hs : Γ[i]? = some (.own l)) (h : EK C B Γ te fun d => l.length < sizeLine ∧ nx (Γ.set i (.own (l ++ [d])))) : SX C B Γ (tDrop (tBM KK "list" rAppend (tVar i) (tCons te tNil))) nx rt bk ct := sk_append (O := ⟨nx, rt, bk, ct⟩) hs h
theorem sx_never (h : False) : SX C B Γ tNever nx rt bk ct := h.elim
/-- own[i] = v -/
theorem sx_setI {i : Nat} {l : List D} {ti : TE} (hs : Γ[i]? = some (.own l)) (h : EK C B Γ te fun d => EK C B Γ ti fun d2 => ∃ k j, d2 = .int k ∧ ixN l.length k = some j ∧ nx (Γ.set i (.own (l.set j d)))) : SX C B Γ (tAsg te (gSub (tVar i) ti rSetL)) nx rt bk ct :=
  sk_asg (O := ⟨nx, rt, bk, ct⟩) (h.mono fun d k => gk_sub hs k)
/-- a, b = x, y -/
theorem sx_par {i j : Nat} {ta : TA} (hi : isSlot Γ i = true) (hj : isSlot Γ j = true) (h : AK C B Γ ta fun l => ∃ x y, l = [x, y] ∧ nx ((Γ.set i (.d x)).set j (.d y))) : SX C B Γ (tPar i j ta) nx rt bk ct := fun W H σ e D' s =>
  h W H σ e _ fun l vs W1 H1 s1 r1 ⟨x, y, e0, k⟩ => by
    subst e0
    cases r1 with
    | cons r1 r2 =>
      cases r2 with
      | cons r2 r3 =>
        cases r3
        exact ⟨_, _, rfl, s.nx _ W1 H1 _ (((e.step s1).setD hi r1).setD (isSlot_set rfl hj) r2) k⟩
/-- a loop whose target is a name -/
theorem sx_for {wi : TI} {i : Nat} (h : IK C B Γ wi fun l => ∃ I : Nat → List Sl → Prop, I 0 Γ ∧ (∀ j Γ', I j Γ' → isSlot Γ' i = true) ∧
      (∀ B' j d Γ', l[j]? = some d → I j Γ' → SX C B' (Γ'.set i (.d d)) t (I (j + 1)) rt nx (I (j + 1))) ∧ ∀ Γ', I l.length Γ' → nx Γ') : SX C B Γ (tFor wi (gName i) t) nx rt bk ct :=
  sk_for (O := ⟨nx, rt, bk, ct⟩) fun W H σ e R q => h W H σ e R fun J W' H' l s y ⟨I, h0, hl, hs, hd⟩ => q J W' H' l s y ⟨I, h0, fun W1 j d Γ' h1 h2 => gk_name (hs (B.keep W1) j d Γ' h1 h2) (hl j Γ' h2), hd⟩
/-- a loop with any target -/
theorem sx_forG {wi : TI} {g : TG} (h : IK C B Γ wi fun l => ∃ I : Nat → List Sl → Prop, I 0 Γ ∧
      (∀ B' j d Γ', l[j]? = some d → I j Γ' → GK C B' Γ' g d fun Γ2 => SX C B' Γ2 t (I (j + 1)) rt nx (I (j + 1))) ∧ ∀ Γ', I l.length Γ' → nx Γ') : SX C B Γ (tFor wi g t) nx rt bk ct :=
  sk_for (O := ⟨nx, rt, bk, ct⟩) fun W H σ e R q => h W H σ e R fun J W' H' l s y ⟨I, h0, hs, hd⟩ => q J W' H' l s y ⟨I, h0, fun W1 j d Γ' h1 h2 => hs (B.keep W1) j d Γ' h1 h2, hd⟩
theorem sx_while {tc : TT} (I : Nat → List Sl → Prop) (h0 : ∃ m, I m Γ) (hs : ∀ m Γ', I m Γ' → TK C B Γ' tc fun b => (b = true → SX C B Γ' t (fun Γ2 => ∃ m', m' < m ∧ I m' Γ2) rt nx (fun Γ2 => ∃ m', m' < m ∧ I m' Γ2)) ∧ (b = false → nx Γ')) :
    SX C B Γ (tWhile tc t) nx rt bk ct := sk_while (O := ⟨nx, rt, bk, ct⟩) I h0 hs
theorem sx_mono {nx' bk' ct' : List Sl → Prop} {rt' : List Sl → D → Prop} (h : SX C B Γ t nx rt bk ct) (n : ∀ Γ, nx Γ → nx' Γ) (r : ∀ Γ d, rt Γ d → rt' Γ d) (b : ∀ Γ, bk Γ → bk' Γ) (c : ∀ Γ, ct Γ → ct' Γ) : SX C B Γ t nx' rt' bk' ct' := SK.mono h n r b c
end

/-! ### objects that are made -/
def putD (f : Str) (v : D) : List (Str × D) → List (Str × D)
  | [] => [(f, v)]
  | (g, x) :: r => if g = f then (g, v) :: r else (g, x) :: putD f v r
theorem put_rep {C : Cl} {P : Option Addr} {W : Hp} {f : Str} {v : V} {d : D} (h : Rep C P W v d) : ∀ {fs : List (Str × V)} {l : List (Str × D)}, fs.map (·.1) = l.map (·.1) → RepL C P W (fs.map (·.2)) (l.map (·.2)) →
    (putF f v fs).map (·.1) = (putD f d l).map (·.1) ∧ RepL C P W ((putF f v fs).map (·.2)) ((putD f d l).map (·.2))
  | [], [], _, _ => ⟨rfl, .one h⟩
  | [], _ :: _, e, _ => by cases e
  | _ :: _, [], e, _ => by cases e
  | (g, x) :: fs, (g', y) :: l, e, r => by
    have h1 : g = g' := by simp at e; exact e.1
    have h2 : fs.map (·.1) = l.map (·.1) := by simp at e; exact e.2
    subst h1
    cases r with
    | cons r rr =>
      obtain ⟨i1, i2⟩ := put_rep (f := f) h h2 rr
      show (if g = f then (g, v) :: fs else (g, x) :: putF f v fs).map (·.1) = (if g = f then (g, d) :: l else (g, y) :: putD f d l).map (·.1) ∧ RepL C P W ((if g = f then (g, v) :: fs else (g, x) :: putF f v fs).map (·.2)) ((if g = f then (g, d) :: l else (g, y) :: putD f d l).map (·.2))
      by_cases hg : g = f
      · rw [if_pos hg, if_pos hg]
        exact ⟨by simp [h2], .cons h rr⟩
      · rw [if_neg hg, if_neg hg]
        exact ⟨by simp [i1], .cons r i2⟩
section
variable {C : Cl} {B : Bs} {Γ : List Sl} {te : TE} {nx bk ct : List Sl → Prop} {rt : List Sl → D → Prop} {KK : PySem.W.Frag}
theorem sx_fld {i : Nat} {A : Addr} {fl : List (Str × D)} {f : Str} (hs : Γ[i]? = some (.ins A fl)) (c : Cls KK A) (n : NoAttr KK A f) (hl : fl.length < 1000) (h : EK C B Γ te fun d => nx (Γ.set i (.ins A (putD f d fl)))) : SX C B Γ (sFld KK (tVar i) te f) nx rt bk ct := fun W H σ e D' s =>
  h W H σ e _ fun d v W1 H1 s1 r1 k => by
    have e1 := e.step s1
    obtain ⟨ow, o⟩ := e1.ow
    obtain ⟨h1, dx, fs, h2, h3, h4⟩ := o.ok i _ hs
    have hlen : fs.length = fl.length := by have := congrArg List.length h3; simpa using this
    refine ⟨_, getD_some h1, ow i, A, dx, fs, rfl, h2, c, n, by omega, ?_⟩
    obtain ⟨ow2, o3, g⟩ := e1.chg (u := .ins A dx (putF f v fs)) (t := .ins A (putD f d fl)) hs rfl rfl (fun _ h => h)
    have ee : ow2 i = ow i := by
      obtain ⟨g1, _⟩ := o3.ok i _ hs
      rw [h1] at g1
      injection g1 with g1
      injection g1 with g1
      exact g1.symm
    rw [ee] at g
    obtain ⟨p1, p2⟩ := put_rep (f := f) r1 h3 h4
    exact s.nx _ W1 _ σ (g ⟨h1, dx, _, upd_same, p1, p2⟩) k
end
def fracL (q : Rat) : List (Str × D) := [("num", .int q.num), ("den", .int q.den)]
/-- what an __init__ promises -/
def SpI (C : Cl) (A : Addr) (S : List D → (List (Str × D) → Prop) → Prop) : Sp := fun vs H Q _ => ∃ P W p dx us l K, vs = .ref p :: us ∧ H p = some (.ins A dx []) ∧ W p = none ∧ P ≠ some p ∧ C.m p = none ∧ Same W H ∧ PlOk C P W H ∧ RepL C P W us l ∧ S l K ∧
  ∀ fl fs dx' W' H', K fl → Stp C P (fun a => a = p) W H W' H' → H' p = some (.ins A dx' fs) → W' p = none → fs.map (·.1) = fl.map (·.1) → RepL C P W' (fs.map (·.2)) (fl.map (·.2)) → Q .non H'
theorem env_startI {C : Cl} {P : Option Addr} {W H : Hp} {A p dx : Addr} {x : Str} {N : List Str} {vs : List V} {l : List D} (hp : H p = some (.ins A dx [])) (hW : W p = none) (hP : P ≠ some p) (hm : C.m p = none) (hw : Same W H) (pl : PlOk C P W H) (r : RepL C P W vs l) :
    EnvOk C ⟨P, fun a => a = p, W, H, W⟩ W H (L2.start (x :: N) (.ref p :: vs)) (.ins A [] :: G0 N l) := by
  have e := env_start (N := N) hw pl r
  obtain ⟨ow, o⟩ := e.ow
  have st : L2.start (x :: N) (.ref p :: vs) = some (.ref p) :: L2.start N vs := by
    unfold L2.start
    simp
  rw [st]
  have no : ∀ (i : Nat) (s : Sl), (G0 N l)[i]? = some s → s.isO = false := fun i s h => (G0_no i s h).1
  have nr : ∀ (i : Nat) (cs : List (Addr × List D)), (Sl.ins A [] :: G0 N l)[i]? = some (.reg cs) → False := fun i cs h => by
    cases i with
    | zero => simp at h
    | succ i => have := (G0_no i _ (by simpa using h)).2; cases this
  refine ⟨.refl hw, .refl W, pl, fun a o' z => ⟨(pl.rg a o' z).1, fun y => by have y : a = p := y; subst y; rw [hm] at z; cases z⟩, ⟨by have := e.len.le; simpa using this, fun i s h => ?_⟩, fun _ => p, fun i j s t h1 h2 h3 h4 _ => ?_, fun i s h1 h2 => ?_, fun i s h => ?_, fun i j cs ds h1 => (nr i cs h1).elim, fun i cs h1 => (nr i cs h1).elim, fun i cs q h1 => (nr i cs h1).elim, fun i cs q j s h1 => (nr i cs h1).elim⟩
  · cases i with
    | zero => simp at h; subst h; exact ⟨fun z => by simp at z, fun z => by cases z⟩
    | succ i =>
      have := e.len.c i s (by simpa using h)
      rw [List.length_cons]
      exact ⟨fun z => this.mp (by omega), fun z => by have := this.mpr z; omega⟩
  · cases i with
    | succ i => rw [no i s (by simpa using h1)] at h3; cases h3
    | zero =>
      cases j with
      | succ j => rw [no j t (by simpa using h2)] at h4; cases h4
      | zero => rfl
  · cases i with
    | succ i => rw [no i s (by simpa using h1)] at h2; cases h2
    | zero =>
      simp at h1; subst h1
      exact ⟨hW, hP, rfl⟩
  · cases i with
    | zero =>
      simp at h; subst h
      exact ⟨rfl, dx, [], hp, rfl, .nil⟩
    | succ i =>
      have k := o.ok i s (by simpa using h)
      have hn := no i s (by simpa using h)
      cases s with
      | no => trivial
      | d x => exact k
      | own l => cases hn
      | ins c l => cases hn
      | reg cs => trivial
theorem sp_bodyI {C : Cl} {A : Addr} {S : List D → (List (Str × D) → Prop) → Prop} {t : TS} {x : Str} {N : List Str} (h : ∀ B l K, S l K → SX C B (.ins A [] :: G0 N l) t (fun Γ => ∃ fl, Γ[0]? = some (.ins A fl) ∧ K fl) (fun _ _ => False) (fun _ => False) (fun _ => False)) (vs : List V) (H : Hp) (Q : VK) (E : XK) (q : SpI C A S vs H Q E) :
    t { nx := fun _ H' => Q .non H', rt := Q } (L2.start (x :: N) vs) H := by
  obtain ⟨P, W, p, dx, us, l, K, rfl, hp, hW, hP, hm, hw, pl, r, hS, k⟩ := q
  refine h ⟨P, fun a => a = p, W, H, W⟩ l K hS W H _ (env_startI hp hW hP hm hw pl r) _ ⟨fun Γ W' H' σ' e z => ?_, fun _ _ _ _ _ _ _ _ z => z.elim, fun _ _ _ _ _ z => z.elim, fun _ _ _ _ _ z => z.elim⟩
  obtain ⟨fl, h0, kf⟩ := z
  obtain ⟨ow, o⟩ := e.ow
  obtain ⟨f1, _, f4⟩ := o.fr 0 _ h0 rfl
  obtain ⟨_, dx', fs, g1, g2, g3⟩ := o.ok 0 _ h0
  have f6 : ow 0 = p := f4
  rw [f6] at f1 g1
  exact k fl fs dx' W' H' kf e.stp g1 f1 g2 g3

/-! ### calls by names -/
/-- the def that the module's name x stands for keeps a promise -/
def Cal (P : Program) (w : World) (K : PySem.W.Frag) (mg : Str → Option Value) (base : Heap) (k : Nat) (x : Str) (ps : List Str) (sp : Sp) : Prop :=
  mg x = some (.ref (He.ga K x)) ∧ PySem.W.keepIn K (.ref (He.ga K x)) = true ∧ ∃ fd, FnOk P w K mg base (L2.CX P w) k (He.ga K x) fd ps sp ∧ Binds K fd ps []
section
variable {X : Cx} {k j : Nat} {x : Str} {ps : List Str} {sp : Sp} {p pos : Pos} {e : Expr} {es : List Expr} {t : TA}
theorem pe_calC (c : Cal X.prog X.w X.K X.mg X.base k x ps sp) (hr : Room j X.A) (hk : k ≤ j) (hg : Gl X x) (ha : PA X (e :: es) t) (hdb : (x == ("__debug__" : Str)) = false := by decide)
    (he : starEach (e :: es) X.env = (false, eval e X.env) :: starEach es X.env := by rfl) (hpl : (backTo pos (starEach es X.env)).any (·.1) = false := by rfl) : PE X (.Call (.Name x p) (e :: es) [] pos) (tCall sp [] E0 t) := by
  obtain ⟨h1, h2, fd, F, b⟩ := c
  exact pe_call F (hr.mono hk) hg h1 h2 b .nil passL ha hdb he hpl
/-- a module's int -/
theorem pe_gint {i : Int} (h : ∃ t, X.mg x = some (.int i t)) (hg : Gl X x) (hd : (x == ("__debug__" : Str)) = false := by decide) : PE X (.Name x pos) (tC (.int i)) := by
  obtain ⟨t, h⟩ := h
  exact pe_glob (v := .int i) hg h ⟨t, rfl⟩ hd
theorem pe_gcls {a : Addr} (h : X.mg x = some (.ref a)) (hg : Gl X x) (hd : (x == ("__debug__" : Str)) = false := by decide) : PE X (.Name x pos) (tC (.ref a)) := pe_glob (v := .ref a) hg h rfl hd
end
/-- a def of the text -/
abbrev FnP (K : PySem.W.Frag) (x : Str) (st : Stmt) (fd : FuncData) : Prop := FunD K x x (defArgs st) (defBody st) (defScope st) [] [] (He.ga K x) fd
theorem cal_mk {P : Program} {w : World} {K : PySem.W.Frag} {mg : Str → Option Value} {base : Heap} {k : Nat} {x : Str} {st : Stmt} {N ps : List Str} {C : Cl} {S : List D → (D → Prop) → Prop} (g : mg x = some (.ref (He.ga K x))) (F : ∃ fd, FnP K x st fd) (sc : FnScope N ps (defScope st))
    (b : ∀ (kV doc pm : Value) (an : Option Addr) (cdv ct : Value) (us : List Value), us.length = ps.length → bindArgs (PySem.W.fnOf x x (defArgs st) (defBody st) (defScope st) .none kV doc pm an cdv ct) ⟨us, []⟩ = pure (ps.zip us))
    (len : ∀ l K, S l K → l.length = ps.length)
    (hb : ∀ (f : Addr) (cdv : Value) (A : Around) (outer : List Env) (s : Shared) (H : Hp) (E : XK), Room k (A.deeper (envOfC x (defScope st) s.heap.objs.size f cdv)) →
      ∃ t, PSs (cxOf (L2.CX P w) P w K mg base N x (defScope st) f cdv A outer s H E).nox (defBody st) t ∧ ∀ B l K, S l K → SX C B (G0 N l) t (fun _ => K .non) (fun _ => K) (fun _ => False) (fun _ => False)) : Cal P w K mg base (k + 1) x ps (SpOf C S) := by
  obtain ⟨fd, F⟩ := F
  exact ⟨g, F.kp, fd, fn_ok F sc len fun cdv A outer s H E hr => hb _ cdv A outer s H E hr, F.bindsN b⟩
end G
end

section
set_option maxRecDepth 100000
set_option maxHeartbeats 2000000
/-! the data layer: classes made, methods, operators by names -/
namespace G
open PySem PySem.Spec PyProof.Rows L2
section
variable (P : Program) (w : World) (K : PySem.W.Frag) (mg : Str → Option Value) (base : Heap)
/-- C(..) -/
def CalM (k : Nat) (x : Str) (dvs : List V) (sp : Sp) : Prop := mg x = some (.ref (He.ga K x)) ∧ ∃ f fd ps ds, Mk K (He.ga K x) f ∧ FnOk P w K mg base (L2.CX P w) k f fd ps sp ∧ Binds K fd ps ds ∧ Vals dvs ds
/-- o.m(..) -/
def CalT (k : Nat) (A : Addr) (m : Str) (sp : Sp) : Prop := Cls K A ∧ ∃ f fd ps, Meth K A m f ∧ FnOk P w K mg base (L2.CX P w) k f fd ps sp ∧ Binds K fd ps []
/-- an operator -/
def CalO (k : Nat) (A : Addr) (op : Operator) (sp : Sp) : Prop := PySem.W.selfFirst K A = true ∧ ∃ f fd ps, PySem.W.findIn K (.ref A) (PySem.dunder op.info.2) = some (some (.ref f)) ∧ PySem.W.isFn K (.ref f) = true ∧ FnOk P w K mg base (L2.CX P w) k f fd ps sp ∧ Binds K fd ps []
end
section
variable {X : Cx} {k j : Nat} {x m : Str} {A : Addr} {dvs : List V} {sp : Sp} {p pos apos : Pos} {e o : Expr} {es : List Expr} {t : TA} {ta : TE} {opr : Operator}
theorem pe_mkC (c : CalM X.prog X.w X.K X.mg X.base k x dvs sp) (hr : Room j X.A) (hk : k + 1 ≤ j) (hg : Gl X x) (ha : PA X (e :: es) t) (hdb : (x == ("__debug__" : Str)) = false := by decide)
    (he : starEach (e :: es) X.env = (false, eval e X.env) :: starEach es X.env := by rfl) (hpl : (backTo pos (starEach es X.env)).any (·.1) = false := by rfl) : PE X (.Call (.Name x p) (e :: es) [] pos) (tMake (He.ga X.K x) sp dvs E0 t) := by
  obtain ⟨h1, f, fd, ps, ds, M, F, b, hd⟩ := c
  exact pe_make M F (hr.mono hk) hg h1 b hd passL ha hdb he hpl
theorem pe_mtC {pl : Sem Bool} (c : CalT X.prog X.w X.K X.mg X.base k A m sp) (hr : Room j X.A) (hk : k ≤ j) (ho : PE X o ta) (ha : PA X (e :: es) t)
    (hst : starEach (e :: es) X.env = (false, eval e X.env) :: starEach es X.env := by rfl) (hpl : (backTo pos (starEach es X.env)).any (·.1) = false := by rfl)
    (ht : eval (.Call (.Attribute o m apos) (e :: es) [] pos) X.env = (do
      let ov ← eval o X.env
      standAt apos.atName
      let (f, first) ← holding [ov] (getMethod ov m pl)
      callWith pos f first (backTo pos (starEach (e :: es) X.env)) (backToKw pos (keywordEach [] X.env))) := by rfl) :
    PE X (.Call (.Attribute o m apos) (e :: es) [] pos) (tMeth A m sp [] E0 ta t) := by
  obtain ⟨h1, f, fd, ps, M, F, b⟩ := c
  exact pe_meth ho h1 M F (hr.mono hk) b .nil passL ha hst hpl ht
theorem CalO.op (c : CalO X.prog X.w X.K X.mg X.base k A opr sp) (hr : Room j X.A) (hk : k ≤ j) : OpR X (binaryOp opr) (rOwn A sp) := by
  obtain ⟨h1, f, fd, ps, h2, h3, F, b⟩ := c
  exact op_own F h2 h3 h1 b passL (hr.mono hk)
end

/-! ### the rules with the written part named (within a comprehension's block it must be) -/
section
variable {X : Cx}
theorem ix_seqK (KK : PySem.W.Frag) (h : X.K = KK) : IxR X (rIx KK) := h ▸ ix_seq
theorem cr_lenK (KK : PySem.W.Frag) (h : X.K = KK) : CallR X (.builtin "len") (rLenU KK) := h ▸ cr_lenU
theorem cr_listK (KK : PySem.W.Frag) (h : X.K = KK) : CallR X (.type "list") (rListU KK) := h ▸ cr_listU
theorem cr_tupK (KK : PySem.W.Frag) (h : X.K = KK) : CallR X (.type "tuple") (rTupU KK) := h ▸ cr_tupU
theorem cr_isK (KK : PySem.W.Frag) (h : X.K = KK) : CallR X (.builtin "isinstance") (rIsU KK) := h ▸ cr_isU
theorem cr_sumK (KK : PySem.W.Frag) (h : X.K = KK) (hc : X.calm = true) : CallR X (.builtin "sum") (rSum KK) := h ▸ cr_sum hc
theorem cr_allK (KK : PySem.W.Frag) (h : X.K = KK) (hc : X.calm = true) : CallR X (.builtin "all") (rAll KK) := h ▸ cr_all hc
theorem cr_anyK (KK : PySem.W.Frag) (h : X.K = KK) (hc : X.calm = true) : CallR X (.builtin "any") (rAny KK) := h ▸ cr_any hc
theorem sl_listK (KK : PySem.W.Frag) (h : X.K = KK) : SlR X (rSlL KK) := h ▸ sl_list
theorem sl_tupK (KK : PySem.W.Frag) (h : X.K = KK) : SlR X (rSlT KK) := h ▸ sl_tup
section
variable {e e2 tg : Expr} {f : Str} {pos p tpos : Pos} {ta te : TE} {elts : List Expr} {kk n : Nat} {tta : TA} {es : List Expr} {gs : TGs}
theorem pe_fldK (KK : PySem.W.Frag) (h : X.K = KK) (he : PE X e ta) (hb : attributeBase e f X.env (eval e X.env) = eval e X.env) : PE X (.Attribute e f pos) (tFld KK ta f) := h ▸ pe_fld he hb
theorem pi_seqK (KK : PySem.W.Frag) (h : X.K = KK) (hl : PE X e te) : PI X tg e (iSeq KK te) := h ▸ pi_seq hl
theorem pg_tupK (KK : PySem.W.Frag) (h : X.K = KK) (hc : X.calm = true) (hg : PGs X es gs)
    (hn : (assignEach es X.env).length = n := by rfl) (hst : (assignEach es X.env).findIdx? (·.1) = none := by rfl) : PG X (.Tuple es kk pos) (gTup KK n gs) := h ▸ pg_tup hc hg hn hst
theorem pi_enumK (KK : PySem.W.Frag) (h : X.K = KK) (hg : Gl X "enumerate") (hm : X.mg "enumerate" = none) (ha : PA X [e] tta) (hs : starEach [e] X.env = [(false, eval e X.env)] := by rfl) :
    PI X (.Tuple elts kk tpos) (.Call (.Name "enumerate" p) [e] [] pos) (iEnum KK tta) := h ▸ pi_enum hg hm ha hs
theorem pi_zipK (KK : PySem.W.Frag) (h : X.K = KK) (hg : Gl X "zip") (hm : X.mg "zip" = none) (ha : PA X [e, e2] tta)
    (hs : starEach [e, e2] X.env = (false, eval e X.env) :: starEach [e2] X.env := by rfl) (hpl : (backTo pos (starEach [e2] X.env)).any (·.1) = false := by rfl) :
    PI X (.Tuple elts kk tpos) (.Call (.Name "zip" p) [e, e2] [] pos) (RZ.iZipA KK tta) := h ▸ RZ.pi_zipA hg hm ha hs hpl
theorem pi_revK (KK : PySem.W.Frag) (h : X.K = KK) (hg : Gl X "reversed") (hm : X.mg "reversed" = none) (he : PE X e te) (hs : starEach [e] X.env = (false, eval e X.env) :: starEach [] X.env := by rfl) : PI X tg (.Call (.Name "reversed" p) [e] [] pos) (RT.iRevA KK te) := h ▸ RT.pi_revA hg hm he hs
end
section
variable {k j : Nat} {x m : Str} {dvs : List V} {sp : Sp} {p pos : Pos} {e : Expr} {es : List Expr} {t : TA}
theorem pe_mkK (KK : PySem.W.Frag) (h : X.K = KK) (c : CalM X.prog X.w X.K X.mg X.base k x dvs sp) (hr : Room j X.A) (hk : k + 1 ≤ j) (hg : Gl X x) (ha : PA X (e :: es) t) (hdb : (x == ("__debug__" : Str)) = false := by decide)
    (he : starEach (e :: es) X.env = (false, eval e X.env) :: starEach es X.env := by rfl) (hpl : (backTo pos (starEach es X.env)).any (·.1) = false := by rfl) : PE X (.Call (.Name x p) (e :: es) [] pos) (tMake (He.ga KK x) sp dvs E0 t) := h ▸ pe_mkC c hr hk hg ha hdb he hpl
end
section
variable {e : Expr} {te : TE} {k : Nat} {p1 p2 p3 pos : Pos}
theorem pe_lstRevK (KK : PySem.W.Frag) (h : X.K = KK) {p q pos2 : Pos} (hc : X.calm = true) (hg : Gl X "list") (hm : X.mg "list" = none) (hg2 : Gl X "reversed") (hm2 : X.mg "reversed" = none) (he : PE X e te)
    (hs : starEach [e] X.env = (false, eval e X.env) :: starEach [] X.env := by rfl)
    (hs2 : starEach [.Call (.Name "reversed" q) [e] [] pos2] X.env = (false, eval (.Call (.Name "reversed" q) [e] [] pos2) X.env) :: starEach [] X.env := by rfl) :
    PE X (.Call (.Name "list" p) [.Call (.Name "reversed" q) [e] [] pos2] [] pos) (GRv.tLstRev KK te) := h ▸ GRv.pe_lstRev hc hg hm hg2 hm2 he hs hs2
theorem pe_revK (KK : PySem.W.Frag) (h : X.K = KK) (he : PE X e te) : PE X (.Subscript e (.Slice none none (some (.UnaryOp .USub (.Constant (.int 1) k p1) p2)) p3) pos) (tRevL KK te) := h ▸ pe_revL he
end
end
section
variable {C : Cl} {B : Bs} {Γ : List Sl} {ta : TE} {KK : PySem.W.Frag}
theorem ef_rev {K : List D → Prop} (h : EL C B Γ ta fun k l => k = .l ∧ K l.reverse) : EF C B Γ (tRevL KK ta) K := fun W H σ e Q q =>
  h W H σ e _ fun k l a vs W1 H1 s1 ha hP hT r1 ⟨hk, h1⟩ => by
    subst hk
    refine ⟨a, vs, rfl, SqL.of ha, fun p hp => ?_⟩
    have s2 := Stp.own (C := C) (P := B.P) (S := noS) (o := .lst vs.reverse) s1.wh hp (e.pl.step s1).ne
    have hW : W1 p = none := by
      cases z : W1 p with
      | none => rfl
      | some o => rw [s1.wh _ _ z] at hp; cases hp
    exact q l.reverse p vs.reverse _ _ (s1.trans s2) (s1.free hp) hW upd_same r1.reverse h1
end
end G
end

section
set_option maxRecDepth 100000
set_option maxHeartbeats 2000000
/-! the data layer: methods, __init__s -/
namespace G
open PySem PySem.Spec PyProof.Rows L2
section
variable {C : Cl} {B : Bs} {Γ : List Sl} {tt : TT} {t u : TS} {nx bk ct : List Sl → Prop} {rt : List Sl → D → Prop}
/-- if ..: raise, where nothing is raised -/
theorem sx_guard (h : TK C B Γ tt fun b => b = false) (k : SX C B Γ u nx rt bk ct) : SX C B Γ (tSeq (tIfS tt tNever tNext) u) nx rt bk ct :=
  sx_seq (sx_if (h.mono fun b e => ⟨fun z => (by rw [e] at z; cases z), fun _ => sx_next k⟩))
/-- an if whose way is known -/
theorem sx_ifT (h : TK C B Γ tt fun b => b = true) (k : SX C B Γ t nx rt bk ct) : SX C B Γ (tIfS tt t u) nx rt bk ct := sx_if (h.mono fun b e => ⟨fun _ => k, fun z => (by rw [e] at z; cases z)⟩)
theorem sx_ifF (h : TK C B Γ tt fun b => b = false) (k : SX C B Γ u nx rt bk ct) : SX C B Γ (tIfS tt t u) nx rt bk ct := sx_if (h.mono fun b e => ⟨fun z => (by rw [e] at z; cases z), fun _ => k⟩)
/-- an if whose test tells p -/
theorem sx_ifP (p : Prop) [Decidable p] (h : TK C B Γ tt fun b => b = decide p) (k1 : p → SX C B Γ t nx rt bk ct) (k2 : ¬ p → SX C B Γ u nx rt bk ct) : SX C B Γ (tIfS tt t u) nx rt bk ct :=
  sx_if (h.mono fun b e => ⟨fun z => k1 (of_decide_eq_true (e ▸ z)), fun z => k2 (of_decide_eq_false (e ▸ z))⟩)
end
/-! ### rationals as Fracs -/
theorem divInt_num {n d : Int} (h : 0 < d) : (Rat.divInt n d).num = n / ((Nat.gcd n.natAbs d.natAbs : Nat) : Int) := by
  rw [Rat.num_divInt, Int.sign_eq_one_of_pos h, Int.one_mul]
  congr 1
  show ((Nat.gcd d.natAbs n.natAbs : Nat) : Int) = _
  rw [Nat.gcd_comm]
theorem divInt_den {n d : Int} (h : 0 < d) : ((Rat.divInt n d).den : Int) = d / ((Nat.gcd n.natAbs d.natAbs : Nat) : Int) := by
  rw [Rat.den_divInt, if_neg (by omega)]
  have e : d.gcd n = Nat.gcd n.natAbs d.natAbs := by
    show Nat.gcd d.natAbs n.natAbs = _
    rw [Nat.gcd_comm]
  rw [e]
  have hd : (d.natAbs : Int) = d := by omega
  rw [Int.natCast_ediv, hd]
theorem gcd_pos {n d : Int} (h : 0 < d) : 0 < ((Nat.gcd n.natAbs d.natAbs : Nat) : Int) := by
  have : 0 < Nat.gcd n.natAbs d.natAbs := Nat.gcd_pos_of_pos_right _ (by omega)
  omega
/-- small enough for every operation -/
def Sz (i : Int) : Prop := i.natAbs < 2 ^ 4000
def SzQ (q : Rat) : Prop := Sz q.num ∧ Sz q.den
theorem Sz.mul {i j : Int} (a : Sz i) (b : Sz j) : CMulW i j := wide_mul a b (by decide) (by decide) (by decide)
theorem Sz.prod {i j : Int} (a : Sz i) (b : Sz j) : (i * j).natAbs < 2 ^ 8000 := wide_lt a b
theorem of_small {i : Int} {n : Nat} (h : i.natAbs ≤ n) (hn : n < 2 ^ 64) : Sz i := Nat.lt_of_le_of_lt h (Nat.lt_trans hn (by exact Nat.pow_lt_pow_right (by decide) (by decide)))
theorem cdiv_gcd {n d : Int} {b : Nat} (h : 0 < d) (hb : d.natAbs < 2 ^ b) (h0 : 0 < b) (h9 : b ≤ 9000) : CDivW n ((Nat.gcd n.natAbs d.natAbs : Nat) : Int) := by
  refine wide_div (gcd_pos h) (b := b) ?_ h0 h9
  have : Nat.gcd n.natAbs d.natAbs ≤ d.natAbs := Nat.gcd_le_right _ (by omega)
  omega
end G
end

section
set_option maxRecDepth 100000
set_option maxHeartbeats 2000000
/-! the data layer: short forms -/
namespace G
open PySem PySem.Spec PyProof.Rows L2
theorem br_t {b : Bool} {p q : Prop} (hb : b = true) (h : p) : (b = true → p) ∧ (b = false → q) := ⟨fun _ => h, fun z => (by rw [hb] at z; cases z)⟩
theorem br_f {b : Bool} {p q : Prop} (hb : b = false) (h : q) : (b = true → p) ∧ (b = false → q) := ⟨fun z => (by rw [hb] at z; cases z), fun _ => h⟩
theorem br_p {p : Prop} {q r : Prop} [Decidable p] (h1 : p → q) (h2 : ¬ p → r) : (decide p = true → q) ∧ (decide p = false → r) := ⟨fun z => h1 (of_decide_eq_true z), fun z => h2 (of_decide_eq_false z)⟩
theorem br_n {p : Prop} {q r : Prop} [Decidable p] (h1 : ¬ p → q) (h2 : p → r) : ((!decide p) = true → q) ∧ ((!decide p) = false → r) := ⟨fun z => h1 (by simpa using z), fun z => h2 (by simpa using z)⟩
theorem ps_fldK {X : Cx} {o value : Expr} {f : Str} {pos pos' : Pos} {ta tv : TE} (KK : PySem.W.Frag) (h : X.K = KK) (ha : PE X o ta) (hv : PE X value tv) (hs : swapsWith value (some (.Attribute o f pos')) pos.line X.env = pure false) : PS X (.Assign [.Attribute o f pos'] value pos) (sFld KK ta tv f) := h ▸ ps_fld ha hv hs
theorem Wk.trans : ∀ {a b c : List Sl}, Wk a b → Wk b c → Wk a c
  | _, _, _, .nil, .nil => .nil
  | _, _, _, .cut w, .nil => .cut w
  | _, _, _, .sub w _ _, .cut _ => .cut w
  | _, _, _, .sub w h _, .sub _ k m => .sub w (fun p z => h p (k p z)) m
  | _, _, _, .sub w h n, .same .nil => .sub w h n
  | _, _, _, .sub _ _ _, .no _ z => nomatch z
  | _, _, _, .same w, .cut v => .cut (w.trans v)
  | _, _, _, .same w, .sub v h n => .sub (w.trans v) h n
  | _, _, _, .same h, .same k => .same (h.trans k)
  | _, _, _, .same h, .no k z => .no (h.trans k) z
  | _, _, _, .no h z, .same k => .no (h.trans k) z
  | _, _, _, .no h z, .no k _ => .no (h.trans k) z
theorem Wk.set : ∀ {a b : List Sl} {i : Nat} {s : Sl}, Wk a b → isSlot b i = true → Wk (a.set i s) (b.set i s)
  | _, _, _, _, .nil, _ => .nil
  | _, _, _, _, .cut _, h => by cases h
  | _, _, 0, _, .sub _ _ _, h => by cases h
  | _, _, _ + 1, _, .sub _ _ _, h => by cases h
  | _, _, 0, _, .same h, _ => .same h
  | _, _, 0, _, .no h _, _ => .same h
  | _, _, i + 1, _, .same h, z => .same (h.set (i := i) z)
  | _, _, i + 1, _, .no h y, z => .no (h.set (i := i) z) y
section
variable {C : Cl} {B : Bs} {Γ : List Sl} {t u : TS} {te ta tb : TE} {nx bk ct : List Sl → Prop} {rt : List Sl → D → Prop} {K : D → Prop}
theorem gk_weak {Γ' : List Sl} {g : TG} {d : D} {K : List Sl → Prop} (w : Wk Γ Γ') (h : GK C B Γ' g d K) : GK C B Γ g d K := fun W H σ v e r Q q => h W H σ v (e.weak w) r Q q
theorem IK.mono {wi : TI} {K K' : List D → Prop} (h : IK C B Γ wi K) (k : ∀ l, K l → K' l) : IK C B Γ wi K' := fun W H σ e R q => h W H σ e R fun J W' H' l s y z => q J W' H' l s y (k l z)
/-- a loop whose slots are told -/
theorem sx_forW {wi : TI} {i : Nat} (hi : isSlot Γ i = true) (h : IK C B Γ wi fun l => ∃ (α : Type) (xs : List α) (f : α → D) (F : Nat → List Sl), l = xs.map f ∧ Wk Γ (F 0) ∧ (∀ j, isSlot (F j) i = true) ∧
      (∀ B' j x, xs[j]? = some x → SX C B' ((F j).set i (.d (f x))) t (fun Γ' => Wk Γ' (F (j + 1))) rt nx (fun Γ' => Wk Γ' (F (j + 1)))) ∧ ∀ Γ', Wk Γ' (F xs.length) → nx Γ') : SX C B Γ (tFor wi (gName i) t) nx rt bk ct :=
  sx_for (h.mono fun l ⟨α, xs, f, F, e, h0, hl, hs, hd⟩ => by
    subst e
    refine ⟨fun j Γ' => Wk Γ' (F j), h0, fun j Γ' w => w.slot (hl j), fun B' j d Γ' hj w => sx_weak (w.set (hl j)) ?_, by rw [List.length_map]; exact hd⟩
    rw [List.getElem?_map] at hj
    cases hx : xs[j]? with
    | none => rw [hx] at hj; cases hj
    | some x =>
      rw [hx] at hj; cases hj
      exact hs B' j x hx)
theorem sx_forGW {wi : TI} {g : TG} (h : IK C B Γ wi fun l => ∃ (α : Type) (xs : List α) (f : α → D) (F : Nat → List Sl), l = xs.map f ∧ Wk Γ (F 0) ∧
      (∀ B' j x, xs[j]? = some x → GK C B' (F j) g (f x) fun Γ2 => SX C B' Γ2 t (fun Γ' => Wk Γ' (F (j + 1))) rt nx (fun Γ' => Wk Γ' (F (j + 1)))) ∧ ∀ Γ', Wk Γ' (F xs.length) → nx Γ') : SX C B Γ (tFor wi g t) nx rt bk ct :=
  sx_forG (h.mono fun l ⟨α, xs, f, F, e, h0, hs, hd⟩ => by
    subst e
    refine ⟨fun j Γ' => Wk Γ' (F j), h0, fun B' j d Γ' hj w => gk_weak w ?_, by rw [List.length_map]; exact hd⟩
    rw [List.getElem?_map] at hj
    cases hx : xs[j]? with
    | none => rw [hx] at hj; cases hj
    | some x =>
      rw [hx] at hj; cases hj
      exact hs B' j x hx)
/-- a while whose slots are told -/
theorem sx_whileW {tc : TT} {τ : Type} (F : τ → List Sl) (P : τ → Prop) (μ : τ → Nat) (h0 : ∃ s, P s ∧ Wk Γ (F s)) (hs : ∀ s, P s → TK C B (F s) tc fun b => (b = true → SX C B (F s) t (fun Γ2 => ∃ s', μ s' < μ s ∧ P s' ∧ Wk Γ2 (F s')) rt nx (fun Γ2 => ∃ s', μ s' < μ s ∧ P s' ∧ Wk Γ2 (F s'))) ∧ (b = false → ∀ Γ', Wk Γ' (F s) → nx Γ')) :
    SX C B Γ (tWhile tc t) nx rt bk ct :=
  sx_while (fun m Γ' => ∃ s, μ s = m ∧ P s ∧ Wk Γ' (F s)) (by obtain ⟨s, h1, h2⟩ := h0; exact ⟨μ s, s, rfl, h1, h2⟩) fun m Γ' ⟨s, hm, hp, w⟩ W H σ e Q q => hs s hp W H σ (e.weak w) Q fun b W' H' st k => q b W' H' st ⟨fun hb => sx_weak w (sx_mono (k.1 hb) (fun Γ2 ⟨s', z1, z2, z3⟩ => ⟨μ s', hm ▸ z1, s', rfl, z2, z3⟩) (fun _ _ z => z) (fun _ z => z) (fun Γ2 ⟨s', z1, z2, z3⟩ => ⟨μ s', hm ▸ z1, s', rfl, z2, z3⟩)), fun hb => k.2 hb Γ' w⟩
/-- a comprehension, item by item -/
theorem ef_map {wi : TI} {g : TG} {vs : List Nat} {K : List D → Prop} (h : IK C B Γ wi fun l => ∃ (α : Type) (xs : List α) (f y : α → D), l = xs.map f ∧ xs.length ≤ sizeLine ∧
      (∀ W1 x, x ∈ xs → CG C (B.keep W1) (wipeG Γ vs) g (f x) vs fun Γ2 => EK C (B.keep W1) Γ2 te fun z => z = y x) ∧ K (xs.map y)) : EF C B Γ (tLc wi g tYes te vs) K :=
  ef_lc (h.mono fun l ⟨α, xs, f, y, e, hz, hs, hk⟩ => by
    subst e
    refine ⟨fun i acc => acc = (xs.map y).take i, by simp, fun W1 i d acc hi ha => ?_, fun acc ha => ?_⟩
    · rw [List.getElem?_map] at hi
      cases hx : xs[i]? with
      | none => rw [hx] at hi; cases hi
      | some x =>
        rw [hx] at hi; cases hi
        have hlt : i < xs.length := by
          have := List.getElem?_eq_some_iff.mp hx; exact this.1
        intro W H σ v ow e o r Q q
        refine hs W1 x (List.mem_of_getElem? hx) W H σ v ow e o r Q fun Γ' σ' e' o' w k => q Γ' σ' e' o' w (tk_yes ⟨fun _ => k.mono fun z hz2 => ?_, fun z => nomatch z⟩)
        subst hz2
        subst ha
        refine ⟨by rw [List.length_take, List.length_map]; omega, ?_⟩
        show _ = (xs.map y).take (i + 1)
        rw [List.take_succ, List.getElem?_map, hx]
        rfl
    · rw [ha, List.length_map, show xs.length = (xs.map y).length by rw [List.length_map], List.take_length]; exact hk)
theorem ef_filt {wi : TI} {g : TG} {tt : TT} {vs : List Nat} {K : List D → Prop} (h : IK C B Γ wi fun l => ∃ (α : Type) (xs : List α) (f y : α → D) (p : α → Bool), l = xs.map f ∧ xs.length ≤ sizeLine ∧
      (∀ W1 x, x ∈ xs → CG C (B.keep W1) (wipeG Γ vs) g (f x) vs fun Γ2 => TK C (B.keep W1) Γ2 tt fun b => b = p x ∧ (b = true → EK C (B.keep W1) Γ2 te fun z => z = y x)) ∧ K ((xs.filter p).map y)) : EF C B Γ (tLc wi g tt te vs) K :=
  ef_lc (h.mono fun l ⟨α, xs, f, y, p, e, hz, hs, hk⟩ => by
    subst e
    refine ⟨fun i acc => acc = ((xs.take i).filter p).map y, by simp, fun W1 i d acc hi ha => ?_, fun acc ha => ?_⟩
    · rw [List.getElem?_map] at hi
      cases hx : xs[i]? with
      | none => rw [hx] at hi; cases hi
      | some x =>
        rw [hx] at hi; cases hi
        have hlt : i < xs.length := by
          have := List.getElem?_eq_some_iff.mp hx; exact this.1
        intro W H σ v ow e o r Q q
        refine hs W1 x (List.mem_of_getElem? hx) W H σ v ow e o r Q fun Γ' σ' e' o' w k => q Γ' σ' e' o' w (k.mono fun b hb => ⟨fun hbt => (hb.2 hbt).mono fun z hz2 => ?_, fun hbf => ?_⟩)
        · subst hz2
          subst ha
          have hp : p x = true := by rw [← hb.1, hbt]
          have hle : ((xs.take i).filter p).length ≤ i := Nat.le_trans (List.length_filter_le _ _) (by rw [List.length_take]; omega)
          refine ⟨by rw [List.length_map]; omega, ?_⟩
          show _ = ((xs.take (i + 1)).filter p).map y
          rw [List.take_succ, hx]
          simp [hp]
        · subst ha
          have hp : p x = false := by rw [← hb.1, hbf]
          show _ = ((xs.take (i + 1)).filter p).map y
          rw [List.take_succ, hx]
          simp [hp]
    · rw [ha, List.length_map, List.take_length]; exact hk)
theorem enumD_map {α : Type} (xs : List α) (f : α → D) : enumD (xs.map f) = xs.zipIdx.map fun p => .tup [.int (p.2 : Nat), f p.1] := by
  unfold enumD; rw [List.zipIdx_map, List.map_map]; rfl
theorem zipD_map {α β : Type} (xs : List α) (ys : List β) (f : α → D) (g : β → D) : zipD (xs.map f) (ys.map g) = (xs.zip ys).map fun p => .tup [f p.1, g p.2] := by
  unfold zipD; rw [List.zip_map, List.map_map]; rfl
/-- if ..: .., where the test fails -/
theorem sx_skip {tt : TT} (h : TK C B Γ tt fun b => b = false) (k : SX C B Γ u nx rt bk ct) : SX C B Γ (tSeq (tIfS tt t tNext) u) nx rt bk ct :=
  sx_seq (sx_if (h.mono fun b e => ⟨fun z => (by rw [e] at z; cases z), fun _ => sx_next k⟩))
theorem uk_neg {i : Int} (k : K (.int (-i))) : UK C B (L2.rU fun i => .int (-i)) (.int i) K := uk_I (fun _ => .int _) k
/-! ### dicts -/
def valD (l : List (Key × D)) (k : Key) : Option D := (l.find? fun kv => decide (kv.1 = k)).map (·.2)
theorem valV_rep {P : Option Addr} {W : Hp} {k : Key} {d : D} : ∀ {fs : List (Key × V)} {l : List (Key × D)}, fs.map (·.1) = l.map (·.1) → RepL C P W (fs.map (·.2)) (l.map (·.2)) → valD l k = some d → ∃ v, valV fs k = some v ∧ Rep C P W v d
  | [], [], _, _, h => by cases h
  | [], _ :: _, h, _, _ => by cases h
  | _ :: _, [], h, _, _ => by cases h
  | p :: fs, q :: l, h, r, h2 => by
    rw [List.map_cons, List.map_cons] at h
    injection h with h1 h3
    cases r with
    | cons r rr =>
      by_cases e : q.1 = k
      · rw [valV_pos (h1.trans e)]
        simp [valD, List.find?_cons, e] at h2
        subst h2
        exact ⟨_, rfl, r⟩
      · rw [valV_neg (fun z => e (h1.symm.trans z))]
        simp [valD, List.find?_cons, e] at h2
        exact valV_rep h3 rr (by simpa [valD] using h2)
theorem rep_dic {P : Option Addr} {W : Hp} {v : V} {l : List (Key × D)} (r : Rep C P W v (.dic l)) : ∃ a fs, v = .ref a ∧ W a = some (.dK fs) ∧ fs.map (·.1) = l.map (·.1) ∧ RepL C P W (fs.map (·.2)) (l.map (·.2)) := by
  cases r with
  | dic h e r => exact ⟨_, _, rfl, h, e, r⟩
/-- d["k"] -/
theorem ek_dget {x : Str} (h : EK C B Γ ta fun d => ∃ l y, d = .dic l ∧ valD l (.inr x) = some y ∧ K y) : EK C B Γ (tDGet ta (tC (.str x))) K := fun W H σ e Q q =>
  h W H σ e _ fun d v W1 H1 s1 r1 ⟨l, y, e0, hv, k⟩ => by
    subst e0
    obtain ⟨a, fs, rfl, ha, hk, hr⟩ := rep_dic r1
    obtain ⟨u, hu, ru⟩ := valV_rep hk hr hv
    exact ⟨a, u, rfl, by rw [← hu]; exact DGet.k (k := .inr x) (s1.wh _ _ ha), q y u W1 H1 s1 ru k⟩
/-- what a display's pairs make -/
def PK (C : Cl) (B : Bs) (Γ : List Sl) (trs : List (TE × TE)) (K : List (Key × D) → Prop) : Prop := ∀ W H σ, EnvOk C B W H σ Γ → ∀ Q : List (V × V) → Hp → Prop, (∀ (l : List (Key × D)) (fs : List (Key × V)) W' H', Stp C B.P noS W H W' H' → fs.map (·.1) = l.map (·.1) → RepL C B.P W' (fs.map (·.2)) (l.map (·.2)) → K l → Q (fs.map fun kv => (kV kv.1, kv.2)) H') → tPairs trs σ H Q
theorem pk_nil {K : List (Key × D) → Prop} (k : K []) : PK C B Γ [] K := fun W H σ e Q q => q [] [] W H (.refl e.wh) rfl .nil k
theorem pk_cons {x : Str} {trs : List (TE × TE)} {K : List (Key × D) → Prop} (h : EK C B Γ ta fun d => PK C B Γ trs fun l => K ((.inr x, d) :: l)) : PK C B Γ ((tC (.str x), ta) :: trs) K := fun W H σ e Q q =>
  h W H σ e _ fun d v W1 H1 s1 r1 h1 => h1 W1 H1 σ (e.step s1) _ fun l fs W2 H2 s2 hk hr k =>
    q ((.inr x, d) :: l) ((.inr x, v) :: fs) W2 H2 (s1.trans s2) (by rw [List.map_cons, List.map_cons, hk]) (.cons (r1.mono s2.ww) hr) k
theorem mergeK_app : ∀ (fs acc : List (Key × V)), ((acc ++ fs).map (·.1)).Nodup → mergeK acc fs = acc ++ fs
  | [], acc, _ => by rw [List.append_nil]; rfl
  | p :: fs, acc, h => by
    have h1 : (acc.any fun kv => decide (kv.1 = p.1)) = false := by
      rw [List.map_append, List.map_cons] at h
      rw [List.any_eq_false]
      intro kv hk
      have := (List.nodup_append.mp h).2.2 kv.1 (List.mem_map_of_mem hk) p.1 List.mem_cons_self
      simpa using this
    have e : putK acc p.1 p.2 = acc ++ [p] := by unfold putK; rw [h1]; rfl
    show mergeK (putK acc p.1 p.2) fs = _
    rw [e, mergeK_app fs (acc ++ [p]) (by rw [List.append_assoc]; exact h), List.append_assoc]; rfl
/-- {"k": v, ..} -/
theorem ek_disp {trs : List (TE × TE)} (h : PK C B Γ trs fun l => (l.map (·.1)).Nodup ∧ l.length ≤ 15 ∧ K (.dic l)) : EK C B Γ (tDisp trs) K := fun W H σ e Q q p hp => by
  have s0 := Stp.own (C := C) (P := B.P) (S := noS) (o := .dK []) e.wh hp e.pl.ne
  have hP : B.P ≠ some p := fun z => e.pl.ne p z hp
  have hW : W p = none := by
    cases z : W p with
    | none => rfl
    | some o => rw [e.wh _ _ z] at hp; cases hp
  refine h W _ σ (e.step s0) _ fun l fs W2 H2 s2 hk hr ⟨hn, hl, k⟩ => ?_
  have hH2 : H2 p = some (.dK []) := s2.hh _ _ upd_same hP (fun z => nomatch z)
  have hW2 : W2 p = none := (s2.old _ _ upd_same).trans hW
  have hlen : fs.length = l.length := by have := congrArg List.length hk; simpa using this
  refine ⟨hH2, fs, rfl, by omega, ?_⟩
  rw [mergeK_app fs [] (by rw [List.nil_append, hk]; exact hn), List.nil_append]
  have ww : Same W2 (upd W2 p (.dK fs)) := fun b x z => by rw [upd_ne (fun y => by subst y; rw [hW2] at z; cases z)]; exact z
  have st := s0.trans s2
  refine q _ _ (upd W2 p (.dK fs)) _ ⟨st.ww.trans ww, fun b x z => ?_, fun b x z1 z2 z3 => ?_, fun b x z => ?_, fun b x z => ?_, fun b z w => ?_⟩ (.dic upd_same hk (hr.mono ww)) k
  · by_cases hb : b = p
    · subst hb; rw [upd_same] at z ⊢; exact z
    · rw [upd_ne hb] at z ⊢; exact s2.wh b x z
  · rw [upd_ne (ne_of_none z1 hp)]; exact st.hh b x z1 z2 z3
  · rw [upd_ne (ne_of_none z hp)]; exact st.dom b x z
  · rw [upd_ne (ne_of_none z hp)]; exact st.old b x z
  · rw [upd_ne (fun y => by subst y; exact hP z)]; exact C.pkm ww (st.pool b z w)
end
end G
end

section
set_option maxRecDepth 100000
set_option maxHeartbeats 2000000
/-! rationals of a known size -/
namespace G
open PySem PySem.Spec PyProof.Rows L2
def EE : Nat := 360360
def MM : Nat := 11531520
/-- q is over 360360^k, and not big -/
def Nice (k : Nat) (q : Rat) : Prop := ∃ z : Int, z.natAbs ≤ MM ^ k ∧ q * ((EE ^ k : Nat) : Rat) = (z : Rat)
theorem EE_pos (k : Nat) : 0 < EE ^ k := Nat.pow_pos (by decide)
theorem EE_ne (k : Nat) : ((EE ^ k : Nat) : Rat) ≠ 0 := by
  have := EE_pos k
  intro h
  have : EE ^ k = 0 := by exact_mod_cast h
  omega
theorem Nice.up {k : Nat} {q : Rat} (h : Nice k q) : Nice (k + 1) q := by
  obtain ⟨z, h1, h2⟩ := h
  refine ⟨z * (EE : Int), ?_, ?_⟩
  · rw [Int.natAbs_mul, Nat.pow_succ]
    exact Nat.mul_le_mul h1 (by decide)
  · rw [Nat.pow_succ]
    push_cast
    rw [← h2]; push_cast; grind
theorem Nice.mono {k l : Nat} {q : Rat} (h : Nice k q) (hl : k ≤ l) : Nice l q := by
  induction hl with
  | refl => exact h
  | step _ ih => exact ih.up
theorem Nice.zero (k : Nat) : Nice k 0 := ⟨0, Nat.zero_le _, by simp⟩
theorem Nice.int {i : Int} (h : i.natAbs ≤ 32) : Nice 1 i := by
  refine ⟨i * (EE : Int), ?_, ?_⟩
  · rw [Int.natAbs_mul, Nat.pow_one, show MM = 32 * EE from rfl]
    exact Nat.mul_le_mul h (Nat.le_refl _)
  · rw [Nat.pow_one]; push_cast; rfl
theorem Nice.neg {k : Nat} {q : Rat} (h : Nice k q) : Nice k (-q) := by
  obtain ⟨z, h1, h2⟩ := h
  exact ⟨-z, by rwa [Int.natAbs_neg], by push_cast; rw [← h2]; grind⟩
theorem Nice.sumZ {k : Nat} : ∀ {xs : List Rat}, (∀ x ∈ xs, Nice k x) → ∃ z : Int, z.natAbs ≤ xs.length * MM ^ k ∧ xs.sum * ((EE ^ k : Nat) : Rat) = (z : Rat)
  | [], _ => ⟨0, Nat.zero_le _, by simp⟩
  | x :: xs, h => by
    obtain ⟨z, h1, h2⟩ := Nice.sumZ fun y hy => h y (List.mem_cons_of_mem _ hy)
    obtain ⟨u, h3, h4⟩ := h x List.mem_cons_self
    refine ⟨u + z, ?_, ?_⟩
    · have := Int.natAbs_add_le u z
      rw [List.length_cons, Nat.succ_mul]
      omega
    · rw [List.sum_cons]; push_cast; rw [← h2, ← h4]; push_cast; grind
theorem Nice.sum {k : Nat} {xs : List Rat} (h : ∀ x ∈ xs, Nice k x) (hl : xs.length ≤ 32) : Nice (k + 1) xs.sum := by
  obtain ⟨z, h1, h2⟩ := Nice.sumZ h
  refine ⟨z * (EE : Int), ?_, ?_⟩
  · rw [Int.natAbs_mul, Nat.pow_succ, show MM = 32 * EE from rfl, Nat.mul_comm 32 EE, ← Nat.mul_assoc, Nat.mul_right_comm]
    refine Nat.mul_le_mul (Nat.le_trans h1 ?_) (Nat.le_refl _)
    rw [Nat.mul_comm]
    exact Nat.mul_le_mul (Nat.le_refl _) hl
  · rw [Nat.pow_succ]
    push_cast
    rw [← h2]; push_cast; grind
theorem Nice.add {k : Nat} {p q : Rat} (h : Nice k p) (h' : Nice k q) : Nice (k + 1) (p + q) := by
  have := Nice.sum (xs := [p, q]) (k := k) (by simp [h, h']) (by simp)
  simpa [Rat.add_zero] using this
theorem Nice.sub {k : Nat} {p q : Rat} (h : Nice k p) (h' : Nice k q) : Nice (k + 1) (p - q) := by
  rw [Rat.sub_eq_add_neg]; exact h.add h'.neg
theorem Nice.mul {k l : Nat} {p q : Rat} (h : Nice k p) (h' : Nice l q) : Nice (k + l) (p * q) := by
  obtain ⟨z, h1, h2⟩ := h
  obtain ⟨u, h3, h4⟩ := h'
  refine ⟨z * u, ?_, ?_⟩
  · rw [Int.natAbs_mul, Nat.pow_add]; exact Nat.mul_le_mul h1 h3
  · rw [Nat.pow_add]; push_cast; rw [← h2, ← h4]; push_cast; grind
theorem Nice.eq {k : Nat} {q : Rat} {z : Int} (h : q * ((EE ^ k : Nat) : Rat) = (z : Rat)) : q = Rat.divInt z (EE ^ k : Nat) := by
  rw [Rat.divInt_eq_div, ← h]
  have := EE_ne k
  have e : (((EE ^ k : Nat) : Int) : Rat) = ((EE ^ k : Nat) : Rat) := Rat.intCast_natCast _
  rw [e]
  grind
theorem Nice.den {k : Nat} {q : Rat} (h : Nice k q) : q.den ≤ EE ^ k := by
  obtain ⟨z, h1, h2⟩ := h
  rw [Nice.eq h2, Rat.den_divInt]
  split
  · exact EE_pos k
  · exact Nat.le_trans (Nat.div_le_self _ _) (by rw [Int.natAbs_natCast]; exact Nat.le_refl _)
theorem Nice.num {k : Nat} {q : Rat} (h : Nice k q) : q.num.natAbs ≤ MM ^ k := by
  obtain ⟨z, h1, h2⟩ := h
  have hp : (0 : Int) < (EE ^ k : Nat) := by have := EE_pos k; omega
  rw [Nice.eq h2, Rat.num_divInt, Int.sign_eq_one_of_pos hp, Int.one_mul]
  exact Nat.le_trans (Int.natAbs_ediv_le_natAbs _ _) h1
theorem MM_bits (k : Nat) : MM ^ k < 2 ^ (24 * k + 1) := by
  rw [Nat.pow_succ, Nat.pow_mul]
  have : MM ^ k ≤ (2 ^ 24) ^ k := Nat.pow_le_pow_left (by decide) k
  have : 0 < (2 ^ 24) ^ k := Nat.pow_pos (by decide)
  omega
theorem Nice.bits {k : Nat} {q : Rat} (h : Nice k q) : q.num.natAbs < 2 ^ (24 * k + 1) ∧ q.den < 2 ^ (24 * k + 1) :=
  ⟨Nat.lt_of_le_of_lt h.num (MM_bits k), Nat.lt_of_le_of_lt h.den (Nat.lt_of_le_of_lt (Nat.pow_le_pow_left (by decide) k) (MM_bits k))⟩
theorem Nice.sz {k : Nat} {q : Rat} (h : Nice k q) (hk : k ≤ 160) : SzQ q :=
  ⟨Nat.lt_of_lt_of_le h.bits.1 (Nat.pow_le_pow_right (by decide) (by omega)), Nat.lt_of_lt_of_le h.bits.2 (Nat.pow_le_pow_right (by decide) (by omega))⟩
/-- a pair of the law's own for q -/
def LR (b : Nat) (q : Rat) (d : D) : Prop := ∃ n m : Int, d = .tup [.int n, .int m] ∧ 0 < m ∧ (n : Rat) = q * (m : Rat) ∧ n.natAbs < 2 ^ b ∧ m.natAbs < 2 ^ b
def lowD (q : Rat) : D := .tup [.int q.num, .int (q.den : Nat)]
theorem num_mul (q : Rat) : (q.num : Rat) = q * ((q.den : Int) : Rat) := by
  have h : (q.den : Rat) ≠ 0 := by
    intro h; have : q.den = 0 := by exact_mod_cast h
    exact q.den_nz this
  have e : (((q.den : Nat) : Int) : Rat) = ((q.den : Nat) : Rat) := Rat.intCast_natCast _
  rw [e]
  have := Rat.num_divInt_den q
  rw [Rat.divInt_eq_div, e] at this
  grind
theorem LR.low {k : Nat} {q : Rat} (h : Nice k q) : LR (24 * k + 1) q (lowD q) :=
  ⟨q.num, q.den, rfl, by have := q.den_pos; omega, num_mul q, h.bits.1, by rw [Int.natAbs_natCast]; exact h.bits.2⟩
theorem LR.mono {b c : Nat} {q : Rat} {d : D} (h : LR b q d) (hb : b ≤ c) : LR c q d := by
  obtain ⟨n, m, e, h1, h2, h3, h4⟩ := h
  exact ⟨n, m, e, h1, h2, Nat.lt_of_lt_of_le h3 (Nat.pow_le_pow_right (by decide) hb), Nat.lt_of_lt_of_le h4 (Nat.pow_le_pow_right (by decide) hb)⟩
theorem lt_prod {x y : Int} {b c : Nat} (h : x.natAbs < 2 ^ b) (k : y.natAbs < 2 ^ c) : (x * y).natAbs < 2 ^ (b + c) := by
  rw [Int.natAbs_mul, Nat.pow_add]
  exact Nat.mul_lt_mul_of_lt_of_le h (Nat.le_of_lt k) (Nat.pos_of_ne_zero (by omega))
theorem lt_sum {x y : Int} {b : Nat} (h : x.natAbs < 2 ^ b) (k : y.natAbs < 2 ^ b) : (x + y).natAbs < 2 ^ (b + 1) := by
  have := Int.natAbs_add_le x y
  rw [Nat.pow_succ]; omega
theorem pair_lt {n m i j : Int} {p q : Rat} (hm : 0 < m) (hj : 0 < j) (h : (n : Rat) = p * (m : Rat)) (k : (i : Rat) = q * (j : Rat)) : n * j < i * m ↔ p < q := by
  rw [← Rat.intCast_lt_intCast]
  push_cast
  rw [h, k]
  have h1 : (0 : Rat) < (m : Rat) := Rat.intCast_pos.mpr hm
  have h2 : (0 : Rat) < (j : Rat) := Rat.intCast_pos.mpr hj
  have h3 := Rat.mul_pos h1 h2
  constructor
  · intro z
    apply Decidable.byContradiction
    intro hn
    have hn := Rat.not_lt.mp hn
    have : (0 : Rat) ≤ (p - q) * (m * j : Rat) := Rat.mul_nonneg (by grind) (Rat.le_of_lt h3)
    grind
  · intro z
    have : (0 : Rat) < (q - p) * (m * j : Rat) := Rat.mul_pos (by grind) h3
    grind
theorem pair_eq {n m i j : Int} {p q : Rat} (hm : 0 < m) (hj : 0 < j) (h : (n : Rat) = p * (m : Rat)) (k : (i : Rat) = q * (j : Rat)) : n * j = i * m ↔ p = q := by
  rw [← Rat.intCast_inj]
  push_cast
  rw [h, k]
  have h1 : (0 : Rat) < (m : Rat) := Rat.intCast_pos.mpr hm
  have h2 : (0 : Rat) < (j : Rat) := Rat.intCast_pos.mpr hj
  constructor
  · intro z
    have : (p - q) * (m * j : Rat) = 0 := by grind
    have h3 := Rat.mul_pos h1 h2
    rcases Rat.mul_eq_zero.mp this with h | h <;> grind
  · intro z; subst z; grind
theorem pair_div {n m : Int} {p : Rat} (hm : 0 < m) (h : (n : Rat) = p * (m : Rat)) : Rat.divInt n m = p := by
  rw [Rat.divInt_eq_div, h]
  have h1 : (0 : Rat) < (m : Rat) := Rat.intCast_pos.mpr hm
  grind
def rmax (p q : Rat) : Rat := if p < q then q else p
theorem Nice.rmax {k : Nat} {p q : Rat} (h : Nice k p) (h' : Nice k q) : Nice k (rmax p q) := by
  unfold G.rmax; split <;> assumption
end G
namespace G
open PySem PySem.Spec PyProof.Rows L2
/-- numerator and denominator below 2^b -/
def Bd (b : Nat) (q : Rat) : Prop := q.num.natAbs < 2 ^ b ∧ q.den < 2 ^ b
theorem Bd.mono {b c : Nat} {q : Rat} (h : Bd b q) (hb : b ≤ c) : Bd c q := ⟨Nat.lt_of_lt_of_le h.1 (Nat.pow_le_pow_right (by decide) hb), Nat.lt_of_lt_of_le h.2 (Nat.pow_le_pow_right (by decide) hb)⟩
theorem Nice.bd {k : Nat} {q : Rat} (h : Nice k q) : Bd (24 * k + 1) q := h.bits
theorem Bd.sz {b : Nat} {q : Rat} (h : Bd b q) (hb : b ≤ 4000) : SzQ q := ⟨(h.mono hb).1, (h.mono hb).2⟩
theorem bd_div {n d : Int} {b : Nat} (hd : 0 < d) (hn : n.natAbs < 2 ^ b) (h : d.natAbs < 2 ^ b) : Bd b (Rat.divInt n d) := by
  refine ⟨?_, ?_⟩
  · rw [divInt_num hd]
    exact Nat.lt_of_le_of_lt (Int.natAbs_ediv_le_natAbs _ _) hn
  · have e := divInt_den (n := n) hd
    have h2 := Int.ediv_le_self (a := d) ((Nat.gcd n.natAbs d.natAbs : Nat) : Int) (by omega)
    omega
theorem Bd.add {b c : Nat} {p q : Rat} (h : Bd b p) (k : Bd c q) : Bd (b + c + 1) (p + q) := by
  have e := Rat.add_def' p q
  rw [e, ← Rat.divInt_ofNat]
  have d1 := p.den_pos
  have d2 := q.den_pos
  refine bd_div (by push_cast; exact Int.mul_pos (by omega) (by omega)) ?_ ?_
  · refine lt_sum ?_ ?_
    · exact lt_prod h.1 (by rw [Int.natAbs_natCast]; exact k.2)
    · rw [Nat.add_comm b c]
      exact lt_prod k.1 (by rw [Int.natAbs_natCast]; exact h.2)
  · push_cast
    refine Nat.lt_of_lt_of_le (lt_prod (x := (p.den : Int)) (y := (q.den : Int)) (by rw [Int.natAbs_natCast]; exact h.2) (by rw [Int.natAbs_natCast]; exact k.2)) (Nat.pow_le_pow_right (by decide) (by omega))
theorem Bd.mul {b c : Nat} {p q : Rat} (h : Bd b p) (k : Bd c q) : Bd (b + c) (p * q) := by
  have e := Rat.mul_def' p q
  rw [e, ← Rat.divInt_ofNat]
  have d1 := p.den_pos
  have d2 := q.den_pos
  refine bd_div (by push_cast; exact Int.mul_pos (by omega) (by omega)) (lt_prod h.1 k.1) ?_
  push_cast
  exact lt_prod (x := (p.den : Int)) (y := (q.den : Int)) (by rw [Int.natAbs_natCast]; exact h.2) (by rw [Int.natAbs_natCast]; exact k.2)
theorem Bd.rmax {b : Nat} {p q : Rat} (h : Bd b p) (k : Bd b q) : Bd b (rmax p q) := by unfold G.rmax; split <;> assumption
theorem Bd.zero {b : Nat} (h : 1 ≤ b) : Bd b 0 := Bd.mono (b := 1) ⟨by decide, by decide⟩ h
theorem Bd.sum {k : Nat} : ∀ {xs : List Rat}, (∀ x ∈ xs, Bd k x) → Bd (1 + xs.length * (k + 1)) xs.sum
  | [], _ => by rw [List.sum_nil]; exact Bd.zero (by omega)
  | x :: xs, h => by
    rw [List.sum_cons]
    have := (h x List.mem_cons_self).add (Bd.sum fun y hy => h y (List.mem_cons_of_mem _ hy))
    refine this.mono ?_
    rw [List.length_cons, Nat.succ_mul]; omega
end G
end

section
set_option maxRecDepth 100000
set_option maxHeartbeats 2000000
/-! enumerate(a tuple) -/
namespace GEn
open PySem PySem.Spec PyProof.Rows L2
theorem meets_enumerate_newT (l : Addr) (items : Array Value) :
    Meets (Builtin.«enumerate.__new__» ⟨[.type "enumerate", .ref l], []⟩) (fun _ R s => s.heap.IsTuple l items ∧
      R (.ok (.ret (.ref (s.heap.push { cls := .type "tuple_iterator", data := .fields #[.ref l, .int 0 0] }).objs.size)))
        { s with heap := (s.heap.push { cls := .type "tuple_iterator", data := .fields #[.ref l, .int 0 0] }).push { cls := .type "enumerate", data := .fields #[.none, .bool false, .ref s.heap.objs.size, rawInt 0, .none, .none] } }) :=
  .of_wp fun prog w A R s h => by
    obtain ⟨hp, g, d, tk, os⟩ := s; obtain ⟨hl, h⟩ := h
    have hsub := sub_enumerate
    have hL : Heap.IsTuple (Shared.heap ⟨hp, g, d, tk, os⟩) l items := hl
    wp_walk
    refine wpAny_stack_any fun st => wpAny_pure ?_
    split
    · rename_i c _ _ _ _ _
      cases (c == Value.type "enumerate")
      · wp_walk using wpAny_pyIter_tuple hL
        exact ⟨_, rfl, h⟩
      · wp_walk using wpAny_pyIter_tuple hL
        exact ⟨_, rfl, h⟩
    · wp_walk using wpAny_pyIter_tuple hL
      exact ⟨_, rfl, h⟩
theorem call_enumerate_tup {prog : Program} {w : World} {A : Around} {E : Value → Shared → Prop} {s : Shared} {l : Addr} {items : Array Value} {Q : Value → Shared → Prop} (hL : s.heap.IsTuple l items)
    (h : ∀ h', IsEnum h' (s.heap.objs.size + 1) s.heap.objs.size 0 .none → h'.IsTupleIter s.heap.objs.size l 0 → h'.objs.size = s.heap.objs.size + 2 →
      (∀ b o, s.heap.get? b = some o → h'.get? b = some o) → Q (.ref (s.heap.objs.size + 1)) { s with heap := h' }) :
    wpAny (model prog w) A (call (.type "enumerate") [.ref l]) Q E s := by
  refine callType_new F.called_enumerate (by decide) (F.typeCall_enumerate_1 _) (F.newCall_enumerate_1 _) (fun obj => F.args_object_init_2 obj _) F.entry_enumerate_new
    (meets_enumerate_newT l items) ⟨hL, ?_⟩
  have hz : (s.heap.push { cls := .type "tuple_iterator", data := .fields #[.ref l, .int 0 0] }).objs.size = s.heap.objs.size + 1 := Heap.size_push ..
  show _ ∧ _
  rw [hz]
  have he : IsEnum ((s.heap.push { cls := .type "tuple_iterator", data := .fields #[.ref l, .int 0 0] }).push
      { cls := .type "enumerate", data := .fields #[.none, .bool false, .ref s.heap.objs.size, rawInt 0, .none, .none] }) (s.heap.objs.size + 1) s.heap.objs.size 0 .none := by
    have := Heap.get?_push_size (s.heap.push { cls := .type "tuple_iterator", data := .fields #[.ref l, .int 0 0] })
      (o := { cls := .type "enumerate", data := .fields #[.none, .bool false, .ref s.heap.objs.size, rawInt 0, .none, .none] }) rfl
    rw [hz] at this; exact this
  refine ⟨⟨_, he, rfl⟩, h _ he ⟨_, Heap.get?_push_of_some _ (Heap.get?_push_size _ rfl), rfl, rfl⟩ (by rw [Heap.size_push, hz]) fun b o x => Heap.get?_push_of_some _ (Heap.get?_push_of_some _ x)⟩
def IteT (K : PySem.W.Frag) (a : Addr) : It :=
  ⟨fun i H => ∃ (xs : List V) (x : V), SqT K H a xs ∧ xs[i]? = some x, fun i H v H' => ∃ T x, v = .ref T ∧ H T = none ∧ H' = upd H T (.tup [.int (i : Nat), x]) ∧ ∀ xs, SqT K H a xs → xs[i]? = some x, fun i H => ∃ xs : List V, SqT K H a xs ∧ xs.length ≤ i⟩
theorem enum_ne_tup {h : Heap} {e it a : Addr} {i : Int} {old : Value} {items : Array Value} (he : IsEnum h e it i old) (ht : h.IsTuple a items) : e ≠ a := fun z => by
  subst z
  obtain ⟨o, ho, hc, _⟩ := ht
  have he' : h.get? e = some _ := he
  rw [ho] at he'
  injection he' with he'
  rw [he'] at hc
  exact absurd (show Value.type "enumerate" = Value.type "tuple" from hc) (by decide)
theorem it_ne_tup {h : Heap} {it a : Addr} {i : Nat} {items : Array Value} (hit : h.IsTupleIter it a i) (ht : h.IsTuple a items) : a ≠ it := fun z => by
  subst z
  obtain ⟨o, ho, hc, _⟩ := ht
  obtain ⟨o', ho', hc', _⟩ := hit
  rw [ho] at ho'
  injection ho' with ho'
  rw [← ho', hc] at hc'
  exact absurd hc' (by decide)
theorem turn_enumT {P : Program} {w : World} {K : PySem.W.Frag} {elts : List Expr} {kk : Nat} {tpos : Pos} (a e it : Addr) :
    Turn P w K (.Tuple elts kk tpos) (IteT K a) [e, it] e (fun i h => (∃ old, IsEnum h e it ((i : Nat) : Int) old) ∧ h.IsTupleIter it a i ∧ e ≠ it) where
  mem := by simp
  obj := fun i h st b hb => by
    obtain ⟨⟨old, he⟩, ⟨o, ho, hc, hd⟩, _⟩ := st
    have e' : b = e ∨ b = it := by simpa using hb
    rcases e' with z | z
    · rw [z]; exact ⟨_, he, fun v q => nomatch q⟩
    · rw [z]; exact ⟨o, ho, fun v q => by rw [hd] at q; cases q⟩
  keep := fun i h h' st k => let ⟨⟨old, he⟩, hi, hne⟩ := st; ⟨⟨old, k e (by simp) _ he⟩, hi.at fun o q => k it (by simp) o q, hne⟩
  item := by
    intro X hP hw hK hc i pins s σ H E I hf st hg
    subst hP hw hK
    obtain ⟨⟨old, he⟩, hit, hne⟩ := st
    obtain ⟨xs, x, hq, hx⟩ := hg
    obtain ⟨its, rv, p, hz⟩ := I.tuple hq
    have p : s.heap.IsTuple a its.toArray := p
    obtain ⟨u, hu, ru⟩ := rv.get hx
    have hel : e < s.heap.objs.size := Heap.lt_size he
    have hil : it < s.heap.objs.size := by obtain ⟨_, q, _⟩ := hit; exact Heap.lt_size q
    have hlt : i < its.toArray.size := by
      have := List.getElem?_eq_some_iff.mp hu
      obtain ⟨h1, _⟩ := this
      simpa using h1
    refine wpAny_pyNext_enum_itemD (Draws.tuple (A := X.A.in1) (I.ok.hd hc) it a (it_ne_tup hit p) its.toArray) he ⟨hit, p⟩ hlt hne (by
      have := enum_ne_tup he p
      simp [hne, this]) fun u' h' tk hu' ho hit' hT hsz hk => ?_
    have eu : u' = u := by
      have : its.toArray[i]? = some u := by simpa using hu
      rw [this] at hu'; exact (Option.some.inj hu').symm
    subst eu
    obtain ⟨hit', _⟩ := hit'
    refine ⟨_, rfl, wpAny_letOwnedTupleGo_enum (s := { s with heap := h', toks := tk + 1 }) ho fun h'' he' sb => ?_⟩
    have hT2 : h''.get? s.heap.objs.size = some { cls := .type "tuple", data := .seq #[.int i tk, u'] } := (sb.2 _ (Nat.ne_of_gt hel)).trans hT
    have new : ObjOk X.prog X.w (upd H s.heap.objs.size (.tup [.int (i : Nat), x])) h'' s.heap.objs.size (.tup [.int (i : Nat), x]) :=
      ⟨by show 2 ≤ sizeLine; decide, [.int i tk, u'], .cons ⟨_, rfl⟩ (.cons ru .nil), ⟨_, hT2, rfl, _, rfl⟩⟩
    have I1 : Inv X pins σ (upd H s.heap.objs.size (.tup [.int (i : Nat), x])) { s with heap := h'', toks := tk + 1 } :=
      I.turnedNew (ch := [e, it]) (fun b ob hb q => (sb.2 b (fun z => hb (by simp [z]))).trans (hk b ob (fun z => hb (by simp [z])) (fun z => hb (by simp [z])) q)) hf (Nat.le_refl _) new
    refine ⟨.ref s.heap.objs.size, _, I1, rfl, ⟨_, x, rfl, I.hok.fresh (Nat.le_refl _), rfl, fun ys hy => by rw [I.tuple_inj hy hq]; exact hx⟩, ⟨⟨u', ?_⟩, hit'.at fun o q => (sb.2 it (Ne.symm hne)).trans q, hne⟩, fun b hb => ?_⟩
    · have e1 : ((i + 1 : Nat) : Int) = (i : Int) + 1 := by omega
      rw [e1]; exact he'
    · have hb' : b < s.heap.objs.size := by
        have e' : b = e ∨ b = it := by simpa using hb
        rcases e' with z | z
        · rw [z]; exact hel
        · rw [z]; exact hil
      rw [upd_ne (Nat.ne_of_lt hb')]
      exact (hf b hb).1
  done := by
    intro X hP hw hK hc i pins s σ H E I hf st hg
    subst hP hw hK
    obtain ⟨⟨old, he⟩, hit, hne⟩ := st
    obtain ⟨xs, hq, hx⟩ := hg
    obtain ⟨its, rv, p, hz⟩ := I.tuple hq
    have p : s.heap.IsTuple a its.toArray := p
    obtain ⟨f0, f1, f2, f3, f4, f5⟩ := hf it (by simp)
    have hl := rv.length
    unfold pyNext
    have hT : s.TypeIs (.ref e) "enumerate" := ⟨_, he, rfl⟩
    refine wpAny_bind (wpAny_attempt (wpAny_callSpecial?_slot (name := Str.ofString "__next__") hT F.slot_enumerate_next
      (wpAny_call_entry F.slot_enumerate_next hT F.entry_enumerate_next ?_ (F.args_enumerate_next_1 _))))
    show wpAny _ _ (field (.ref e) 2 >>= _) _ _ _
    refine wpAny_bind (wpAny_field he rfl (x := .ref it) rfl ?_)
    refine wpAny_bind (wpAny_nextOf_tuple_end (I.ok.hd hc) hit p (by simp; omega) fun h' x he' hx' => ?_)
    obtain ⟨o, ho, hc⟩ := hx'
    refine wpAny_bind (wpAny_isInstance (T := "StopIteration") (b := true) ⟨o, ho, hc⟩ isSubtype_stop ?_)
    exact wpAny_pure ⟨rfl, I.turned (t' := s.toks) (fun b o hb q => he' b o hb q) f0 f1 f3 f4 f5⟩
  self := fun A i s Q E st h => let ⟨⟨_, he⟩, _⟩ := st; wpAny_pyIter_enum he h
def iEnumA (K : PySem.W.Frag) (ta : TA) : TI := fun σ H R => ta σ H fun vs H1 => ∃ a xs, vs = [.ref a] ∧ (SqL K H1 a xs ∧ R (Ite K a) H1 ∨ SqT K H1 a xs ∧ R (IteT K a) H1)
theorem pi_enumA {X : Cx} {e : Expr} {ta : TA} {p pos tpos : Pos} {elts : List Expr} {kk : Nat} (KK : PySem.W.Frag) (h : X.K = KK) (hg : Gl X "enumerate") (hm : X.mg "enumerate" = none) (ha : PA X [e] ta) (hs : starEach [e] X.env = [(false, eval e X.env)] := by rfl) :
    PI X (.Tuple elts kk tpos) (.Call (.Name "enumerate" p) [e] [] pos) (iEnumA KK ta) := by
  subst h
  refine ⟨fun pins s σ H R I h => ?_⟩
  refine Call_ (ld_blt I hg hm boot_enumerate (PyProof.Rows.callWith_type1 (thn (ha.run pos pins s σ H _ I h) fun us s1 ⟨vs, H1, I1, r1, q1⟩ => ?_) hs rfl))
  obtain ⟨a, xs, ex, q1⟩ := q1
  subst ex
  cases r1 with
  | cons r rr =>
    cases rr
    cases r
    have fr : ∀ b ∈ [s1.heap.objs.size + 1, s1.heap.objs.size], FpOk X pins H1 b := fun b hb => by
      have e' : b = s1.heap.objs.size + 1 ∨ b = s1.heap.objs.size := by simpa using hb
      have hle : s1.heap.objs.size ≤ b := by
        rcases e' with z | z
        · rw [z]; exact Nat.le_add_right _ _
        · rw [z]; exact Nat.le_refl _
      exact I1.fpOk hle (I1.hok.fresh hle)
    rcases q1 with ⟨hq, q⟩ | ⟨hq, q⟩
    · obtain ⟨its, rv, p', hz⟩ := I1.list hq
      refine call_enumerate_list p'.isList fun h' he hit hsz hk => wpAny_pyIter_enum he ?_
      have I2 : Inv X pins σ H1 { s1 with heap := h' } := I1.kept (t' := s1.toks) hk
      exact ⟨s1.heap.objs.size + 1, [s1.heap.objs.size + 1, s1.heap.objs.size], _, _, H1, rfl, I2, turn_enum a (s1.heap.objs.size + 1) s1.heap.objs.size, ⟨⟨.none, he⟩, hit, Nat.succ_ne_self _⟩, fr, q⟩
    · obtain ⟨its, rv, p', hz⟩ := I1.tuple hq
      refine call_enumerate_tup (items := its.toArray) p' fun h' he hit hsz hk => wpAny_pyIter_enum he ?_
      have I2 : Inv X pins σ H1 { s1 with heap := h' } := I1.kept (t' := s1.toks) hk
      exact ⟨s1.heap.objs.size + 1, [s1.heap.objs.size + 1, s1.heap.objs.size], _, _, H1, rfl, I2, turn_enumT a (s1.heap.objs.size + 1) s1.heap.objs.size, ⟨⟨.none, he⟩, hit, Nat.succ_ne_self _⟩, fr, q⟩
end GEn
namespace G
open PySem PySem.Spec PyProof.Rows L2
section
variable {C : Cl} {B : Bs} {Γ : List Sl} {KK : PySem.W.Frag}
theorem yl_enumT {W1 : Hp} {a : Addr} {vs : List V} {l : List D} (ha : W1 a = some (.tup vs)) (r : RepL C B.P W1 vs l) : Yl C B (GEn.IteT KK a) W1 (enumD l) where
  stop := fun H s _ => ⟨vs, SqT.of (s _ _ ha), by simp [enumD, r.length]⟩
  go := fun i W H hi s1 s2 pl => by
    have hi' : i < l.length := by simpa [enumD] using hi
    have hv : i < vs.length := by rw [r.length]; exact hi'
    refine ⟨⟨vs, vs[i], SqT.of (s2 _ _ (s1 _ _ ha)), by simp [hv]⟩, fun x H' ⟨T, x0, e1, e2, e3, y⟩ => ?_⟩
    subst e1; subst e3
    obtain ⟨d, h1, h2⟩ := (r.mono s1).getV (y vs (SqT.of (s2 _ _ (s1 _ _ ha))))
    have st := Stp.new (C := C) (P := B.P) (S := noS) (o := .tup [.int (i : Nat), x0]) s2 e2 pl.ne
    exact ⟨_, .tup [.int (i : Nat), d], st, by simp [enumD, h1], .tup upd_same (.cons (.int _) (.one (h2.mono st.ww)))⟩
theorem yl_enumM {W1 : Hp} {a : Addr} {vs : List V} {l : List D} (ha : C.m a = some (.lst vs)) (r : RepL C B.P W1 vs l) : Yl C B (Ite KK a) W1 (enumD l) where
  stop := fun H s z => ⟨vs, SqL.of (z _ _ ha), by simp [enumD, r.length]⟩
  go := fun i W H hi s1 s2 pl => by
    have hi' : i < l.length := by simpa [enumD] using hi
    have hv : i < vs.length := by rw [r.length]; exact hi'
    have hq : SqL KK H a vs := SqL.of (pl.rg _ _ ha).1
    refine ⟨⟨vs, vs[i], hq, by simp [hv]⟩, fun x H' ⟨T, x0, e1, e2, e3, y⟩ => ?_⟩
    subst e1; subst e3
    obtain ⟨d, h1, h2⟩ := (r.mono s1).getV (y vs hq)
    have st := Stp.new (C := C) (P := B.P) (S := noS) (o := .tup [.int (i : Nat), x0]) s2 e2 pl.ne
    exact ⟨_, .tup [.int (i : Nat), d], st, by simp [enumD, h1], .tup upd_same (.cons (.int _) (.one (h2.mono st.ww)))⟩
theorem ik_enumA {ta : TA} {K : List D → Prop} (h : AK C B Γ ta fun l => ∃ k xs, l = [Kd.d k xs] ∧ K (enumD xs)) : IK C B Γ (GEn.iEnumA KK ta) K := fun W H σ e R q =>
  h W H σ e _ fun l vs W1 H1 s1 r1 ⟨k, xs, e0, hk⟩ => by
    subst e0
    cases r1 with
    | cons r rr =>
      cases rr
      cases k with
      | l => cases r with
        | lst ha r => exact ⟨_, _, rfl, .inl ⟨SqL.of (s1.wh _ _ ha), q _ W1 H1 _ s1 (yl_enum ha r) hk⟩⟩
      | t => cases r with
        | tup ha r => exact ⟨_, _, rfl, .inr ⟨SqT.of (s1.wh _ _ ha), q _ W1 H1 _ s1 (yl_enumT ha r) hk⟩⟩
      | m => cases r with
        | mls ha r => exact ⟨_, _, rfl, .inl ⟨SqL.of ((e.pl.step s1).rg _ _ ha).1, q _ W1 H1 _ s1 (yl_enumM ha r) hk⟩⟩
end
/-! ### None in a list of pairs -/
def pairP (p : Int × Int) : D := .tup [.int p.1, .int p.2]
section
variable {C : Cl} {B : Bs} {Γ : List Sl} {KK : PySem.W.Frag}
theorem dp_pairs {P : Option Addr} {W H : Hp} (s : Same W H) : ∀ {ps : List (Int × Int)} {vs : List V}, RepL C P W vs (ps.map pairP) → DpAll KK H vs (ps.map fun p => .tuple [.int p.1, .int p.2])
  | [], _, r => by cases r; exact .nil
  | p :: ps, _, r => by
    cases r with
    | cons r rr =>
      cases r with
      | tup ha r =>
        cases r with
        | cons r1 r2 =>
          cases r2 with
          | cons r2 r3 =>
            cases r1; cases r2; cases r3
            exact .cons (.tup (SqT.of (s _ _ ha)) (.cons (.int _) (.cons (.int _) .nil))) (dp_pairs s rr)
theorem shaped_pairs : ∀ (ps : List (Int × Int)), PyData.canLayAll0 (ps.map fun p => PyData.tuple [.int p.1, .int p.2]) = true ∧ PyData.depthAll (ps.map fun p => PyData.tuple [.int p.1, .int p.2]) ≤ 2
  | [] => ⟨by simp [PyData.canLayAll0], by simp [PyData.depthAll]⟩
  | p :: ps => by
    obtain ⟨h1, h2⟩ := shaped_pairs ps
    refine ⟨by simp [PyData.canLayAll0, PyData.canLay0, h1], ?_⟩
    simp only [List.map_cons, PyData.depthAll, PyData.depth]
    omega
theorem rk_nonIn {ps : List (Int × Int)} {K : D → Prop} (k : K (.bl false)) : RK C B (rInD KK) .non (.lst (ps.map pairP)) K := fun W H hw pl v1 v2 r1 r2 Q q => by
  cases r1
  cases r2 with
  | lst ha r =>
    obtain ⟨h1, h2⟩ := shaped_pairs ps
    refine ⟨.none, ps.map fun p => .tuple [.int p.1, .int p.2], .non, .lst (SqL.of (hw _ _ ha)) (dp_pairs hw r), by simp [SeqAt.shaped, PyData.canLay0, PyData.depth], ?_, ?_⟩
    · simp only [SeqAt.shaped, PyData.canLay0, PyData.depth, h1, Bool.true_and]
      exact decide_eq_true (by omega)
    · have e : (ps.map fun p => PyData.tuple [.int p.1, .int p.2]).any (fun z => PyData.eqv z .none) = false := by
        rw [List.any_eq_false]
        intro z hz
        obtain ⟨p, _, rfl⟩ := List.mem_map.mp hz
        simp [PyData.eqv]
      rw [e]
      exact q _ _ W H (.refl hw) (.bl _) k
theorem op_nonIn {X : Cx} (h : X.K = KK) {k : Nat} (hr : Room k X.A) : OpR X (compareOp .In) (rInD KK) := h ▸ op_inD (by
  have := hr.un
  omega)
end
end G
/-! ### plain existentials that the rules leave -/
namespace G
open PySem PySem.Spec PyProof.Rows L2
theorem x_bl {b : Bool} {p : Bool → Prop} (h : p b) : ∃ b', D.bl b = D.bl b' ∧ p b' := ⟨b, rfl, h⟩
theorem x_int {i : Int} {p : Int → Prop} (h : p i) : ∃ j, D.int i = D.int j ∧ p j := ⟨i, rfl, h⟩
theorem x_frac {q : Rat} {p : Rat → Prop} (h : p q) : ∃ j, D.frac q = D.frac j ∧ p j := ⟨q, rfl, h⟩
theorem x_lst {l : List D} {p : Kd → List D → Prop} (h : p .l l) : ∃ k m, D.lst l = Kd.d k m ∧ p k m := ⟨.l, l, rfl, h⟩
theorem x_tup {l : List D} {p : Kd → List D → Prop} (h : p .t l) : ∃ k m, D.tup l = Kd.d k m ∧ p k m := ⟨.t, l, rfl, h⟩
theorem x_kd {k : Kd} {l : List D} {p : Kd → List D → Prop} (h : p k l) : ∃ k' m, Kd.d k l = Kd.d k' m ∧ p k' m := ⟨k, l, rfl, h⟩
theorem x_at {l : List D} {i : Int} {x : D} {p : Int → D → Prop} (h1 : atI l i = some x) (h : p i x) : ∃ j y, D.int i = D.int j ∧ atI l j = some y ∧ p j y := ⟨i, x, rfl, h1, h⟩
theorem x_dic {l : List (Key × D)} {x : Str} {y : D} {p : List (Key × D) → D → Prop} (h1 : valD l (.inr x) = some y) (h : p l y) : ∃ m z, D.dic l = D.dic m ∧ valD m (.inr x) = some z ∧ p m z := ⟨l, y, rfl, h1, h⟩
theorem x_r1 {j : Int} {p : Int → Prop} (h1 : -(2 ^ 62) ≤ j) (h2 : j < 2 ^ 62) (h : p j) : ∃ i : Int, [D.int j] = [D.int i] ∧ -(2 ^ 62) ≤ i ∧ i < 2 ^ 62 ∧ p i := ⟨j, rfl, h1, h2, h⟩
theorem x_one {l : List D} {k : Kd} {p : Kd → List D → Prop} (h : p k l) : ∃ k' m, [Kd.d k l] = [Kd.d k' m] ∧ p k' m := ⟨k, l, rfl, h⟩
theorem x_oneL {l : List D} {p : Kd → List D → Prop} (h : p .l l) : ∃ k' m, [D.lst l] = [Kd.d k' m] ∧ p k' m := ⟨.l, l, rfl, h⟩
theorem x_oneT {l : List D} {p : Kd → List D → Prop} (h : p .t l) : ∃ k' m, [D.tup l] = [Kd.d k' m] ∧ p k' m := ⟨.t, l, rfl, h⟩
theorem x_len {l : List D} {p : Prop} (h1 : Nat.ble l.length 1000 = true) (h : p) : l.length ≤ sizeLine ∧ p := ⟨Nat.le_of_lt (small1000 (Nat.le_of_ble_eq_true h1)), h⟩
theorem x_lenD {l : List (Key × D)} {p : D → Prop} (h0 : (l.map (·.1)).Nodup) (h1 : Nat.ble l.length 15 = true) (h : p (.dic l)) : (l.map (·.1)).Nodup ∧ l.length ≤ 15 ∧ p (.dic l) := ⟨h0, Nat.le_of_ble_eq_true h1, h⟩
end G

/-! ### a, b = a list or a tuple -/
namespace G
open PySem PySem.Spec PyProof.Rows L2
def gAny (K : PySem.W.Frag) (n : Nat) (t : TGs) : TG := fun v σ H Q => gTup K n t v σ H Q ∨ gLst K n t v σ H Q
theorem pg_anyK {X : Cx} {pos : Pos} {es : List Expr} {k : Nat} {t : TGs} {n : Nat} (KK : PySem.W.Frag) (h : X.K = KK) (hc : X.calm = true) (hg : PGs X es t)
    (hn : (assignEach es X.env).length = n := by rfl) (hst : (assignEach es X.env).findIdx? (·.1) = none := by rfl) : PG X (.Tuple es k pos) (gAny KK n t) := ⟨fun pins s σ H v u Q I r hw => by
  subst h
  rcases hw with hw | hw
  · exact (pg_tup hc hg hn hst).run pins s σ H v u Q I r hw
  · exact (pg_lst hc hg hn hst).run pins s σ H v u Q I r hw⟩
section
variable {C : Cl} {B : Bs} {Γ : List Sl} {KK : PySem.W.Frag}
theorem gk_anyT {n : Nat} {gs : TGs} {l : List D} {K : List Sl → Prop} (hn : l.length = n) (h : GKs C B Γ gs l K) : GK C B Γ (gAny KK n gs) (.tup l) K := fun W H σ v e r Q q => .inl (gk_tupL hn h W H σ v e r Q q)
theorem gk_anyL {n : Nat} {gs : TGs} {l : List D} {K : List Sl → Prop} (hn : l.length = n) (h : GKs C B Γ gs l K) : GK C B Γ (gAny KK n gs) (.lst l) K := fun W H σ v e r Q q => .inr (by
  cases r with
  | lst ha rl => exact ⟨_, _, rfl, SqL.of (e.wh _ _ ha), rl.length.trans hn, h W H σ _ e rl Q q⟩)
theorem gk_anyM {n : Nat} {gs : TGs} {l : List D} {K : List Sl → Prop} (hn : l.length = n) (h : GKs C B Γ gs l K) : GK C B Γ (gAny KK n gs) (.mls l) K := fun W H σ v e r Q q => .inr (by
  cases r with
  | mls ha rl => exact ⟨_, _, rfl, SqL.of (e.pl.rg _ _ ha).1, rl.length.trans hn, h W H σ _ e rl Q q⟩)
theorem gk_anyK {k : Kd} {n : Nat} {gs : TGs} {l : List D} {K : List Sl → Prop} (hn : l.length = n) (h : GKs C B Γ gs l K) : GK C B Γ (gAny KK n gs) (Kd.d k l) K := by
  cases k
  · exact gk_anyL hn h
  · exact gk_anyT hn h
  · exact gk_anyM hn h
theorem gks_consA {n i j : Nat} {gs : TGs} {x y : D} {l : List D} {K : List Sl → Prop} (h : GKs C B ((Γ.set i (.d x)).set j (.d y)) gs l K) (hi : isSlot Γ i = true := by rfl) (hj : isSlot Γ j = true := by rfl) :
    GKs C B Γ (gCons (gAny KK 2 (gCons (gName i) (gCons (gName j) gNil))) gs) (.tup [x, y] :: l) K := fun W H σ vs e r Q q => by
  obtain ⟨u, us, h1, h2⟩ := gks_consT (KK := KK) (n := n) h hi hj W H σ vs e r Q q
  exact ⟨u, us, h1, .inl h2⟩
theorem cg_anyT {n : Nat} {gs : TGs} {l : List D} {vs : List Nat} {K : List Sl → Prop} (hn : l.length = n) (h : CGs C B Γ gs l vs K) : CG C B Γ (gAny KK n gs) (.tup l) vs K := fun W H σ v ow e o r Q q => .inl (cg_tup hn h W H σ v ow e o r Q q)
theorem cg_anyL {n : Nat} {gs : TGs} {l : List D} {vs : List Nat} {K : List Sl → Prop} (hn : l.length = n) (h : CGs C B Γ gs l vs K) : CG C B Γ (gAny KK n gs) (.lst l) vs K := fun W H σ v ow e o r Q q => .inr (by
  cases r with
  | lst ha rl => exact ⟨_, _, rfl, SqL.of (e.wh _ _ ha), rl.length.trans hn, h W H σ _ ow e o rl Q q⟩)
theorem cg_anyM {n : Nat} {gs : TGs} {l : List D} {vs : List Nat} {K : List Sl → Prop} (hn : l.length = n) (h : CGs C B Γ gs l vs K) : CG C B Γ (gAny KK n gs) (.mls l) vs K := fun W H σ v ow e o r Q q => .inr (by
  cases r with
  | mls ha rl => exact ⟨_, _, rfl, SqL.of (e.pl.rg _ _ ha).1, rl.length.trans hn, h W H σ _ ow e o rl Q q⟩)
theorem cg_anyK {k : Kd} {n : Nat} {gs : TGs} {l : List D} {vs : List Nat} {K : List Sl → Prop} (hn : l.length = n) (h : CGs C B Γ gs l vs K) : CG C B Γ (gAny KK n gs) (Kd.d k l) vs K := by
  cases k
  · exact cg_anyL hn h
  · exact cg_anyT hn h
  · exact cg_anyM hn h
end
end G
end

section
set_option maxRecDepth 100000
set_option maxHeartbeats 2000000
/-! promises for a family of pools -/
namespace G
open PySem PySem.Spec PyProof.Rows L2
/-- the same classes and pool, whatever may be read but not kept -/
structure Fam (F : Hp → Cl) : Prop where
  frac : ∀ n m, (F n).frac = (F m).frac
  cls : ∀ n m, (F n).cls = (F m).cls
  pk : ∀ n m W o, (F n).pk W o → (F m).pk W o
  m : ∀ n, (F n).m = n
def SpFam (F : Hp → Cl) (S : List D → (D → Prop) → Prop) : Sp := fun vs H Q E => ∃ n, SpOf (F n) S vs H Q E
def SpFamI (F : Hp → Cl) (A : Addr) (S : List D → (List (Str × D) → Prop) → Prop) : Sp := fun vs H Q E => ∃ n, SpI (F n) A S vs H Q E
section
variable {F : Hp → Cl} {n : Hp} {B : Bs} {Γ : List Sl} {ta : TE} {t : TA} {K : D → Prop}
theorem ek_callF {S : List D → (D → Prop) → Prop} {t : TA} (h : AK (F n) B Γ t fun l => S l K) : EK (F n) B Γ (tCall (SpFam F S) [] E0 t) K := fun W H σ e Q q =>
  h W H σ e _ fun l vs W1 H1 s1 r1 h1 => ⟨n, B.P, W1, l, K, s1.wh, e.pl.step s1, by rw [List.append_nil]; exact r1, h1, fun d v W3 H3 k s3 r3 => q d v W3 H3 (s1.trans s3) r3 k⟩
theorem ek_methFF {A : Addr} (hA : (F n).frac = A) {S : List D → (D → Prop) → Prop} {m : Str} (hl : ∀ q, (fracF q).lookup m = none)
    (h : EK (F n) B Γ ta fun d0 => ∃ q, d0 = .frac q ∧ AK (F n) B Γ t fun l => S (.frac q :: l) K) : EK (F n) B Γ (tMeth A m (SpFam F S) [] E0 ta t) K := fun W H σ e Q q =>
  h W H σ e _ fun d0 v0 W1 H1 s1 r1 ⟨x, e0, h1⟩ => by
    subst e0; subst hA
    obtain ⟨a, dx, rfl, ha⟩ := rep_frac r1
    refine ⟨a, dx, _, rfl, s1.wh _ _ ha, hl x, h1 W1 H1 σ (e.step s1) _ fun l vs W2 H2 s2 r2 h2 => ?_⟩
    rw [List.append_nil]
    exact ⟨n, B.P, W2, .frac x :: l, K, s2.wh, (e.pl.step s1).step s2, .cons (r1.mono s2.ww) r2, h2, fun d v W3 H3 k s3 r3 => q d v W3 H3 ((s1.trans s2).trans s3) r3 k⟩
theorem rk_ownF {A : Addr} (hA : (F n).frac = A) {S : List D → (D → Prop) → Prop} {p q : Rat} (h : S [.frac p, .frac q] K) : RK (F n) B (rOwn A (SpFam F S)) (.frac p) (.frac q) K := fun W H hw pl v1 v2 r1 r2 Q k => by
  subst hA
  obtain ⟨a, dx, e1, ha⟩ := rep_frac r1
  obtain ⟨b, dy, e2, hb⟩ := rep_frac r2
  exact ⟨a, b, dx, dy, _, _, e1, e2, hw _ _ ha, hw _ _ hb, n, B.P, W, _, K, hw, pl, .cons r1 (.one r2), h, fun d v W' H' kd s r => k d v W' H' s r kd⟩
/-- the making of an object: what is left to be done behind the arguments -/
theorem make_run {A : Addr} {S : List D → (List (Str × D) → Prop) → Prop} {dvs : List V} {dds : List D} {W H W1 H1 : Hp} {vs : List V} {l : List D} (s1 : Stp (F n) B.P noS W H W1 H1) (pl : PlOk (F n) B.P W1 H1) (r1 : RepL (F n) B.P W1 vs l) (hd : ∀ W, RepL (F n) B.P W dvs dds)
    (R : List (Str × D) → D → Prop) (hR : ∀ (W : Hp) (x dx : Addr) (fs : List (Str × V)) (fl : List (Str × D)) (d : D), R fl d → W x = some (.ins A dx fs) → fs.map (·.1) = fl.map (·.1) → RepL (F n) B.P W (fs.map (·.2)) (fl.map (·.2)) → Rep (F n) B.P W (.ref x) d)
    (h1 : S (l ++ dds) fun fl => ∃ d, R fl d ∧ K d) (Q : VK) (q : ∀ d v W' H', Stp (F n) B.P noS W H W' H' → Rep (F n) B.P W' v d → K d → Q v H') (x dx : Addr) (hx : H1 x = none) (hdx : H1 dx = none) (hne : x ≠ dx) :
    SpFamI F A S (.ref x :: (vs ++ dvs)) (upd (upd H1 dx (.own x)) x (.ins A dx [])) (fun v H' => v = .non ∧ Q (.ref x) H') E0 := by
  have hP : B.P ≠ some x := fun z => pl.ne x z hx
  have hP2 : B.P ≠ some dx := fun z => pl.ne dx z hdx
  have nW : ∀ a, H1 a = none → W1 a = none := fun a ha => by
    cases z : W1 a with
    | none => rfl
    | some o => rw [s1.wh _ _ z] at ha; cases ha
  have up : ∀ a o, H1 a = some o → (upd (upd H1 dx (.own x)) x (.ins A dx [])) a = some o := fun a o ha => by
    rw [upd_ne (ne_of_none ha hx), upd_ne (ne_of_none ha hdx)]; exact ha
  refine ⟨n, B.P, W1, x, dx, vs ++ dvs, l ++ dds, _, rfl, upd_same, nW x hx, hP, ?_, fun a o z => up a o (s1.wh a o z), ⟨fun a z => ?_, fun a o z => ?_⟩, r1.append (hd W1), h1, fun fl fs dx' W' H' ⟨d, hRd, kd⟩ st g1 g2 g3 g4 => ⟨rfl, ?_⟩⟩
  · cases z : (F n).m x with
    | none => rfl
    | some o => rw [(pl.rg x o z).1] at hx; cases hx
  · have hax : a ≠ x := fun y => by subst y; exact hP z
    have had : a ≠ dx := fun y => by subst y; exact hP2 z
    rw [upd_ne hax, upd_ne had]
    exact pl.po a z
  · obtain ⟨z1, z2, z3⟩ := pl.rg a o z
    exact ⟨up a o z1, z2, z3⟩
  · have ww : Same W' (upd W' x (.ins A dx' fs)) := fun a o z => by
      rw [upd_ne (fun y => by subst y; rw [g2] at z; cases z)]; exact z
    refine q d (.ref x) (upd W' x (.ins A dx' fs)) H' ⟨(s1.ww.trans st.ww).trans ww, fun a o z => ?_, fun a o z p _ => ?_, fun a o z => ?_, fun a o z => ?_, fun a z w => ?_⟩ (hR _ x dx' fs fl d hRd upd_same g3 (g4.mono ww)) kd
    · by_cases ha : a = x
      · subst ha; rw [upd_same] at z; cases z; exact g1
      · rw [upd_ne ha] at z; exact st.wh a o z
    · have z1 := s1.hh a o z p (fun y => nomatch y)
      exact st.hh a o (up a o z1) p fun y => by cases y; rw [hx] at z1; cases z1
    · obtain ⟨o1, z1⟩ := s1.dom a o z
      exact st.dom a o1 (up a o1 z1)
    · obtain ⟨o1, z1⟩ := s1.dom a o z
      rw [upd_ne (ne_of_none z1 hx)]
      exact (st.old a o1 (up a o1 z1)).trans (s1.old a o z)
    · have w1 := s1.pool a z w
      obtain ⟨o1, z1⟩ := (F n).pks w1
      refine (F n).pkm ww (st.pool a z ?_)
      rw [up a o1 z1, ← z1]
      exact w1

theorem ek_makeF {A : Addr} {S : List D → (List (Str × D) → Prop) → Prop} {dvs : List V} {dds : List D} {t : TA} (hd : ∀ W, RepL (F n) B.P W dvs dds) (R : List (Str × D) → D → Prop)
    (hR : ∀ (W : Hp) (x dx : Addr) (fs : List (Str × V)) (fl : List (Str × D)) (d : D), R fl d → W x = some (.ins A dx fs) → fs.map (·.1) = fl.map (·.1) → RepL (F n) B.P W (fs.map (·.2)) (fl.map (·.2)) → Rep (F n) B.P W (.ref x) d)
    (h : AK (F n) B Γ t fun l => S (l ++ dds) fun fl => ∃ d, R fl d ∧ K d) : EK (F n) B Γ (tMake A (SpFamI F A S) dvs E0 t) K := fun W H σ e Q q =>
  h W H σ e _ fun l vs W1 H1 s1 r1 h1 x dx hx hdx hne => make_run s1 (e.pl.step s1) r1 hd R hR h1 Q q x dx hx hdx (fun z => hne z.symm)
theorem obj_rep {A : Addr} {c : Nat} (hA : (F n).cls c = A) (W : Hp) (x dx : Addr) (fs : List (Str × V)) (fl : List (Str × D)) (d : D) (e : d = .obj c fl) (h1 : W x = some (.ins A dx fs)) (h2 : fs.map (·.1) = fl.map (·.1)) (h3 : RepL (F n) B.P W (fs.map (·.2)) (fl.map (·.2))) : Rep (F n) B.P W (.ref x) d := by
  subst e; subst hA; exact .obj h1 h2 h3
theorem frac_rep {A : Addr} (hA : (F n).frac = A) (W : Hp) (x dx : Addr) (fs : List (Str × V)) (fl : List (Str × D)) (d : D) (e : ∃ q : Rat, fl = fracL q ∧ d = .frac q) (h1 : W x = some (.ins A dx fs)) (h2 : fs.map (·.1) = fl.map (·.1)) (h3 : RepL (F n) B.P W (fs.map (·.2)) (fl.map (·.2))) : Rep (F n) B.P W (.ref x) d := by
  obtain ⟨q, e1, e2⟩ := e
  subst e1; subst e2; subst hA
  match fs, h2, h3 with
  | [(a, v), (b, u)], h2, h3 =>
    have ha : a = "num" := by have := congrArg List.head? h2; simpa [fracL] using this
    have hb : b = "den" := by have := congrArg (fun l => l[1]?) h2; simpa [fracL] using this
    subst ha; subst hb
    cases h3 with
    | cons g1 g2 =>
      cases g2 with
      | cons g2 g3 =>
        cases g1; cases g2; cases g3
        exact .frac h1
theorem ek_mkOF {A : Addr} {c : Nat} (hA : (F n).cls c = A) {S : List D → (List (Str × D) → Prop) → Prop} {t : TA} (h : AK (F n) B Γ t fun l => S l fun fl => K (.obj c fl)) : EK (F n) B Γ (tMake A (SpFamI F A S) [] E0 t) K :=
  ek_makeF (dds := []) (fun _ => .nil) (fun fl d => d = .obj c fl) (fun W x dx fs fl d e h1 h2 h3 => obj_rep hA W x dx fs fl d e h1 h2 h3) (fun W H σ e Q q => h W H σ e Q fun l vs W' H' s r k => q l vs W' H' s r (by
    have : (fun fl => ∃ d, d = D.obj c fl ∧ K d) = fun fl => K (.obj c fl) := by
      funext fl; exact propext ⟨fun ⟨d, e, k⟩ => e ▸ k, fun k => ⟨_, rfl, k⟩⟩
    rw [this]; show S (l ++ []) _; rw [List.append_nil]; exact k))
theorem ek_mkFF {A : Addr} (hA : (F n).frac = A) {S : List D → (List (Str × D) → Prop) → Prop} {dvs : List V} {dds : List D} {t : TA} (hd : ∀ W, RepL (F n) B.P W dvs dds)
    (h : AK (F n) B Γ t fun l => S (l ++ dds) fun fl => ∃ q : Rat, fl = fracL q ∧ K (.frac q)) : EK (F n) B Γ (tMake A (SpFamI F A S) dvs E0 t) K :=
  ek_makeF hd (fun fl d => ∃ q : Rat, fl = fracL q ∧ d = .frac q) (fun W x dx fs fl d e h1 h2 h3 => frac_rep hA W x dx fs fl d e h1 h2 h3) (fun W H σ e Q q => h W H σ e Q fun l vs W' H' s r k => q l vs W' H' s r (by
    have : (fun fl => ∃ d, (∃ q : Rat, fl = fracL q ∧ d = D.frac q) ∧ K d) = fun fl : List (Str × D) => ∃ q : Rat, fl = fracL q ∧ K (.frac q) := by
      funext fl; exact propext ⟨fun ⟨d, ⟨q, e1, e2⟩, k⟩ => ⟨q, e1, e2 ▸ k⟩, fun ⟨q, e1, k⟩ => ⟨_, ⟨q, e1, rfl⟩, k⟩⟩
    rw [this]; exact k))
end
/-! defs that keep such promises -/
section
variable {P : Program} {w : World} {K : PySem.W.Frag} {mg : Str → Option Value} {base : Heap} {k : Nat} {x : Str} {st : Stmt} {N ps : List Str} {F : Hp → Cl}
theorem cal_mkF {S : List D → (D → Prop) → Prop} (g : mg x = some (.ref (He.ga K x))) (Fd : ∃ fd, FnP K x st fd) (sc : FnScope N ps (defScope st))
    (b : ∀ (kV doc pm : Value) (an : Option Addr) (cdv ct : Value) (us : List Value), us.length = ps.length → bindArgs (PySem.W.fnOf x x (defArgs st) (defBody st) (defScope st) .none kV doc pm an cdv ct) ⟨us, []⟩ = pure (ps.zip us))
    (len : ∀ l K, S l K → l.length = ps.length)
    (hb : ∀ (f : Addr) (cdv : Value) (A : Around) (outer : List Env) (s : Shared) (H : Hp) (E : XK), Room k (A.deeper (envOfC x (defScope st) s.heap.objs.size f cdv)) →
      ∃ t, PSs (cxOf (L2.CX P w) P w K mg base N x (defScope st) f cdv A outer s H E).nox (defBody st) t ∧ ∀ n B l K, S l K → SX (F n) B (G0 N l) t (fun _ => K .non) (fun _ => K) (fun _ => False) (fun _ => False)) : Cal P w K mg base (k + 1) x ps (SpFam F S) := by
  obtain ⟨fd, Fd⟩ := Fd
  refine ⟨g, Fd.kp, fd, Fd.ok sc (fun vs H Q E ⟨n, P, W, l, K, _, _, r, hS, _⟩ => r.length.trans (len l K hS)) fun cdv A outer s H vs Q E hr ⟨n, hsp⟩ => ?_, Fd.bindsN b⟩
  obtain ⟨t, h1, h2⟩ := hb _ cdv A outer s H E hr
  exact ⟨t, h1.nox, sp_body (h2 n) vs H Q E hsp⟩
theorem mth_mkF {qual : Str} {params : Arguments} {body : List Stmt} {scope : Scope} {f : Addr} {S : List D → (D → Prop) → Prop} (Fd : ∃ fd, FunD K x qual params body scope [] [] f fd) (sc : FnScope N ps scope)
    (b : ∀ (kV doc pm : Value) (an : Option Addr) (cdv ct : Value) (us : List Value), us.length = ps.length → bindArgs (PySem.W.fnOf x qual params body scope .none kV doc pm an cdv ct) ⟨us, []⟩ = pure (ps.zip us))
    (len : ∀ l K, S l K → l.length = ps.length)
    (hb : ∀ (f : Addr) (cdv : Value) (A : Around) (outer : List Env) (s : Shared) (H : Hp) (E : XK), Room k (A.deeper (envOfC qual scope s.heap.objs.size f cdv)) →
      ∃ t, PSs (cxOf (L2.CX P w) P w K mg base N qual scope f cdv A outer s H E).nox body t ∧ ∀ n B l K, S l K → SX (F n) B (G0 N l) t (fun _ => K .non) (fun _ => K) (fun _ => False) (fun _ => False)) :
    ∃ fd, FnOk P w K mg base (L2.CX P w) (k + 1) f fd ps (SpFam F S) ∧ Binds K fd ps [] := by
  obtain ⟨fd, Fd⟩ := Fd
  refine ⟨fd, Fd.ok sc (fun vs H Q E ⟨n, P, W, l, K, _, _, r, hS, _⟩ => r.length.trans (len l K hS)) fun cdv A outer s H vs Q E hr ⟨n, hsp⟩ => ?_, Fd.bindsN b⟩
  obtain ⟨t, h1, h2⟩ := hb _ cdv A outer s H E hr
  exact ⟨t, h1.nox, sp_body (h2 n) vs H Q E hsp⟩
theorem init_mkF {qual : Str} {params : Arguments} {body : List Stmt} {scope : Scope} {f : Addr} {dvs : List V} {kws : List (Str × V)} {S : List D → (List (Str × D) → Prop) → Prop} {A0 : Addr} {self : Str} {fd : FuncData} (Fd : FunD K x qual params body scope dvs kws f fd) (sc : FnScope (self :: N) ps scope) (len : ∀ l K, S l K → l.length + 1 = ps.length)
    (hb : ∀ (f : Addr) (cdv : Value) (A : Around) (outer : List Env) (s : Shared) (H : Hp) (E : XK), Room k (A.deeper (envOfC qual scope s.heap.objs.size f cdv)) →
      ∃ t, PSs (cxOf (L2.CX P w) P w K mg base (self :: N) qual scope f cdv A outer s H E).nox body t ∧ ∀ n B l K, S l K → SX (F n) B (.ins A0 [] :: G0 N l) t (fun Γ => ∃ fl, Γ[0]? = some (.ins A0 fl) ∧ K fl) (fun _ _ => False) (fun _ => False) (fun _ => False)) :
    FnOk P w K mg base (L2.CX P w) (k + 1) f fd ps (SpFamI F A0 S) :=
  Fd.ok sc (fun vs H Q E ⟨n, P, W, p, dx, us, l, K, e, _, _, _, _, _, _, r, hS, _⟩ => by rw [e, List.length_cons, r.length]; exact len l K hS) fun cdv A outer s H vs Q E hr ⟨n, hsp⟩ => by
    obtain ⟨t, h1, h2⟩ := hb _ cdv A outer s H E hr
    exact ⟨t, h1.nox, sp_bodyI (h2 n) vs H Q E hsp⟩
end
end G
end

section
set_option maxRecDepth 100000
set_option maxHeartbeats 2000000
/-! lists that a frame may change: made, stored into, handed over, handed back -/
namespace G
open PySem PySem.Spec PyProof.Rows L2
mutual
theorem Rep.cl {C C' : Cl} (hf : C.frac = C'.frac) (hc : C.cls = C'.cls) (hm : Same C.m C'.m) {P : Option Addr} {W : Hp} : ∀ {v : V} {d : D}, Rep C P W v d → Rep C' P W v d
  | _, _, .non => .non
  | _, _, .bl b => .bl b
  | _, _, .int i => .int i
  | _, _, .str i => .str i
  | _, _, .lst h r => .lst h (RepL.cl hf hc hm r)
  | _, _, .tup h r => .tup h (RepL.cl hf hc hm r)
  | _, _, .raw h r => .raw h (RepL.cl hf hc hm r)
  | _, _, .mls h r => .mls (hm _ _ h) (RepL.cl hf hc hm r)
  | _, _, .adr a => .adr a
  | _, _, .frac h => .frac (hf ▸ h)
  | _, _, .obj h e r => .obj (hc ▸ h) e (RepL.cl hf hc hm r)
  | _, _, .dic h e r => .dic h e (RepL.cl hf hc hm r)
  | _, _, .pool h => .pool h
  | _, _, .ty n => .ty n
  | _, _, .cls n => .cls n
theorem RepL.cl {C C' : Cl} (hf : C.frac = C'.frac) (hc : C.cls = C'.cls) (hm : Same C.m C'.m) {P : Option Addr} {W : Hp} : ∀ {vs : List V} {l : List D}, RepL C P W vs l → RepL C' P W vs l
  | _, _, .nil => .nil
  | _, _, .cons h r => .cons (Rep.cl hf hc hm h) (RepL.cl hf hc hm r)
end
/-- nothing in it that may only be read -/
inductive NoM : D → Prop where
  | non : NoM .non
  | bl (b : Bool) : NoM (.bl b)
  | int (i : Int) : NoM (.int i)
  | str (s : Str) : NoM (.str s)
  | frac (q : Rat) : NoM (.frac q)
  | pool : NoM .pool
  | ty (n : String) : NoM (.ty n)
  | cls (a : Addr) : NoM (.cls a)
  | adr (a : Addr) : NoM (.adr a)
  | lst {l : List D} (h : ∀ x ∈ l, NoM x) : NoM (.lst l)
  | tup {l : List D} (h : ∀ x ∈ l, NoM x) : NoM (.tup l)
  | raw {l : List D} (h : ∀ x ∈ l, NoM x) : NoM (.raw l)
  | obj {c : Nat} {l : List (Str × D)} (h : ∀ x ∈ l.map (·.2), NoM x) : NoM (.obj c l)
  | dic {l : List (Key × D)} (h : ∀ x ∈ l.map (·.2), NoM x) : NoM (.dic l)
mutual
theorem Rep.noM {C C' : Cl} (hf : C.frac = C'.frac) (hc : C.cls = C'.cls) {P : Option Addr} {W : Hp} : ∀ {v : V} {d : D}, Rep C P W v d → NoM d → Rep C' P W v d
  | _, _, .non, _ => .non
  | _, _, .bl b, _ => .bl b
  | _, _, .int i, _ => .int i
  | _, _, .str i, _ => .str i
  | _, _, .lst h r, n => .lst h (RepL.noM hf hc r (by cases n; assumption))
  | _, _, .tup h r, n => .tup h (RepL.noM hf hc r (by cases n; assumption))
  | _, _, .raw h r, n => .raw h (RepL.noM hf hc r (by cases n; assumption))
  | _, _, .mls h r, n => by cases n
  | _, _, .adr a, _ => .adr a
  | _, _, .frac h, _ => .frac (hf ▸ h)
  | _, _, .obj h e r, n => .obj (hc ▸ h) e (RepL.noM hf hc r (by cases n; assumption))
  | _, _, .dic h e r, n => .dic h e (RepL.noM hf hc r (by cases n; assumption))
  | _, _, .pool h, _ => .pool h
  | _, _, .ty n, _ => .ty n
  | _, _, .cls n, _ => .cls n
theorem RepL.noM {C C' : Cl} (hf : C.frac = C'.frac) (hc : C.cls = C'.cls) {P : Option Addr} {W : Hp} : ∀ {vs : List V} {l : List D}, RepL C P W vs l → (∀ x ∈ l, NoM x) → RepL C' P W vs l
  | _, _, .nil, _ => .nil
  | _, _, .cons h r, n => .cons (Rep.noM hf hc h (n _ List.mem_cons_self)) (RepL.noM hf hc r fun x hx => n x (List.mem_cons_of_mem _ hx))
end
/-! ### what is new -/
structure News (C : Cl) (P : Option Addr) (H W' H' : Hp) (ds : List (Addr × List D)) : Prop where
  nd : (ds.map (·.1)).Nodup
  ok : ∀ p ∈ ds, H p.1 = none ∧ W' p.1 = none ∧ ∃ vs, H' p.1 = some (.lst vs) ∧ RepL C P W' vs p.2
section
variable {C : Cl} {B : Bs} {Γ : List Sl} {W H W1 H1 W2 H2 : Hp} {ds es : List (Addr × List D)}
theorem News.nil : News C B.P H W1 H1 [] := ⟨List.nodup_nil, fun _ h => (nomatch h)⟩
theorem News.step (n : News C B.P H W1 H1 ds) (pl : ∀ a, B.P = some a → H a ≠ none) (s : Stp C B.P noS W1 H1 W2 H2) : News C B.P H W2 H2 ds := ⟨n.nd, fun p hp => by
  obtain ⟨h1, h2, vs, h3, h4⟩ := n.ok p hp
  exact ⟨h1, (s.old _ _ h3).trans h2, vs, s.hh _ _ h3 (fun z => pl _ z h1) (fun z => z), h4.mono s.ww⟩⟩
theorem News.app (n : News C B.P H W2 H2 ds) (s : Stp C B.P noS W H W1 H1) (k : ∀ p ∈ ds, ∃ o, H1 p.1 = some o) (m : News C B.P H1 W2 H2 es) : News C B.P H W2 H2 (ds ++ es) where
  nd := by
    rw [List.map_append]
    refine List.nodup_append.mpr ⟨n.nd, m.nd, fun x hx y hy z => ?_⟩
    obtain ⟨p, hp, rfl⟩ := List.mem_map.mp hx
    obtain ⟨q, hq, e⟩ := List.mem_map.mp hy
    obtain ⟨o, h⟩ := k p hp
    have := (m.ok q hq).1
    have e : q.1 = y := e
    rw [e, ← z, h] at this; cases this
  ok := fun p hp => by
    rcases List.mem_append.mp hp with hp | hp
    · exact n.ok p hp
    · obtain ⟨h1, h2⟩ := m.ok p hp
      exact ⟨s.free h1, h2⟩
theorem News.one {a : Addr} {vs : List V} {l : List D} (ha : H a = none) (hW : W1 a = none) (hh : H1 a = some (.lst vs)) (r : RepL C B.P W1 vs l) : News C B.P H W1 H1 [(a, l)] := ⟨by simp, fun p hp => by
  cases List.mem_singleton.mp hp
  exact ⟨ha, hW, vs, hh, r⟩⟩
theorem News.there (n : News C B.P H W1 H1 ds) : ∀ p ∈ ds, ∃ o, H1 p.1 = some o := fun p hp => let ⟨_, _, vs, h, _⟩ := n.ok p hp; ⟨_, h⟩
/-- the new ones are the frame's to change -/
theorem EnvOk.regNews {σ : L2.St} (e : EnvOk C B W H σ Γ) {j : Nat} {cs : List (Addr × List D)} (hj : Γ[j]? = some (.reg cs)) (s : Stp C B.P noS W H W1 H1) (n : News C B.P H W1 H1 ds) : EnvOk C B W1 H1 σ (Γ.set j (.reg (cs ++ ds))) := by
  obtain ⟨ow, o⟩ := e.ow
  have e1 := e.step s
  have o1 := o.step s
  refine ⟨e1.stp, e1.kp, e1.pl, e1.p0, e1.len.setG hj rfl, ow, o1.regSet hj ?_ (fun p hp => ?_) (fun p hp i t h1 h2 => ?_)⟩
  · rw [List.map_append]
    refine List.nodup_append.mpr ⟨o.nd _ _ hj, n.nd, fun x hx y hy z => ?_⟩
    obtain ⟨p, hp, rfl⟩ := List.mem_map.mp hx
    obtain ⟨q, hq, e⟩ := List.mem_map.mp hy
    exact o.neC (n.ok q hq).1 j cs p hj hp (z.trans e.symm)
  · rcases List.mem_append.mp hp with hp | hp
    · exact o1.cl j cs p hj hp
    · obtain ⟨h1, h2, h3⟩ := n.ok p hp
      exact ⟨h2, fun z => e.pl.ne _ z h1, e.stp.free h1, h3⟩
  · rcases List.mem_append.mp hp with hp | hp
    · exact o1.df j cs p i t hj hp h1 h2
    · exact o.ne (n.ok p hp).1 i t h1 h2
end
/-- an expression gives data and new lists -/
def EN (C : Cl) (B : Bs) (Γ : List Sl) (te : TE) (K : List (Addr × List D) → D → Prop) : Prop := ∀ W H σ, EnvOk C B W H σ Γ → ∀ Q : VK, (∀ ds d v W' H', Stp C B.P noS W H W' H' → News C B.P H W' H' ds → Rep C B.P W' v d → K ds d → Q v H') → te σ H Q
def AN (C : Cl) (B : Bs) (Γ : List Sl) (ta : TA) (K : List (Addr × List D) → List D → Prop) : Prop := ∀ W H σ, EnvOk C B W H σ Γ → ∀ Q : List V → Hp → Prop, (∀ ds l vs W' H', Stp C B.P noS W H W' H' → News C B.P H W' H' ds → RepL C B.P W' vs l → K ds l → Q vs H') → ta σ H Q
/-- what a def promises that hands back new lists -/
def SpN (C : Cl) (S : List D → (List (Addr × List D) → D → Prop) → Prop) : Sp := fun vs H Q _ => ∃ P W l K, Same W H ∧ PlOk C P W H ∧ RepL C P W vs l ∧ S l K ∧ ∀ ds d v W' H', K ds d → Stp C P noS W H W' H' → News C P H W' H' ds → Rep C P W' v d → Q v H'
def SpFamN (F : Hp → Cl) (S : List D → (List (Addr × List D) → D → Prop) → Prop) : Sp := fun vs H Q E => ∃ n, SpN (F n) S vs H Q E
section
variable {C : Cl} {B : Bs} {Γ : List Sl} {te to ti : TE} {ta : TA} {t : TS} {nx bk ct : List Sl → Prop} {rt : List Sl → D → Prop} {K : List (Addr × List D) → D → Prop} {KK : PySem.W.Frag}
theorem en_ek (h : EK C B Γ te (K [])) : EN C B Γ te K := fun W H σ e Q q => h W H σ e Q fun d v W' H' s r k => q [] d v W' H' s .nil r k
theorem en_ef (h : EF C B Γ te fun l => ∀ a, K [(a, l)] (.adr a)) : EN C B Γ te K := fun W H σ e Q q => h W H σ e Q fun l a vs W' H' s ha hW hh r k => q [(a, l)] (.adr a) _ W' H' s (.one ha hW hh r) (.adr a) (k a)
theorem an_nil {K : List (Addr × List D) → List D → Prop} (k : K [] []) : AN C B Γ tNil K := fun W H σ e Q q => q [] [] [] W H (.refl e.wh) .nil .nil k
theorem an_cons {tr : TA} {K : List (Addr × List D) → List D → Prop} (h : EN C B Γ te fun ds d => AN C B Γ tr fun es l => K (ds ++ es) (d :: l)) : AN C B Γ (tCons te tr) K := fun W H σ e Q q =>
  h W H σ e _ fun ds d v W1 H1 s1 n1 r1 h1 => h1 W1 H1 σ (e.step s1) _ fun es l vs W2 H2 s2 n2 r2 k =>
    q (ds ++ es) (d :: l) (v :: vs) W2 H2 (s1.trans s2) ((n1.step e.pl.ne s2).app s1 n1.there n2) (.cons (r1.mono s2.ww) r2) k
theorem en_tup (h : AN C B Γ ta fun ds l => l.length ≤ sizeLine ∧ K ds (.tup l)) : EN C B Γ (tTup ta) K := fun W H σ e Q q =>
  h W H σ e _ fun ds l vs W1 H1 s1 n1 r1 ⟨hz, h1⟩ => ⟨by rw [r1.length]; exact hz, fun p hp => by
    have s2 := Stp.new (C := C) (P := B.P) (S := noS) (o := .tup vs) s1.wh hp (e.pl.step s1).ne
    exact q ds _ _ _ _ (s1.trans s2) (n1.step e.pl.ne s2) (.tup upd_same (r1.mono s2.ww)) h1⟩
/-- a new list of what may be new -/
theorem en_lst (h : AN C B Γ ta fun ds l => l.length ≤ sizeLine ∧ ∀ a, K (ds ++ [(a, l)]) (.adr a)) : EN C B Γ (tLst ta) K := fun W H σ e Q q =>
  h W H σ e _ fun ds l vs W1 H1 s1 n1 r1 ⟨hz, h1⟩ => ⟨by rw [r1.length]; exact hz, fun p hp => by
    have s2 := Stp.own (C := C) (P := B.P) (S := noS) (o := .lst vs) s1.wh hp (e.pl.step s1).ne
    have hW : W1 p = none := by
      cases z : W1 p with
      | none => rfl
      | some o => rw [s1.wh _ _ z] at hp; cases hp
    exact q (ds ++ [(p, l)]) (.adr p) _ _ _ (s1.trans s2) ((n1.step e.pl.ne s2).app s1 n1.there (.one hp hW upd_same r1)) (.adr p) (h1 p)⟩
theorem en_call {F : Hp → Cl} {n : Hp} {S : List D → (List (Addr × List D) → D → Prop) → Prop} {K : List (Addr × List D) → D → Prop} (h : AK (F n) B Γ ta fun l => S l K) : EN (F n) B Γ (tCall (SpFamN F S) [] E0 ta) K := fun W H σ e Q q =>
  h W H σ e _ fun l vs W1 H1 s1 r1 h1 => ⟨n, B.P, W1, l, K, s1.wh, e.pl.step s1, by rw [List.append_nil]; exact r1, h1, fun ds d v W3 H3 k s3 n3 r3 => q ds d v W3 H3 (s1.trans s3) ⟨n3.nd, fun p hp => ⟨s1.free (n3.ok p hp).1, (n3.ok p hp).2⟩⟩ r3 k⟩
/-- [te for g in wi if tt], te makes new lists -/
theorem en_lc {wi : TI} {g : TG} {tt : TT} {vs : List Nat} (h : IK C B Γ wi fun l => ∃ J : Nat → List (Addr × List D) → List D → Prop, J 0 [] [] ∧
      (∀ W1 i d ds acc, l[i]? = some d → J i ds acc → CG C (B.keep W1) (wipeG Γ vs) g d vs fun Γ2 => TK C (B.keep W1) Γ2 tt fun b => (b = true → EN C (B.keep W1) Γ2 te fun es y => acc.length < sizeLine ∧ J (i + 1) (ds ++ es) (acc ++ [y])) ∧ (b = false → J (i + 1) ds acc)) ∧
      ∀ ds acc, J l.length ds acc → ∀ a, K (ds ++ [(a, acc)]) (.adr a)) : EN C B Γ (tLc wi g tt te vs) K := fun W H σ e Q q =>
  h W H σ e _ fun It W1 H1 l s1 y ⟨J, j0, hs, hd⟩ Dl hDl => by
    have e1 := e.step s1
    obtain ⟨ow, o⟩ := e.ow
    have o1 := o.step s1
    have hW1 : W1 Dl = none := by
      cases z : W1 Dl with
      | none => rfl
      | some x => rw [s1.wh _ _ z] at hDl; cases hDl
    have hP : B.P ≠ some Dl := fun z => e1.pl.ne Dl z hDl
    have hH : H Dl = none := s1.free hDl
    have h0 : B.H0 Dl = none := e.stp.free hH
    have hn := o1.ne hDl
    have hc := o1.neC hDl
    obtain ⟨e2, o2⟩ := e1.poke (u := .lst []) o1 hW1 hP (.inl h0) hn hc
    have s2 : Stp C B.P noS W H W1 (upd H1 Dl (.lst [])) := s1.trans (Stp.own s1.wh hDl e1.pl.ne)
    refine ⟨fun i m H' => m = l.length - i ∧ i ≤ l.length ∧ ∃ W2 ds acc va, EnvOk C B W2 H' σ Γ ∧ Owns C B W2 H' σ Γ ow ∧ Same W1 W2 ∧ Stp C B.P noS W H W2 H' ∧ W2 Dl = none ∧ H' Dl = some (.lst va) ∧ RepL C B.P W2 va acc ∧ News C B.P H W2 H' ds ∧ (∀ p ∈ ds, p.1 ≠ Dl) ∧ J i ds acc,
      ⟨l.length, rfl, Nat.zero_le _, W1, [], [], [], e2, o2, .refl _, s2, hW1, upd_same, .nil, .nil, fun _ h => (nomatch h), j0⟩, ?_⟩
    rintro i m H2 ⟨rfl, hi, W2, ds, acc, va, e3, o3, w12, st, d1, d2, d3, nw, nq, d4⟩
    by_cases hlt : i < l.length
    · obtain ⟨y1, y2⟩ := y.go i W2 H2 hlt w12 e3.wh e3.pl
      refine .inr ⟨y1, fun H' => ∃ W2 ds acc va, EnvOk C B W2 H' σ Γ ∧ Owns C B W2 H' σ Γ ow ∧ Same W1 W2 ∧ Stp C B.P noS W H W2 H' ∧ W2 Dl = none ∧ H' Dl = some (.lst va) ∧ RepL C B.P W2 va acc ∧ News C B.P H W2 H' ds ∧ (∀ p ∈ ds, p.1 ≠ Dl) ∧ J (i + 1) ds acc, fun H' z => ⟨l.length - (i + 1), by omega, rfl, hlt, z⟩, fun x H3 hy => ?_⟩
      obtain ⟨W3, d, s3, hd', r3⟩ := y2 x H3 hy
      have e4 := (e3.step s3).wipe vs
      have o4 := (o3.step s3).wipe (e3.step s3).len vs
      refine hs W1 i d ds acc hd' d4 W3 H3 _ x ow (e4.keep W1 (w12.trans s3.ww)) ⟨o4.inj, o4.fr, o4.ok, o4.one, o4.nd, fun i cs p h1 h2 => let k := o4.cl i cs p h1 h2; ⟨k.w, k.np, k.h, k.at_⟩, o4.df⟩ r3 _ fun Γ5 σ5 e5 o5 w5 k5 => ⟨w5.trans (by rw [wipe_wipe]), ?_⟩
      refine k5 W3 H3 σ5 e5 _ fun b W6 H6 s6 k6 => ?_
      have s36 := s3.trans s6
      have hDl6 : H6 Dl = some (.lst va) := s36.hh _ _ d2 hP (fun z => z)
      have W6D : W6 Dl = none := (s36.old _ _ d2).trans d1
      have nw6 := nw.step e.pl.ne s36
      cases b with
      | false => exact ⟨W6, ds, acc, va, e3.step s36, o3.step s36, w12.trans s36.ww, st.trans s36, W6D, hDl6, d3.mono s36.ww, nw6, nq, k6.2 rfl⟩
      | true =>
        refine k6.1 rfl W6 H6 σ5 (e5.step s6) _ fun es yv v W7 H7 s7 n7 r7 ⟨hz, k7⟩ => ?_
        have s37 := s36.trans s7
        have hDl7 : H7 Dl = some (.lst va) := s37.hh _ _ d2 hP (fun z => z)
        have W7D : W7 Dl = none := (s37.old _ _ d2).trans d1
        refine ⟨va, hDl7, by rw [d3.length]; exact hz, ?_⟩
        obtain ⟨e8, o8⟩ := (e3.step s37).poke (u := .lst (va ++ [v])) (o3.step s37) W7D hP (.inl h0) hn hc
        have st7 := st.trans s37
        have nq7 : ∀ p ∈ es, p.1 ≠ Dl := fun p hp z => by
          have := (n7.ok p hp).1
          rw [z, hDl6] at this; cases this
        have nw7 : News C B.P H W7 H7 (ds ++ es) := (nw.step e.pl.ne s37).app (st.trans s36) nw6.there n7
        have nqa : ∀ p ∈ ds ++ es, p.1 ≠ Dl := fun p hp => by
          rcases List.mem_append.mp hp with hp | hp
          · exact nq p hp
          · exact nq7 p hp
        refine ⟨W7, ds ++ es, acc ++ [yv], va ++ [v], e8, o8, w12.trans s37.ww, ⟨st7.ww, e8.wh, fun a u q1 q2 q3 => ?_, fun a u q1 => ?_, st7.old, fun a q1 q2 => ?_⟩, W7D, upd_same, (d3.mono s37.ww).append (.one r7), ⟨nw7.nd, fun p hp => ?_⟩, nqa, k7⟩
        · rw [upd_ne (fun z => by subst z; rw [hH] at q1; cases q1)]
          exact st7.hh a u q1 q2 q3
        · rw [upd_ne (fun z => by subst z; rw [hH] at q1; cases q1)]
          exact st7.dom a u q1
        · rw [upd_ne (fun z => by subst z; exact hP q1)]
          exact st7.pool a q1 q2
        · obtain ⟨z1, z2, us, z3, z4⟩ := nw7.ok p hp
          exact ⟨z1, z2, us, by rw [upd_ne (nqa p hp)]; exact z3, z4⟩
    · have hh : i = l.length := by omega
      subst hh
      refine .inl ⟨y.stop H2 (w12.trans e3.wh) (fun a o z => (e3.pl.rg a o z).1), q (ds ++ [(Dl, acc)]) (.adr Dl) _ W2 H2 st ?_ (.adr Dl) (hd ds acc d4 Dl)⟩
      refine ⟨?_, fun p hp => ?_⟩
      · rw [List.map_append]
        refine List.nodup_append.mpr ⟨nw.nd, by simp, fun x hx y hy z => ?_⟩
        obtain ⟨p, hp, rfl⟩ := List.mem_map.mp hx
        simp at hy; subst hy
        exact nq p hp z
      · rcases List.mem_append.mp hp with hp | hp
        · exact nw.ok p hp
        · cases List.mem_singleton.mp hp
          exact ⟨hH, d1, va, d2, d3⟩
/-! ### statements -/
theorem sx_reg (hn : Γ.all (fun s => !s.isR) = true) (h : SX C B (Γ ++ [.reg []]) t nx rt bk ct) : SX C B Γ t nx rt bk ct := fun W H σ e D' s => h W H σ (e.regNew hn) D' s
theorem sx_share {i j : Nat} {cs : List (Addr × List D)} {l : List D} (hj : Γ[j]? = some (.reg cs)) (hs : Γ[i]? = some (.own l)) (h : ∀ a, SX C B ((Γ.set i (.d (.adr a))).set j (.reg (cs ++ [(a, l)]))) t nx rt bk ct) : SX C B Γ t nx rt bk ct := fun W H σ e D' s => by
  obtain ⟨a, e'⟩ := e.share hj hs
  exact h a W H σ e' D' s
theorem isSlot_setR {cs ds : List (Addr × List D)} : ∀ {Γ : List Sl} {i j : Nat}, Γ[j]? = some (.reg cs) → isSlot Γ i = true → isSlot (Γ.set j (.reg ds)) i = true
  | [], _, _, _, h => by cases h
  | s :: _, 0, 0, h, k => by simp at h; subst h; cases k
  | _ :: _, 0, _ + 1, _, h => h
  | _ :: _, _ + 1, 0, _, h => h
  | _ :: r, i + 1, j + 1, h, k => isSlot_setR (Γ := r) (i := i) (j := j) (by simpa using h) k
theorem sx_setN {i j : Nat} {cs : List (Addr × List D)} (hj : Γ[j]? = some (.reg cs)) (hi : isSlot Γ i = true) (h : EN C B Γ te fun ds d => nx ((Γ.set j (.reg (cs ++ ds))).set i (.d d))) : SX C B Γ (tAsg te (gName i)) nx rt bk ct := fun W H σ e D' s =>
  h W H σ e _ fun ds d v W1 H1 s1 n1 r1 k => s.nx _ W1 H1 _ ((e.regNews hj s1 n1).setD (isSlot_setR hj hi) r1) k
theorem sx_retN {j : Nat} {cs : List (Addr × List D)} (hj : Γ[j]? = some (.reg cs)) (h : EN C B Γ te fun ds d => rt (Γ.set j (.reg (cs ++ ds))) d) : SX C B Γ (tRet te) nx rt bk ct := fun W H σ e D' s =>
  h W H σ e _ fun ds d v W1 H1 s1 n1 r1 k => s.rt _ d v W1 H1 σ (e.regNews hj s1 n1) r1 k
/-- o.append(e), o a list that the frame may change -/
theorem sx_appC {j : Nat} {cs : List (Addr × List D)} (hj : Γ[j]? = some (.reg cs)) (h : EK C B Γ to fun d0 => ∃ a, d0 = .adr a ∧ (∃ l, (a, l) ∈ cs) ∧ EN C B Γ te fun ds d => ∃ k l, (cs ++ ds)[k]? = some (a, l) ∧ l.length < sizeLine ∧ nx (Γ.set j (.reg ((cs ++ ds).set k (a, l ++ [d]))))) :
    SX C B Γ (tDrop (tBM KK "list" rAppend to (tCons te tNil))) nx rt bk ct := fun W H σ e D' s =>
  h W H σ e _ fun d0 v0 W0 H0 s0 r0 ⟨a, e0, ⟨l0, hm⟩, h1⟩ => by
    subst e0; cases r0
    have e1 := e.step s0
    obtain ⟨ow, o⟩ := e1.ow
    obtain ⟨vs0, q0, _⟩ := (o.cl j cs _ hj hm).at_
    refine ⟨.inl ⟨rfl, _, SqL.of q0⟩, h1 W0 H0 σ e1 _ fun ds d v W1 H1 s1 n1 r1 ⟨k, l, hk, hz, kx⟩ => ?_⟩
    have e2 := e1.regNews hj s1 n1
    have hj2 : (Γ.set j (.reg (cs ++ ds)))[j]? = some (.reg (cs ++ ds)) := List.getElem?_set_self (List.getElem?_eq_some_iff.mp hj).1
    obtain ⟨ow2, o2⟩ := e2.ow
    obtain ⟨vs, q1, q2⟩ := (o2.cl j _ _ hj2 (List.mem_of_getElem? hk)).at_
    refine ⟨a, vs, v, rfl, rfl, q1, by rw [q2.length]; exact hz, ?_⟩
    have e3 := e2.regChg (us := vs ++ [v]) (m := l ++ [d]) hj2 hk (q2.append (.one r1))
    rw [List.set_set] at e3
    exact s.nx _ W1 _ σ e3 kx
/-- xs.append(e), xs a list that only this frame knows, e new -/
theorem sx_appO {i j : Nat} {cs : List (Addr × List D)} {l : List D} (hj : Γ[j]? = some (.reg cs)) (hs : Γ[i]? = some (.own l)) (h : EN C B Γ te fun ds d => l.length < sizeLine ∧ nx ((Γ.set j (.reg (cs ++ ds))).set i (.own (l ++ [d])))) :
    SX C B Γ (tDrop (tBM KK "list" rAppend (tVar i) (tCons te tNil))) nx rt bk ct := fun W H σ e D' s => by
  obtain ⟨ow, o⟩ := e.ow
  obtain ⟨h1, vs, h2, h3⟩ := o.ok i _ hs
  refine ⟨_, getD_some h1, .inl ⟨rfl, _, SqL.of h2⟩, h W H σ e _ fun ds d v W1 H1 s1 n1 r1 ⟨hz, k⟩ => ?_⟩
  have e2 := e.regNews hj s1 n1
  have hij : j ≠ i := fun z => by subst z; rw [hs] at hj; cases hj
  have hs2 : (Γ.set j (.reg (cs ++ ds)))[i]? = some (.own l) := by rw [List.getElem?_set_ne hij]; exact hs
  obtain ⟨ow3, o3, f⟩ := e2.chg (u := .lst (vs ++ [v])) (t := .own (l ++ [d])) hs2 rfl rfl (fun _ h => h)
  have ee : ow3 i = ow i := by
    obtain ⟨g1, _⟩ := o3.ok i _ hs2
    rw [h1] at g1
    injection g1 with g1
    injection g1 with g1
    exact g1.symm
  rw [ee] at f
  have hH1 : H1 (ow i) = some (.lst vs) := s1.hh _ _ h2 (o.fr i _ hs rfl).p (fun z => z)
  refine ⟨ow i, vs, v, rfl, rfl, hH1, by rw [h3.length]; exact hz, ?_⟩
  exact s.nx _ W1 _ σ (f ⟨h1, vs ++ [v], upd_same, (h3.mono s1.ww).append (.one r1)⟩) k
/-- o[i] = e, o a list that the frame may change -/
theorem sx_setC {j : Nat} {cs : List (Addr × List D)} (hj : Γ[j]? = some (.reg cs)) (h : EN C B Γ te fun ds d => EK C B (Γ.set j (.reg (cs ++ ds))) to fun d0 => ∃ a, d0 = .adr a ∧ EK C B (Γ.set j (.reg (cs ++ ds))) ti fun d2 => ∃ k l i n, (cs ++ ds)[k]? = some (a, l) ∧ d2 = .int i ∧ ixN l.length i = some n ∧ nx (Γ.set j (.reg ((cs ++ ds).set k (a, l.set n d))))) :
    SX C B Γ (tAsg te (gSub to ti rSetL)) nx rt bk ct := fun W H σ e D' s =>
  h W H σ e _ fun ds d v W1 H1 s1 n1 r1 h1 => by
    have e2 := e.regNews hj s1 n1
    have hj2 : (Γ.set j (.reg (cs ++ ds)))[j]? = some (.reg (cs ++ ds)) := List.getElem?_set_self (List.getElem?_eq_some_iff.mp hj).1
    refine h1 W1 H1 σ e2 _ fun d0 v0 W2 H2 s2 r2 ⟨a, e0, h2⟩ => ?_
    subst e0; cases r2
    refine h2 W2 H2 σ (e2.step s2) _ fun d2 v2 W3 H3 s3 r3 ⟨k, l, i, n, hk, ei, hn, kx⟩ => ?_
    subst ei; cases r3
    have e3 := (e2.step s2).step s3
    obtain ⟨ow3, o3⟩ := e3.ow
    obtain ⟨vs, q1, q2⟩ := (o3.cl j _ _ hj2 (List.mem_of_getElem? hk)).at_
    refine ⟨a, vs, i, n, rfl, rfl, q1, by rw [q2.length]; exact hn, ?_⟩
    have e4 := e3.regChg (us := vs.set n v) (m := l.set n d) hj2 hk (q2.set (r1.mono (s2.trans s3).ww) n)
    rw [List.set_set] at e4
    exact s.nx _ W3 _ σ e4 kx
end
/-! ### such lists become data -/
mutual
inductive ResF (cs : List (Addr × List D)) : D → D → Prop where
  | id {d : D} : ResF cs d d
  | adr {a : Addr} {l l' : List D} (h : (a, l) ∈ cs) (r : ResFL cs l l') : ResF cs (.adr a) (.lst l')
  | tup {l l' : List D} (r : ResFL cs l l') : ResF cs (.tup l) (.tup l')
  | lst {l l' : List D} (r : ResFL cs l l') : ResF cs (.lst l) (.lst l')
inductive ResFL (cs : List (Addr × List D)) : List D → List D → Prop where
  | nil : ResFL cs [] []
  | cons {d d' : D} {l l' : List D} (h : ResF cs d d') (r : ResFL cs l l') : ResFL cs (d :: l) (d' :: l')
end
section
variable {C : Cl} {cs : List (Addr × List D)} {P : Option Addr} {W W' : Hp} (hc : ∀ p ∈ cs, ∃ vs, W' p.1 = some (.lst vs) ∧ RepL C P W vs p.2) (hw : Same W W')
include hc hw
mutual
theorem ResF.rep : ∀ {d d' : D} {v : V}, ResF cs d d' → Rep C P W v d → Rep C P W' v d'
  | _, _, _, .id, r => r.mono hw
  | _, _, _, .adr h q, r => by
    cases r
    obtain ⟨vs, h1, h2⟩ := hc _ h
    exact .lst h1 (ResFL.rep q h2)
  | _, _, _, .tup q, r => by
    cases r with
    | tup ha rl => exact .tup (hw _ _ ha) (ResFL.rep q rl)
  | _, _, _, .lst q, r => by
    cases r with
    | lst ha rl => exact .lst (hw _ _ ha) (ResFL.rep q rl)
theorem ResFL.rep : ∀ {l l' : List D} {vs : List V}, ResFL cs l l' → RepL C P W vs l → RepL C P W' vs l'
  | _, _, _, .nil, r => by cases r; exact .nil
  | _, _, _, .cons h q, r => by
    cases r with
    | cons r1 r2 => exact .cons (ResF.rep h r1) (ResFL.rep q r2)
end
end
section
variable {C : Cl} {B : Bs} {Γ : List Sl} {W H : Hp} {σ : L2.St} {t : TS} {nx bk ct : List Sl → Prop} {rt : List Sl → D → Prop}
def frzW (cs : List (Addr × List D)) (W H : Hp) : Hp := fun a => if (cs.map (·.1)).contains a then H a else W a
theorem frzW_in {cs : List (Addr × List D)} {p : Addr × List D} (h : p ∈ cs) : frzW cs W H p.1 = H p.1 := by
  unfold frzW
  rw [if_pos]
  simp
  exact ⟨p.2, h⟩
theorem frzW_out {cs : List (Addr × List D)} {a : Addr} (h : ∀ p ∈ cs, p.1 ≠ a) : frzW cs W H a = W a := by
  unfold frzW
  rw [if_neg]
  simp
  exact fun l hl => h _ hl rfl
theorem EnvOk.frz (e : EnvOk C B W H σ Γ) {j : Nat} {cs : List (Addr × List D)} (hj : Γ[j]? = some (.reg cs)) : ∃ W', Same W W' ∧ EnvOk C B W' H σ (Γ.set j (.reg [])) ∧ ∀ p ∈ cs, ∃ vs, W' p.1 = some (.lst vs) ∧ RepL C B.P W vs p.2 := by
  obtain ⟨ow, o⟩ := e.ow
  have cl := fun p hp => o.cl j cs p hj hp
  have ww : Same W (frzW cs W H) := fun a x q => by
    rw [frzW_out (fun p hp z => by rw [← z, (cl p hp).w] at q; cases q)]; exact q
  have wh : Same (frzW cs W H) H := fun a x q => by
    unfold frzW at q
    split at q
    · exact q
    · exact e.wh a x q
  have o1 := o.regSet hj (ds := []) (by simp) (fun _ h => nomatch h) (fun _ h => nomatch h)
  have nr : ∀ (i : Nat) (s : Sl), Γ[i]? = some s → s.isO = true → frzW cs W H (ow i) = W (ow i) := fun i s h1 h2 => frzW_out fun p hp z => o.df j cs p i s hj hp h1 h2 z.symm
  refine ⟨frzW cs W H, ww, ⟨⟨e.stp.ww.trans ww, wh, e.stp.hh, e.stp.dom, fun a x q => ?_, fun a q z => C.pkm ww (e.stp.pool a q z)⟩, e.kp.trans ww, ⟨fun a q => ?_, fun a o' q => ?_⟩, e.p0, e.len.setG hj rfl, ow, o1.inj, fun i s h1 h2 => ?_, fun i s h1 => ?_, o1.one, o1.nd, fun i es p h1 h2 => ?_, o1.df⟩, fun p hp => ?_⟩
  · rw [frzW_out (fun p hp z => by rw [← z, (cl p hp).h] at q; cases q)]
    exact e.stp.old a x q
  · rw [frzW_out (fun p hp z => (cl p hp).np (by rw [z]; exact q))]
    exact ⟨(e.pl.po a q).1, C.pkm ww (e.pl.po a q).2⟩
  · rw [frzW_out (fun p hp z => e.nm (.inl (cl p hp).h) q z.symm)]
    exact e.pl.rg a o' q
  · rcases set_cases h1 with ⟨_, rfl⟩ | ⟨_, h1⟩
    · cases h2
    · exact (o.fr i s h1 h2).mono ((nr i s h1 h2).trans (o.fr i s h1 h2).w)
  · have q := o1.ok i s h1
    cases s with
    | no => trivial
    | d x => obtain ⟨v, q1, q2⟩ := q; exact ⟨v, q1, q2.mono ww⟩
    | own l => obtain ⟨q1, vs', q2, q3⟩ := q; exact ⟨q1, vs', q2, q3.mono ww⟩
    | ins c l => obtain ⟨q1, dx, fs, q2, q3, q4⟩ := q; exact ⟨q1, dx, fs, q2, q3, q4.mono ww⟩
    | reg cs => trivial
  · rcases set_cases h1 with ⟨_, z⟩ | ⟨hi, z⟩
    · cases z; cases h2
    · exact absurd (o.one _ _ _ _ z hj) hi
  · obtain ⟨vs, h1, h2⟩ := (cl p hp).at_
    exact ⟨vs, (frzW_in hp).trans h1, h2⟩
theorem EnvOk.redata (e : EnvOk C B W H σ Γ) {i : Nat} {d d' : D} (hs : Γ[i]? = some (.d d)) (h : ∀ v, Rep C B.P W v d → Rep C B.P W v d') : EnvOk C B W H σ (Γ.set i (.d d')) := by
  obtain ⟨ow, o⟩ := e.ow
  have hl : i < σ.length := by
    rcases Nat.lt_or_ge i σ.length with z | z
    · exact z
    · have := (e.len.c i _ hs).mp z; cases this
  obtain ⟨v, h1, h2⟩ := o.ok i _ hs
  have es : σ.set i (some v) = σ := by
    apply List.ext_getElem?
    intro n
    rw [List.getElem?_set]
    by_cases hn : i = n
    · subst hn
      rw [if_pos rfl, if_pos hl]
      rw [List.getD_eq_getElem?_getD] at h1
      cases z : σ[i]? with
      | none => rw [z] at h1; cases h1
      | some y => rw [z] at h1; exact congrArg some h1.symm
    · rw [if_neg hn]
  have o1 := o.put (i := i) (s := .d d') (x := some v) hl rfl rfl ⟨v, rfl, h v h2⟩
  rw [es] at o1
  exact ⟨e.stp, e.kp, e.pl, e.p0, e.len.setG hs rfl, ow, o1⟩
/-- all of the frame's lists become data, and what slot i names with them -/
theorem sx_frz {i j : Nat} {cs : List (Addr × List D)} {d d' : D} (hj : Γ[j]? = some (.reg cs)) (hs : Γ[i]? = some (.d d)) (hr : ResF cs d d') (h : SX C B ((Γ.set i (.d d')).set j (.reg [])) t nx rt bk ct) : SX C B Γ t nx rt bk ct := fun W H σ e D' s => by
  obtain ⟨W', hw, e', hc⟩ := e.frz hj
  have hij : i ≠ j := fun z => by subst z; rw [hs] at hj; cases hj
  obtain ⟨ow, o⟩ := e.ow
  obtain ⟨v, h1, h2⟩ := o.ok i _ hs
  have hs' : (Γ.set j (.reg []))[i]? = some (.d d) := by rw [List.getElem?_set_ne (Ne.symm hij)]; exact hs
  obtain ⟨ow', o'⟩ := e'.ow
  have e2 : EnvOk C B W' H σ ((Γ.set j (.reg [])).set i (.d d')) := by
    have hl : i < σ.length := by
      rcases Nat.lt_or_ge i σ.length with z | z
      · exact z
      · have := (e.len.c i _ hs).mp z; cases this
    have es : σ.set i (some v) = σ := by
      apply List.ext_getElem?
      intro n
      rw [List.getElem?_set]
      by_cases hn : i = n
      · subst hn
        rw [if_pos rfl, if_pos hl]
        rw [List.getD_eq_getElem?_getD] at h1
        cases z : σ[i]? with
        | none => rw [z] at h1; cases h1
        | some y => rw [z] at h1; exact congrArg some h1.symm
      · rw [if_neg hn]
    have o1 := o'.put (i := i) (s := .d d') (x := some v) hl rfl rfl ⟨v, rfl, hr.rep hc hw h2⟩
    rw [es] at o1
    exact ⟨e'.stp, e'.kp, e'.pl, e'.p0, e'.len.setG hs' rfl, ow', o1⟩
  rw [List.set_comm _ _ (Ne.symm hij)] at e2
  exact h W' H σ e2 D' s
end
/-! ### calls with such lists -/
mutual
inductive Res (cs : List (Addr × List D)) : D → D → Prop where
  | id {d : D} : Res cs d d
  | adr {a : Addr} {l l' : List D} (h : (a, l) ∈ cs) (r : ResL cs l l') : Res cs (.adr a) (.mls l')
  | tup {l l' : List D} (r : ResL cs l l') : Res cs (.tup l) (.tup l')
  | lst {l l' : List D} (r : ResL cs l l') : Res cs (.lst l) (.lst l')
inductive ResL (cs : List (Addr × List D)) : List D → List D → Prop where
  | nil : ResL cs [] []
  | cons {d d' : D} {l l' : List D} (h : Res cs d d') (r : ResL cs l l') : ResL cs (d :: l) (d' :: l')
end
section
variable {F : Hp → Cl} (fam : Fam F) {n m : Hp} {cs : List (Addr × List D)} {P : Option Addr} {W : Hp} (hc : ∀ p ∈ cs, ∃ vs, m p.1 = some (.lst vs) ∧ RepL (F n) P W vs p.2) (hm : Same n m)
include fam hc hm
mutual
theorem Res.rep : ∀ {d d' : D} {v : V}, Res cs d d' → Rep (F n) P W v d → Rep (F m) P W v d'
  | _, _, _, .id, r => r.cl (fam.frac n m) (fam.cls n m) (by rw [fam.m, fam.m]; exact hm)
  | _, _, _, .adr h q, r => by
    cases r
    obtain ⟨vs, h1, h2⟩ := hc _ h
    exact .mls (by rw [fam.m]; exact h1) (ResL.rep q h2)
  | _, _, _, .tup q, r => by
    cases r with
    | tup ha rl => exact .tup ha (ResL.rep q rl)
  | _, _, _, .lst q, r => by
    cases r with
    | lst ha rl => exact .lst ha (ResL.rep q rl)
theorem ResL.rep : ∀ {l l' : List D} {vs : List V}, ResL cs l l' → RepL (F n) P W vs l → RepL (F m) P W vs l'
  | _, _, _, .nil, r => by cases r; exact .nil
  | _, _, _, .cons h q, r => by
    cases r with
    | cons r1 r2 => exact .cons (Res.rep h r1) (ResL.rep q r2)
end
end
section
variable {F : Hp → Cl} {n : Hp} {B : Bs} {Γ : List Sl} {ta : TA} {te : TE} {K : D → Prop} {j : Nat} {cs : List (Addr × List D)}
/-- the lists that may be read, those of the frame with them -/
def withC (n H : Hp) (cs : List (Addr × List D)) : Hp := fun a => if (cs.map (·.1)).contains a then H a else n a
theorem withC_in {n H : Hp} {p : Addr × List D} (h : p ∈ cs) : withC n H cs p.1 = H p.1 := by
  unfold withC
  rw [if_pos]
  simp
  exact ⟨p.2, h⟩
theorem withC_cases {n H : Hp} {a : Addr} {o : HO} (h : withC n H cs a = some o) : (∃ p ∈ cs, p.1 = a ∧ H a = some o) ∨ n a = some o := by
  unfold withC at h
  by_cases z : (cs.map (·.1)).contains a = true
  · rw [if_pos z] at h
    simp at z
    obtain ⟨l, hl⟩ := z
    exact .inl ⟨(a, l), hl, rfl, h⟩
  · rw [if_neg z] at h; exact .inr h
theorem Fam.stp (fam : Fam F) {n m : Hp} {P : Option Addr} {S : Addr → Prop} {W H W' H' : Hp} (s : Stp (F n) P S W H W' H') : Stp (F m) P S W H W' H' := ⟨s.ww, s.wh, s.hh, s.dom, s.old, fun a z q => fam.pk n m _ _ (s.pool a z (fam.pk m n _ _ q))⟩
/-- what a call over the frame's lists needs -/
theorem EnvOk.withC (fam : Fam F) {W H : Hp} {σ : L2.St} (e : EnvOk (F n) B W H σ Γ) (hj : Γ[j]? = some (.reg cs)) : PlOk (F (withC n H cs)) B.P W H ∧ (∀ p ∈ cs, ∃ vs, G.withC n H cs p.1 = some (.lst vs) ∧ RepL (F n) B.P W vs p.2) ∧ Same n (G.withC n H cs) := by
  obtain ⟨ow, o⟩ := e.ow
  refine ⟨⟨fun a z => ⟨(e.pl.po a z).1, fam.pk _ _ _ _ (e.pl.po a z).2⟩, fun a u z => ?_⟩, fun p hp => ?_, fun a u z => ?_⟩
  · rw [fam.m] at z
    rcases withC_cases z with ⟨p, hp, rfl, h⟩ | h
    · have c := o.cl j cs p hj hp
      exact ⟨h, c.w, c.np⟩
    · exact e.pl.rg a u (by rw [fam.m]; exact h)
  · obtain ⟨vs, h1, h2⟩ := (o.cl j cs p hj hp).at_
    exact ⟨vs, (withC_in hp).trans h1, h2⟩
  · by_cases h : (cs.map (·.1)).contains a = true
    · have h' := h
      simp at h'
      obtain ⟨l, hl⟩ := h'
      have c := o.cl j cs (a, l) hj hl
      exact absurd rfl (e.nm (.inl c.h) (show (F n).m a = some u by rw [fam.m]; exact z))
    · unfold G.withC; rw [if_neg h]; exact z
theorem ek_callM (fam : Fam F) (hj : Γ[j]? = some (.reg cs)) {S : List D → (D → Prop) → Prop} (h : AK (F n) B Γ ta fun l => ∃ l', ResL cs l l' ∧ S l' fun d => NoM d ∧ K d) : EK (F n) B Γ (tCall (SpFam F S) [] E0 ta) K := fun W H σ e Q q =>
  h W H σ e _ fun l vs W1 H1 s1 r1 ⟨l', hr, h1⟩ => by
    have e1 := e.step s1
    obtain ⟨p1, p2, p3⟩ := e1.withC fam hj
    refine ⟨withC n H1 cs, B.P, W1, l', fun d => NoM d ∧ K d, s1.wh, p1, by rw [List.append_nil]; exact hr.rep fam p2 p3 r1, h1, fun d v W3 H3 k s3 r3 => ?_⟩
    exact q d v W3 H3 (s1.trans (fam.stp s3)) (r3.noM (fam.frac _ _) (fam.cls _ _) k.1) k.2
theorem ek_mkOM (fam : Fam F) (hj : Γ[j]? = some (.reg cs)) {A : Addr} {c : Nat} (hA : ∀ n, (F n).cls c = A) {S : List D → (List (Str × D) → Prop) → Prop} (h : AK (F n) B Γ ta fun l => ∃ l', ResL cs l l' ∧ S l' fun fl => NoM (.obj c fl) ∧ K (.obj c fl)) : EK (F n) B Γ (tMake A (SpFamI F A S) [] E0 ta) K := fun W H σ e Q q =>
  h W H σ e _ fun l vs W1 H1 s1 r1 ⟨l', hr, h1⟩ x dx hx hdx hne => by
    have e1 := e.step s1
    obtain ⟨p1, p2, p3⟩ := e1.withC fam hj
    have r2 := hr.rep fam p2 p3 r1
    refine make_run (n := withC n H1 cs) (K := fun d => NoM d ∧ K d) (dds := []) (W := W) (H := H) (fam.stp s1) p1 r2 (fun _ => .nil) (fun fl d => d = .obj c fl) (fun W x dx fs fl d e h1 h2 h3 => obj_rep (hA _) W x dx fs fl d e h1 h2 h3) ?_ Q (fun d v W' H' s r k => q d v W' H' (fam.stp s) (r.noM (fam.frac _ _) (fam.cls _ _) k.1) k.2) x dx hx hdx (fun z => hne z.symm)
    have : (fun fl => ∃ d, d = D.obj c fl ∧ NoM d ∧ K d) = fun fl => NoM (.obj c fl) ∧ K (.obj c fl) := by
      funext fl; exact propext ⟨fun ⟨d, e, k⟩ => e ▸ k, fun k => ⟨_, rfl, k⟩⟩
    rw [this, List.append_nil]; exact h1
end
/-! ### defs that hand back new lists -/
section
variable {P : Program} {w : World} {K : PySem.W.Frag} {mg : Str → Option Value} {base : Heap} {k : Nat} {x : Str} {st : Stmt} {N ps : List Str} {F : Hp → Cl}
theorem sp_bodyN {C : Cl} {S : List D → (List (Addr × List D) → D → Prop) → Prop} {t : TS} (h : ∀ B l K, S l K → SX C B (G0 N l) t (fun _ => K [] .non) (fun Γ d => ∃ (j : Nat) (ds : List (Addr × List D)), Γ[j]? = some (.reg ds) ∧ K ds d) (fun _ => False) (fun _ => False)) (vs : List V) (H : Hp) (Q : VK) (E : XK) (q : SpN C S vs H Q E) :
    t { nx := fun _ H' => Q .non H', rt := Q } (L2.start N vs) H := by
  obtain ⟨P, W, l, K, hw, pl, r, hS, k⟩ := q
  refine h ⟨P, noS, W, H, W⟩ l K hS W H _ (env_start hw pl r) _ ⟨fun Γ W' H' σ' e z => k [] .non .non W' H' z e.stp ⟨List.nodup_nil, fun _ h => (nomatch h)⟩ .non, fun Γ d v W' H' σ' e r' z => ?_, fun _ _ _ _ _ z => z.elim, fun _ _ _ _ _ z => z.elim⟩
  obtain ⟨j, ds, hj, kx⟩ := z
  obtain ⟨ow, o⟩ := e.ow
  refine k ds d v W' H' kx e.stp ⟨o.nd j ds hj, fun p hp => ?_⟩ r'
  have c := o.cl j ds p hj hp
  exact ⟨c.h, c.w, c.at_⟩
theorem cal_mkN {S : List D → (List (Addr × List D) → D → Prop) → Prop} (g : mg x = some (.ref (He.ga K x))) (Fd : ∃ fd, FnP K x st fd) (sc : FnScope N ps (defScope st))
    (b : ∀ (kV doc pm : Value) (an : Option Addr) (cdv ct : Value) (us : List Value), us.length = ps.length → bindArgs (PySem.W.fnOf x x (defArgs st) (defBody st) (defScope st) .none kV doc pm an cdv ct) ⟨us, []⟩ = pure (ps.zip us))
    (len : ∀ l K, S l K → l.length = ps.length)
    (hb : ∀ (f : Addr) (cdv : Value) (A : Around) (outer : List Env) (s : Shared) (H : Hp) (E : XK), Room k (A.deeper (envOfC x (defScope st) s.heap.objs.size f cdv)) →
      ∃ t, PSs (cxOf (L2.CX P w) P w K mg base N x (defScope st) f cdv A outer s H E).nox (defBody st) t ∧ ∀ n B l K, S l K → SX (F n) B (G0 N l) t (fun _ => K [] .non) (fun Γ d => ∃ (j : Nat) (ds : List (Addr × List D)), Γ[j]? = some (.reg ds) ∧ K ds d) (fun _ => False) (fun _ => False)) : Cal P w K mg base (k + 1) x ps (SpFamN F S) := by
  obtain ⟨fd, Fd⟩ := Fd
  refine ⟨g, Fd.kp, fd, Fd.ok sc (fun vs H Q E ⟨n, P, W, l, K, _, _, r, hS, _⟩ => r.length.trans (len l K hS)) fun cdv A outer s H vs Q E hr ⟨n, hsp⟩ => ?_, Fd.bindsN b⟩
  obtain ⟨t, h1, h2⟩ := hb _ cdv A outer s H E hr
  exact ⟨t, h1.nox, sp_bodyN (h2 n) vs H Q E hsp⟩
end
end G
end

section
set_option maxRecDepth 100000
set_option maxHeartbeats 2000000
/-! an own == that may be False, within lists and tuples; len(an own object) -/
namespace GBq
open PySem PySem.SeqAt
open AutoSeq1 (wpAny_loadPart')
open MeetsSeq MeetsSeq2 MeetsSeq3 SeqRoads2 GQ
section
variable {prog : Program} {w : World} {A : Around} {R : Result → Shared → Prop}
/-- at each turn the two lists are read anew: N items each, of the i-th two == tells e i -/
def ListB (prog : Program) (w : World) (A : Around) (E : Value → Shared → Prop) (l b : Addr) (N : Nat) (e : Nat → Bool) (I : Nat → Shared → Prop) : Prop :=
  ∀ i s, I i s → ∃ (items items2 : Array Value) (n n2 : Nat), s.heap.get? l = some { cls := .type "list", data := .seq items n } ∧ s.heap.get? b = some { cls := .type "list", data := .seq items2 n2 } ∧ items.size = N ∧ items2.size = N ∧
    ∀ (h1 : i < items.size) (h2 : i < items2.size), wpAny (model prog w) A.in1 (eqBool items[i] items2[i]) (fun r s' => r = e i ∧ ∃ (its its2 : Array Value) (n n2 : Nat), s'.heap.get? l = some { cls := .type "list", data := .seq its n } ∧ s'.heap.get? b = some { cls := .type "list", data := .seq its2 n2 } ∧ its.size = N ∧ its2.size = N ∧ I (i + 1) s') E s
def allB (e : Nat → Bool) (N i : Nat) : Bool := ((List.range N).drop i).all e
theorem allB_end {e : Nat → Bool} {N i : Nat} (h : N ≤ i) : allB e N i = true := by
  unfold allB
  rw [List.drop_of_length_le (by simpa using h)]; rfl
theorem allB_next {e : Nat → Bool} {N i : Nat} (h : i < N) : allB e N i = (e i && allB e N (i + 1)) := by
  unfold allB
  rw [List.drop_eq_getElem_cons (by simpa using h), List.all_cons, List.getElem_range]
theorem ne_loopG (l b : Addr) (N : Nat) (e : Nat → Bool) (I : Nat → Shared → Prop) (hl : ListB prog w A (fun e s' => R (.error e) s') l b N e I) (k : Nat) :
    ∀ i : Nat, N - i = k → i ≤ N → (∀ j s, i ≤ j → I j s → R (.ok (.ret (.bool (!allB e N i)))) s) → ∀ s, I i s →
      wpAny (model prog w) A.in1 (Builtin.«list.__eq__.loop» ⟨[.ref l, .ref b, rawInt i, rawInt 3], []⟩) (FinOf prog w A R) (fun e s' => R (.error e) s') s := by
  induction k with
  | zero =>
    intro i hk hi fin s h
    obtain ⟨items, items2, n, n2, hl1, hb1, hs1, hs2, _⟩ := hl _ _ h
    have hi' : i = N := by omega
    have hR := fin i s (Nat.le_refl _) h
    rw [allB_end (by omega)] at hR
    obtain ⟨hp, g, d, tk, os⟩ := s
    wp_walk using wpAny_loadPart' hl1, wpAny_loadPart' hb1
    have hi1 : items[((i : Nat) : Int).toNat]? = none := by simp; omega
    have hi2 : items2[((i : Nat) : Int).toNat]? = none := by simp; omega
    rw [hi1, hi2]
    wp_walk using wpAny_loadPart' hl1, wpAny_loadPart' hb1
    show R (.ok (.ret (.bool (items.size != items2.size)))) _
    rw [hs1, hs2]
    simpa using hR
  | succ k ih =>
    intro i hk hi fin s h
    obtain ⟨items, items2, n, n2, hl1, hb1, hs1, hs2, turn⟩ := hl _ _ h
    have hlt : i < items.size := by omega
    have hlt2 : i < items2.size := by omega
    have ht := turn hlt hlt2
    rw [allB_next (show i < N by omega)] at fin
    obtain ⟨hp, g, d, tk, os⟩ := s
    wp_walk using wpAny_loadPart' hl1, wpAny_loadPart' hb1
    have hi1 : items[((i : Nat) : Int).toNat]? = some items[i] := by simp [hlt]
    have hi2 : items2[((i : Nat) : Int).toNat]? = some items2[i] := by simp [hlt2]
    have hc : ((i : Int) + 1) = ((i + 1 : Nat) : Int) := by omega
    rw [hi1, hi2]
    refine wpAny_bind (wpAny_mono ht (fun r s2 h2 => ?_) fun _ _ x => x)
    obtain ⟨hr, its, its2, m, m2, hm1, hm2, hz1, hz2, h2⟩ := h2
    subst hr
    cases hb' : e i with
    | true =>
      rw [hb', Bool.true_and] at fin
      have hrec := ih (i + 1) (by omega) (by omega) (fun j s hj hI => fin j s (by omega) hI) s2 h2
      obtain ⟨hp2, g2, d2, tk2, os2⟩ := s2
      wp_walk
      rw [hc]
      exact ⟨plainId_quiet plain_eq_loop _, codeAny_builtin entry_eq_loop (by
        rw [Around.under_plainId plain_eq_loop _]
        exact hrec)⟩
    | false =>
      rw [hb', Bool.false_and] at fin
      have hR := fin (i + 1) s2 (by omega) h2
      obtain ⟨hp2, g2, d2, tk2, os2⟩ := s2
      have hi3 : its[((i : Nat) : Int).toNat]? = some (its[i]'(by omega)) := by simp
      have hi4 : its2[((i : Nat) : Int).toNat]? = some (its2[i]'(by omega)) := by simp
      wp_walk using wpAny_loadPart' hm1, wpAny_loadPart' hm2
      rw [hi3, hi4]
      wp_walk
      simpa using hR
theorem list_neG (l b : Addr) (N : Nat) (e : Nat → Bool) (I : Nat → Shared → Prop) (hl : ListB prog w A (fun e s' => R (.error e) s') l b N e I)
    (fin : ∀ j s, I j s → R (.ok (.ret (.bool (!allB e N 0)))) s) {s : Shared} (h : I 0 s) :
    wpAny (model prog w) A.in1 (Builtin.«list.__ne__» ⟨[.ref l, .ref b], []⟩) (FinOf prog w A R) (fun e s' => R (.error e) s') s := by
  obtain ⟨items, items2, n, n2, hl1, hb1, hs1, hs2, _⟩ := hl _ _ h
  have hrec := ne_loopG (A := A) (R := R) l b N e I hl _ 0 rfl (Nat.zero_le _) (fun j s _ hI => fin j s hI) s h
  obtain ⟨hp, g, d, tk, os⟩ := s
  have f3 := AutoSeq1.sub_list_list
  have hne : ¬ (items.size != items2.size) = true := by simp [hs1, hs2]
  wp_walk using wpAny_loadPart' hl1, wpAny_loadPart' hb1
  exact ⟨plainId_quiet plain_eq_loop _, codeAny_builtin entry_eq_loop (by
    rw [Around.under_plainId plain_eq_loop _]
    exact hrec)⟩
end
section
variable {prog : Program} {w : World} {A : Around} {E : Value → Shared → Prop} {s : Shared}
theorem rc_neG {l b : Addr} {N : Nat} {e : Nat → Bool} {Q : Value → Shared → Prop} (hu : A.units < cLine) (I : Nat → Shared → Prop) (hl : ListB prog w A E l b N e I)
    (fin : ∀ j s, I j s → Q (.bool (!allB e N 0)) s) (h : I 0 s) : wpAny (model prog w) A (richCompare .NotEq (.ref l) (.ref b)) Q E s := by
  obtain ⟨items, items2, n, n2, hl1, hb1, _, _, _⟩ := hl _ _ h
  refine wpAny_richCompare_same_room (op := .NotEq) ⟨_, hl1, rfl⟩ ⟨_, hb1, rfl⟩ F.slot_list_ne (call_here F.slot_list_ne ⟨_, hl1, rfl⟩ F.entry_list_ne (F.args_list_ne_2 _ _) ?_) hu
  exact list_neG (R := wants (fun v s' => v ≠ .notImplemented ∧ Q v s') E) l b N e I hl (fun j s' q => ⟨(fun x => nomatch x), fin j s' q⟩) h
end
end GBq
namespace L2
open PySem PySem.Spec PyProof.Rows
/-- how == of two values is told, by the abstract heap -/
abbrev Eqb := V → V → Bool → Hp → Prop
def MonB (D : Eqb) : Prop := ∀ x y b H H', Ext H H' → D x y b H → D x y b H'
def EqBG (X : Cx) (n : Nat) (D : Eqb) : Prop :=
  ∀ (A : Around) (pins : List (Addr × Obj)) (s : Shared) (σ : St) (H : Hp) (x y : V) (b : Bool) (u v : Value), Sub X n A → Inv X pins σ H s → RelV x u → RelV y v → D x y b H →
    wpAny (model X.prog X.w) A (eqBool u v) (fun r s' => r = b ∧ ∃ H', Inv X pins σ H' s' ∧ Ext H H') X.xe s
def PrsB (D : Eqb) (xs ys : List V) (e : Nat → Bool) (H : Hp) : Prop := ∀ (i : Nat) x y, xs[i]? = some x → ys[i]? = some y → D x y (e i) H
section
variable {X : Cx} {n : Nat} {D : Eqb}
/-- xs != ys, of two lists -/
def rNeB (D : Eqb) : R2 := fun x y H Q => ∃ a b xs ys e, x = .ref a ∧ y = .ref b ∧ H a = some (.lst xs) ∧ H b = some (.lst ys) ∧ xs.length = ys.length ∧ PrsB D xs ys e H ∧ ∀ H', Ext H H' → Q (.bl (!GBq.allB e xs.length 0)) H'
theorem op_neB (hD : MonB D) (h : EqBG X n D) (hr : Room (n + 1) X.A) : OpR X (compareOp .NotEq) (rNeB D) := by
  intro pins s σ H x y v u Q I rx ry hq
  obtain ⟨a, b, xs, ys, e, rfl, rfl, ha, hb, hlen, p, q⟩ := hq
  cases rx
  cases ry
  have sb : Sub X (n + 1) X.A := ⟨hr, rfl⟩
  show wpAny (model X.prog X.w) X.A (richCompare .NotEq (.ref a) (.ref b)) (EP X pins σ Q) X.xe s
  refine GBq.rc_neG (N := xs.length) (e := e) sb.room.units0 (fun _ s' => LoopI X pins σ H s') (fun i s' l => ?_) (fun j s' l => ?_) ⟨H, I, Ext.rfl'⟩
  · obtain ⟨H1, I1, e1⟩ := id l
    obtain ⟨z, its, k, r, e2⟩ := I1.hok a _ (e1 _ _ ha)
    obtain ⟨z2, its2, k2, r2, e3⟩ := I1.hok b _ (e1 _ _ hb)
    refine ⟨its.toArray, its2.toArray, k, k2, e2, e3, by rw [List.size_toArray, ← r.length], by rw [List.size_toArray, ← r2.length, ← hlen], fun h1 h2 => ?_⟩
    have g1 : its[i]? = some its.toArray[i] := by
      have h1' : i < its.length := by simpa using h1
      rw [List.getElem?_eq_getElem h1'] <;> simp
    have g2 : its2[i]? = some its2.toArray[i] := by
      have h2' : i < its2.length := by simpa using h2
      rw [List.getElem?_eq_getElem h2'] <;> simp
    have k1 : i < xs.length := by rw [r.length]; simpa using h1
    have k2' : i < ys.length := by rw [r2.length]; simpa using h2
    obtain ⟨u, hu, ru⟩ := r.get (List.getElem?_eq_getElem k1)
    obtain ⟨v, hv, rv⟩ := r2.get (List.getElem?_eq_getElem k2')
    rw [g1] at hu
    rw [g2] at hv
    rw [Option.some.inj hu, Option.some.inj hv]
    refine wpAny_mono (h X.A.in1 pins s' σ H1 _ _ (e i) u v sb.in1 I1 ru rv (hD _ _ _ _ _ e1 (p i _ _ (List.getElem?_eq_getElem k1) (List.getElem?_eq_getElem k2')))) (fun r s2 q => ?_) fun _ _ x => x
    obtain ⟨hr, H2, I2, e4⟩ := q
    have e5 := e1.trans e4
    obtain ⟨_, jts, j1, jr, je⟩ := I2.hok a _ (e5 _ _ ha)
    obtain ⟨_, jts2, j2, jr2, je2⟩ := I2.hok b _ (e5 _ _ hb)
    exact ⟨hr, jts.toArray, jts2.toArray, j1, j2, je, je2, by rw [List.size_toArray, ← jr.length], by rw [List.size_toArray, ← jr2.length, ← hlen], H2, I2, e5⟩
  · obtain ⟨H1, I1, e1⟩ := l
    exact ⟨.bl _, H1, I1, rfl, q H1 e1⟩
/-- an own == promises r -/
def DOwn (C : Addr) (Rl : Addr → Addr → Bool → Hp → Prop) : Eqb := fun x y r H => ∃ a b dx dy fs gs, x = .ref a ∧ y = .ref b ∧ H a = some (.ins C dx fs) ∧ H b = some (.ins C dy gs) ∧ Rl a b r H ∧ (a = b → r = true)
theorem eqB_own {CX : CXT} {C f : Addr} {fd : FuncData} {ps : List Str} {Rl : Addr → Addr → Bool → Hp → Prop} {E : XK} {sp : Sp} (F : FnOk X.prog X.w X.K X.mg X.base CX n f fd ps sp) (hsp : ∀ a b r H, Rl a b r H → sp [.ref a, .ref b] H (fun v H' => v = .bl r ∧ Ext H H') E)
    (hs : PySem.W.findIn X.K (.ref C) "__eq__" = some (some (.ref f))) (hf : PySem.W.isFn X.K (.ref f) = true) (hb : Binds X.K fd ps []) (hx : Passes CX X E) : EqBG X n (DOwn C Rl) := by
  intro A pins s σ H x y r0 u v sb I rx ry d
  obtain ⟨a, b, dx, dy, fs, gs, rfl, rfl, ha, hb', hr, hsame⟩ := d
  cases rx
  cases ry
  by_cases hab : a = b
  · subst hab
    rw [hsame rfl]
    exact SeqAt.EqAt.same (A := A) (s := s) (.ref a) X.prog X.w X.xe _ ⟨rfl, H, I, Ext.rfl'⟩
  refine GQ.eqBool_refG hab ?_
  obtain ⟨mA, J, _⟩ := ins_get I.hok ha
  obtain ⟨mB, J', _⟩ := ins_get I.hok hb'
  obtain ⟨od, J, _⟩ := J.look
  obtain ⟨od', J', _⟩ := J'.look
  obtain ⟨m, hF⟩ := I.fr
  refine PySem.W.cmp_K (op := .Eq) (tb := .ref C) sb.room.units0 hF I.ok.mod.kin J J'.type (by simp [PySem.W.notFirst]) hs hf ?_
  have hq := hsp a b r0 H hr
  have e0 : Env0 X.prog X.w X.K X.mg X.base A X.stack s H := by
    have e := I.env0
    exact ⟨by rw [sb.fr]; exact e.frames, e.mod, e.bs, e.bsz, e.funs, e.frf, e.hok, e.bare⟩
  have hl := F.len _ _ _ _ hq
  have r2 : Vals [V.ref a, V.ref b] [Value.ref a, Value.ref b] := .cons rfl (.cons rfl .nil)
  refine wpAny_call (codeAny_mono (F.run A X.stack s H ⟨[.ref a, .ref b], []⟩ [.ref a, .ref b] [.ref a, .ref b] _ E sb.room e0 (by
    have := hb s [.ref a, .ref b] I.kIn (by simpa using hl)
    simpa using this) r2 hq) fun r s' hq => ?_)
  cases r with
  | error e => exact hx pins σ H s e s' I hq
  | ok fl =>
    cases fl with
    | ret w =>
      obtain ⟨z, H', I', rz, ez, ex⟩ := I.after hq
      subst ez
      cases rz
      exact ⟨r0, rfl, rfl, H', I', ex⟩
    | next => exact False.elim hq
    | brk => exact False.elim hq
    | cont => exact False.elim hq
/-- len(o), o with an own __len__ -/
def rLenO (C : Addr) (sp : Sp) : List V → Hp → VK → Prop := fun xs H Q => ∃ a dx fs, xs = [.ref a] ∧ H a = some (.ins C dx fs) ∧ sp [.ref a] H (fun v H' => ∃ i : Int, v = .int i ∧ 0 ≤ i ∧ i < 2 ^ 63 ∧ Q (.int i) H') E0
theorem call_lenO {CX : CXT} {C f : Addr} {fd : FuncData} {ps : List Str} {sp : Sp} (F : FnOk X.prog X.w X.K X.mg X.base CX n f fd ps sp) (hs : PySem.W.findIn X.K (.ref C) "__len__" = some (some (.ref f))) (hf : PySem.W.isFn X.K (.ref f) = true) (hb : Binds X.K fd ps []) (hx : Passes CX X E0) (hr : Room (n + 1) X.A) :
    CallR X (.builtin "len") (rLenO C sp) := by
  intro pins s σ H xs us Q I r h
  obtain ⟨a, dx, fs, rfl, ha, hsp⟩ := h
  obtain ⟨u, rfl, ru⟩ := vals1 r
  obtain rfl : u = Value.ref a := ru
  obtain ⟨mA, J, _⟩ := ins_get I.hok ha
  obtain ⟨od, J, _⟩ := J.look
  obtain ⟨m, hF⟩ := I.fr
  refine Calls.call_function_entry PySem.kind_len PySem.plain_len PySem.entry_len (PySem.args_len1 _) ?_
  unfold Builtin.«len»
  refine wpAny_bind (m := oneArg "len" _) (wpAny_pure ?_)
  refine wpAny_bind (m := callSpecial? (.ref a) (PySem.Str.ofString "__len__")) (PySem.W.special_fn (name := "__len__") (args := []) (I.ok.mod.kin.keeps hF.keep) J hs (beq_iff_eq.mp hf) ?_)
  have hl := F.len _ _ _ _ hsp
  have e0 : Env0 X.prog X.w X.K X.mg X.base X.A.in1 X.stack s H := by
    have e := I.env0
    exact ⟨e.frames, e.mod, e.bs, e.bsz, e.funs, e.frf, e.hok, e.bare⟩
  have r2 : Vals [V.ref a] [Value.ref a] := .cons rfl .nil
  refine wpAny_call (codeAny_mono (F.run X.A.in1 X.stack s H ⟨[.ref a], []⟩ [.ref a] [.ref a] _ E0 hr.in1 e0 (by
    have := hb s [.ref a] I.kIn (by simpa using hl)
    simpa using this) r2 hsp) fun r s' hq => ?_)
  cases r with
  | error e => exact hx pins σ H s e s' I hq
  | ok fl =>
    cases fl with
    | ret w =>
      obtain ⟨z, H', I', rz, i, ei, h0, h1, q⟩ := I.after hq
      subst ei
      obtain ⟨t, rfl⟩ := rz
      refine wpAny_bind (wpAny_holding (wpAny_pure ?_))
      refine wpAny_bind (wpAny_letGo ?_)
      show wpAny _ _ (if i < 0 then _ else _) _ _ _
      rw [if_neg (by omega)]
      show wpAny _ _ (if i ≥ 2 ^ 63 then _ else _) _ _ _
      rw [if_neg (by omega)]
      exact wpAny_bind (wpAny_mkInt (wpAny_pure ⟨_, rfl, ⟨.int i, H', I'.tok _, ⟨_, rfl⟩, q⟩⟩))
    | next => exact False.elim hq
    | brk => exact False.elim hq
    | cont => exact False.elim hq
end
end L2
end

section
set_option maxRecDepth 100000
set_option maxHeartbeats 2000000
/-! own == and len by names, over data -/
namespace G
open PySem PySem.Spec PyProof.Rows L2
section
variable (P : Program) (w : World) (K : PySem.W.Frag) (mg : Str → Option Value) (base : Heap)
/-- a method that the language calls by itself -/
def CalS (k : Nat) (A : Addr) (m : Str) (sp : Sp) : Prop := ∃ f fd ps, PySem.W.findIn K (.ref A) m = some (some (.ref f)) ∧ PySem.W.isFn K (.ref f) = true ∧ FnOk P w K mg base (L2.CX P w) k f fd ps sp ∧ Binds K fd ps []
end
theorem stp_ext {C : Cl} {P : Option Addr} {W H H' : Hp} (hw : Same W H) (e : Ext H H') : Stp C P noS W H W H' := ⟨.refl _, fun a o z => e a o (hw a o z), fun a o z _ _ => e a o z, fun a o z => ⟨o, e a o z⟩, fun _ _ _ => rfl, fun a z q => by
  obtain ⟨x, hx⟩ := C.pks q
  rw [e a x hx, ← hx]; exact q⟩
theorem ext_stp {C : Cl} {W H W' H' : Hp} (s : Stp C none noS W H W' H') : Ext H H' := fun a o z => s.hh a o z (fun y => nomatch y) (fun y => y)
/-- two objects of the text's fractions -/
def RlF (A : Addr) (a b : Addr) (r : Bool) (H : Hp) : Prop := ∃ p q da db, H a = some (.ins A da (fracF p)) ∧ H b = some (.ins A db (fracF q)) ∧ r = decide (p = q)
def S_eqF : List D → (D → Prop) → Prop := fun l K => ∃ p q : Rat, l = [.frac p, .frac q] ∧ K (.bl (decide (p = q)))
theorem mon_eqF {A : Addr} : MonB (DOwn A (RlF A)) := fun x y r H H' e ⟨a, b, dx, dy, fs, gs, hx, hy, ha, hb, ⟨p, q, da, db, h1, h2, h3⟩, hs⟩ => ⟨a, b, dx, dy, fs, gs, hx, hy, e _ _ ha, e _ _ hb, ⟨p, q, da, db, e _ _ h1, e _ _ h2, h3⟩, hs⟩
theorem sp_eqF {F : Hp → Cl} (fam : Fam F) {A : Addr} (hA : ∀ n, (F n).frac = A) (a b : Addr) (r : Bool) (H : Hp) (h : RlF A a b r H) : SpFam F S_eqF [.ref a, .ref b] H (fun v H' => v = .bl r ∧ Ext H H') E0 := by
  obtain ⟨p, q, da, db, h1, h2, h3⟩ := h
  have wa : (fun x => if x = a ∨ x = b then H x else none) a = H a := if_pos (.inl rfl)
  have wb : (fun x => if x = a ∨ x = b then H x else none) b = H b := if_pos (.inr rfl)
  refine ⟨fun _ => none, none, fun x => if x = a ∨ x = b then H x else none, [.frac p, .frac q], fun d => d = .bl (decide (p = q)), fun x o z => ?_, ⟨fun _ z => (nomatch z), fun x o z => ?_⟩, .cons (.frac (dx := da) ?_) (.one (.frac (dx := db) ?_)), ⟨p, q, rfl, rfl⟩, fun d v W' H' hd s rv => ?_⟩
  · by_cases hx : x = a ∨ x = b
    · simpa [hx] using z
    · simp [hx] at z
  · rw [fam.m] at z; cases z
  · rw [hA]; exact wa.trans h1
  · rw [hA]; exact wb.trans h2
  · subst hd
    cases rv
    exact ⟨by rw [h3], ext_stp s⟩
theorem CalS.ne {X : Cx} {F : Hp → Cl} (fam : Fam F) {A : Addr} (hA : ∀ n, (F n).frac = A) {k j : Nat} (c : CalS X.prog X.w X.K X.mg X.base k A "__eq__" (SpFam F S_eqF)) (hr : Room j X.A) (hk : k + 1 ≤ j) : OpR X (compareOp .NotEq) (rNeB (DOwn A (RlF A))) := by
  obtain ⟨f, fd, ps, h1, h2, F', b⟩ := c
  exact op_neB mon_eqF (eqB_own (E := E0) F' (sp_eqF fam hA) h1 h2 b passL) (hr.mono hk)
theorem CalS.len {X : Cx} {A : Addr} {sp : Sp} {k j : Nat} (c : CalS X.prog X.w X.K X.mg X.base k A "__len__" sp) (hr : Room j X.A) (hk : k + 1 ≤ j) : CallR X (.builtin "len") (rLenO A sp) := by
  obtain ⟨f, fd, ps, h1, h2, F', b⟩ := c
  exact call_lenO F' h1 h2 b passL (hr.mono hk)
section
variable {C : Cl} {B : Bs} {Γ : List Sl} {K : D → Prop}
theorem all_eqF : ∀ (ps qs : List Rat), ps.length = qs.length → (((List.range ps.length).all fun i => decide (ps.getD i 0 = qs.getD i 0)) = decide (ps = qs)) := fun ps qs hl => by
  rw [Bool.eq_iff_iff, List.all_eq_true, decide_eq_true_iff]
  constructor
  · intro h
    apply List.ext_getElem hl
    intro i h1 h2
    have := h i (List.mem_range.mpr h1)
    simpa [List.getD_eq_getElem?_getD, h1, h2] using this
  · intro h i hi
    subst h; simp
theorem rk_neL {A : Addr} (hA : C.frac = A) {ps qs : List Rat} (hl : ps.length = qs.length) (k : K (.bl (!decide (ps = qs)))) : RK C B (rNeB (DOwn A (RlF A))) (.lst (ps.map .frac)) (.lst (qs.map .frac)) K := fun W H hw pl v1 v2 r1 r2 Q q => by
  cases r1 with
  | lst ha r1 =>
    cases r2 with
    | lst hb r2 =>
      rename_i a vs b us
      have l1 : vs.length = ps.length := by rw [r1.length, List.length_map]
      have l2 : us.length = qs.length := by rw [r2.length, List.length_map]
      refine ⟨a, b, vs, us, fun i => decide (ps.getD i 0 = qs.getD i 0), rfl, rfl, hw _ _ ha, hw _ _ hb, by omega, fun i x y hx hy => ?_, fun H' e => ?_⟩
      · obtain ⟨d, hd, rd⟩ := r1.getV hx
        obtain ⟨d', hd', rd'⟩ := r2.getV hy
        rw [List.getElem?_map] at hd hd'
        cases hp : ps[i]? with
        | none => rw [hp] at hd; cases hd
        | some p =>
          cases hq : qs[i]? with
          | none => rw [hq] at hd'; cases hd'
          | some q' =>
            rw [hp] at hd; rw [hq] at hd'
            cases hd; cases hd'
            obtain ⟨a1, d1, rfl, h1⟩ := rep_frac rd
            obtain ⟨a2, d2, rfl, h2⟩ := rep_frac rd'
            rw [hA] at h1 h2
            refine ⟨a1, a2, d1, d2, _, _, rfl, rfl, hw _ _ h1, hw _ _ h2, ⟨p, q', d1, d2, hw _ _ h1, hw _ _ h2, by simp [List.getD_eq_getElem?_getD, hp, hq]⟩, fun z => ?_⟩
            subst z
            rw [h1] at h2
            injection h2 with h2
            injection h2 with _ _ h2
            have e1 : p.num = q'.num := by
              have := congrArg List.head? h2
              simp [fracF] at this
              exact this
            have e2 : ((p.den : Nat) : Int) = ((q'.den : Nat) : Int) := by
              have := congrArg (fun l => l[1]?) h2
              simp [fracF] at this
              exact_mod_cast this
            have : p = q' := Rat.ext e1 (by exact_mod_cast e2)
            simp [List.getD_eq_getElem?_getD, hp, hq, this]
      · have ee : GBq.allB (fun i => decide (ps.getD i 0 = qs.getD i 0)) vs.length 0 = decide (ps = qs) := by
          unfold GBq.allB
          rw [List.drop_zero, l1]
          exact all_eqF ps qs hl
        rw [ee]
        exact q _ _ W H' (stp_ext hw e) (.bl _) k
theorem ck_lenO {F : Hp → Cl} {n : Hp} {A : Addr} {c : Nat} (hA : (F n).cls c = A) {S : List D → (D → Prop) → Prop} {fl : List (Str × D)} (h : S [.obj c fl] fun d => ∃ i : Int, d = .int i ∧ 0 ≤ i ∧ i < 2 ^ 63 ∧ K (.int i)) : CK (F n) B (rLenO A (SpFam F S)) [.obj c fl] K := fun W H hw pl vs r Q q => by
  cases r with
  | cons r rr =>
    cases rr
    have r0 := r
    obtain ⟨a, dx, fs, rfl, ha, hk, hr⟩ := rep_obj r
    rw [hA] at ha
    exact ⟨a, dx, fs, rfl, hw _ _ ha, n, B.P, W, _, _, hw, pl, .one r0, h, fun d v W' H' ⟨i, hd, h0, h1, k⟩ s rv => by
      subst hd; cases rv
      exact ⟨i, rfl, h0, h1, q _ _ W' H' s (.int i) k⟩⟩
end
end G
end

section
set_option maxRecDepth 100000
set_option maxHeartbeats 2000000
/-! the head: a written part without lists, facts of one's own -/
namespace HG
open PySem PySem.Spec PyProof.Rows L2
def isL (o : Obj) : Bool := match o.cls with
  | .type c => c == "list"
  | _ => false
def frN (g : Addr → Option Obj) (as : List Addr) : PySem.W.Frag := as.filterMap fun a => match g a with
  | some o => (match isL o with
    | true => none
    | false => some (a, o))
  | none => none
theorem look_mem {a : Addr} {o : Obj} : ∀ {l : List (Addr × Obj)}, l.lookup a = some o → (a, o) ∈ l
  | [], e => nomatch (show (none : Option Obj) = some o from e)
  | (b, u) :: r, e => by
    have e2 : (match a == b with | true => some u | false => r.lookup a) = some o := e
    cases q : (a == b) with
    | true =>
      rw [q] at e2
      have e3 : u = o := Option.some.inj e2
      rw [beq_iff_eq.mp q, e3]
      exact List.mem_cons_self
    | false =>
      rw [q] at e2
      exact List.mem_cons_of_mem _ (look_mem e2)
theorem frN_at {g : Addr → Option Obj} {as : List Addr} {a : Addr} {o : Obj} (h : (frN g as).lookup a = some o) : g a = some o ∧ isL o = false := by
  have m := look_mem h
  unfold frN at m
  obtain ⟨b, _, hb⟩ := List.mem_filterMap.mp m
  cases q : g b with
  | none => rw [q] at hb; cases hb
  | some u =>
    rw [q] at hb
    cases z : isL u with
    | true => simp only [z] at hb; cases hb
    | false =>
      simp only [z] at hb
      injection hb with hb
      injection hb with h1 h2
      subst h1; subst h2
      exact ⟨q, z⟩
abbrev AlX : Type := Bool × He.AlD
def obsX (chk : PySem.W.Frag → List Bool) (fa : List He.Fa) (fn : List He.DefD) (K : PySem.W.Frag) : AlX := ((chk K).all id, He.obsD fa fn K)
def SaysX (chk : PySem.W.Frag → List Bool) (fa : List He.Fa) (fn : List He.DefD) (K : PySem.W.Frag) : Prop := obsX chk fa fn K = (true, He.valD fn)
def obsXG (n : Nat) (chk : PySem.W.Frag → List Bool) (fa : List He.Fa) (fn : List He.DefD) (g : Addr → Option Obj) : AlX := obsX chk fa fn (frN g (He.asD g n))
def hookX (n : Nat) (chk : PySem.W.Frag → List Bool) (fa : List He.Fa) (fn : List He.DefD) : PySem.W.Hook where
  α := AlX
  obs := fun s => obsXG n chk fa fn s.heap.get?
  val := fun _ => (true, He.valD fn)
  says := fun _ h => ∃ K : PySem.W.Frag, K.In h ∧ (∀ a o, K.lookup a = some o → isL o = false) ∧ SaysX chk fa fn K
  of := fun _ _ e => ⟨_, fun _ _ z => (frN_at z).1, fun _ _ z => (frN_at z).2, e⟩
  keeps := fun _ _ _ ⟨K, hK, c⟩ k => ⟨K, PySem.W.Frag.In.keeps hK k, c⟩
theorem obsXG_eq {n : Nat} {chk : PySem.W.Frag → List Bool} {fa : List He.Fa} {fn : List He.DefD} {g : Addr → Option Obj} {s : Shared} (h : ∀ a, g a = s.heap.get? a) : obsXG n chk fa fn g = (hookX n chk fa fn).obs s := by
  have e : g = s.heap.get? := funext h
  rw [e] <;> rfl
section
variable {chk : PySem.W.Frag → List Bool} {fa : List He.Fa} {fn : List He.DefD} {K : PySem.W.Frag}
theorem SaysX.d (c : SaysX chk fa fn K) : He.SaysD fa fn K := congrArg (fun z : AlX => z.2) c
theorem SaysX.fact (c : SaysX chk fa fn K) (i : Nat) {f : He.Fa} (h : fa[i]? = some f) : f.ok K = true := c.d.fact i h
theorem SaysX.def_ (c : SaysX chk fa fn K) (i : Nat) {d : He.DefD} (h : fn[i]? = some d) : ∃ fd, FunD K d.name d.qual d.params d.body d.scope (d.dvs K) (d.kws K) (He.fAd K d.at_) fd := c.d.def_ i h
theorem SaysX.bit (c : SaysX chk fa fn K) (i : Nat) {b : Bool} (h : (chk K)[i]? = some b) : b = true := by
  have c1 : (chk K).all id = true := congrArg (fun z : AlX => z.1) c
  exact List.all_eq_true.mp c1 b (List.mem_of_getElem? h)
end
theorem walk_ofX {l : PySem.W.OpenLaw} {n k : Nat} {q : Program} {loose : List Str} {XP : (Str → Option Value) → Heap → Prop} {YP : World → Heap → Prop} {d : DefRec} {CX : World → CXT} {x : Str}
    (hn : l.most = some n) (hn2 : n ≤ sizeLine) (hdf : d.params.defaults = []) (hr : Room k callerA)
    (F : ∀ (w : World) (mg : Str → Option Value) (fa : Addr) (h : Heap), YP w h → h.Ns mainGlobals mg → mg d.name = some (.ref fa) →
      ∃ (K : PySem.W.Frag) (fd : FuncData) (sp : Sp), K.In h ∧ (∀ (s : Shared) (u : Value), BindsTo s fd ⟨[u], []⟩ [(x, u)]) ∧
        (∀ (H : Hp) (a : Addr) (ns : List Int), ns.length ≤ n → Only H → SqL K H a (ns.map V.int) → sp [.ref a] H (fun v _ => v = .bl true) fun _ _ _ => False) ∧
        ∀ base : Heap, K.In base → base.Ns mainGlobals mg → FnOk l.prog w K mg base (CX w) k fa fd [x] sp)
    (hCX : ∀ (w : World) (H : Hp) (s : Shared) (e : Value) (s' : Shared), CX w [] H s (fun _ _ _ => False) e s' → False) :
    PySem.W.WalkO q loose XP YP l.row.toRowW d [] (fun f vs => PySem.call f vs) := by
  refine Att.attach_call hn hdf fun w s₀ s₁ mg mb fa o pm cd doc a vs ns G Y ho hd hcd hmg hobj hints hlen hg => ?_
  obtain ⟨K, fd, sp, KX, hb, hsp, hF⟩ := F w mg fa _ Y G.T.g hmg
  exact law_call KX G.T.g G.T.b G.T.builtins G.T.nolimit hg hobj hints (Nat.le_trans hlen hn2) hr hF hb (fun H hO hS => hsp H a ns hlen hO hS) fun H e s' => hCX w H s₁ e s'
theorem cx_none {P : Program} : ∀ (w : World) (H : Hp) (s : Shared) (e : Value) (s' : Shared), L2.CX P w [] H s (fun _ _ _ => False) e s' → False := fun _ _ _ _ _ ⟨_, _, _, _, _, _, _, _, _, _, _, _, h⟩ => h
theorem script_frz {K : PySem.W.Frag} {H : Hp} {a : Addr} {xs : List V} (hL : ∀ a o, K.lookup a = some o → isL o = false) (hO : Only H) (hS : SqL K H a xs) : ∃ o, H a = some (.frz o (.lst xs)) := by
  rcases hS with (z | ⟨o, z⟩) | ⟨o, its, n, h1, h2, _⟩
  · rcases hO a with y | ⟨o, ys, y⟩
    · rw [y] at z; cases z
    · rw [y] at z; cases z
  · exact ⟨o, z⟩
  · have := hL a o h1
    unfold isL at this
    rw [h2] at this
    cases this
end HG
end

section
set_option maxRecDepth 100000
set_option maxHeartbeats 4000000

namespace K
open PySem PySem.Spec PyProof.Rows L2 G
def topS (i : Nat) : Stmt := PySem.Challenge.pw_nextprices_k77_whole_shown_turns.main.body.getD i (.Pass ⟨0, 0, 0, 0⟩)
abbrev s_InvalidFractionD_initD : Stmt := inClass (topS 4) 0
abbrev s_InvalidProjectD_initD : Stmt := inClass (topS 5) 0
abbrev s_EndlessD_initD : Stmt := inClass (topS 6) 0
abbrev s_InvalidFamilyD_initD : Stmt := inClass (topS 7) 0
abbrev s_NotClosedD_initD : Stmt := inClass (topS 8) 0
abbrev s_NotNestedD_initD : Stmt := inClass (topS 9) 0
abbrev s_NoExchangeD_initD : Stmt := inClass (topS 10) 0
abbrev s_WrongSizeD_initD : Stmt := inClass (topS 11) 0
abbrev s_InvalidStandingD_initD : Stmt := inClass (topS 12) 0
abbrev s_InvalidDeedD_initD : Stmt := inClass (topS 13) 0
abbrev s_InvalidPlanD_initD : Stmt := inClass (topS 14) 0
abbrev s_NoEndD_initD : Stmt := inClass (topS 15) 0
abbrev s_InvalidCertificateD_initD : Stmt := inClass (topS 16) 0
abbrev s_TooManyD_initD : Stmt := inClass (topS 17) 0
abbrev s_InvalidTextD_initD : Stmt := inClass (topS 18) 0
abbrev s_NothingToUndoD_initD : Stmt := inClass (topS 19) 0
abbrev s_is_integer : Stmt := topS 22
abbrev s_is_between : Stmt := topS 23
abbrev s_is_sequence : Stmt := topS 24
abbrev s_integer_told : Stmt := topS 25
abbrev s_FracD_initD : Stmt := inClass (topS 26) 0
abbrev s_FracD_addD : Stmt := inClass (topS 26) 1
abbrev s_FracD_subD : Stmt := inClass (topS 26) 2
abbrev s_FracD_mulD : Stmt := inClass (topS 26) 3
abbrev s_FracD_eqD : Stmt := inClass (topS 26) 4
abbrev s_Frac_is_below : Stmt := inClass (topS 26) 5
abbrev s_Frac_divided_by : Stmt := inClass (topS 26) 6
abbrev s_Frac_text : Stmt := inClass (topS 26) 7
abbrev s_Frac_read : Stmt := inClass (topS 26) 8
abbrev s_as_frac : Stmt := topS 27
abbrev s_greatest_of : Stmt := topS 28
abbrev s_total : Stmt := topS 29
abbrev s_is_amount : Stmt := topS 33
abbrev s_are_fracs : Stmt := topS 35
abbrev s_is_shown : Stmt := topS 40
abbrev s_is_offer : Stmt := topS 41
abbrev s_OffersD_initD : Stmt := inClass (topS 42) 0
abbrev s_OffersD_lenD : Stmt := inClass (topS 42) 1
abbrev s_OffersD_eqD : Stmt := inClass (topS 42) 2
abbrev s_shown_shares : Stmt := topS 43
abbrev s_row_before : Stmt := topS 44
abbrev s_turn_rows : Stmt := topS 45
abbrev s_turn_worth : Stmt := topS 46
abbrev s_turn_certificate : Stmt := topS 48
abbrev s_shows_turn : Stmt := topS 49
abbrev s__law_bag : Stmt := topS 51
abbrev s__law_draw : Stmt := topS 52
abbrev s__law_gcd : Stmt := topS 53
abbrev s__law_low : Stmt := topS 54
abbrev s__law_plus : Stmt := topS 55
abbrev s__law_minus : Stmt := topS 56
abbrev s__law_times : Stmt := topS 57
abbrev s__law_over : Stmt := topS 58
abbrev s__law_below : Stmt := topS 59
abbrev s__law_equal : Stmt := topS 60
abbrev s__law_greater : Stmt := topS 61
abbrev s__law_pair : Stmt := topS 62
abbrev s__law_pairs : Stmt := topS 63
abbrev s__law_is : Stmt := topS 64
abbrev s__law_kind : Stmt := topS 65
abbrev s__law_same : Stmt := topS 66
abbrev s__law_wrong_discount : Stmt := topS 67
abbrev s__law_is_wrong : Stmt := topS 68
abbrev s__law_offer : Stmt := topS 69
abbrev s__law_offered : Stmt := topS 70
abbrev s__law_turns : Stmt := topS 71
abbrev s__law_frac : Stmt := topS 72
abbrev s__law_written : Stmt := topS 73
abbrev s__law_table_right : Stmt := topS 74
abbrev s__law_bent : Stmt := topS 75
abbrev s_law : Stmt := topS 76
theorem sc_is_integer : FnScope ["value"] ["value"] (defScope s_is_integer) := ⟨rfl, rfl, rfl, by decide +kernel, rfl, by decide +kernel, by decide +kernel⟩
theorem sc_is_between : FnScope ["value", "least", "most"] ["value", "least", "most"] (defScope s_is_between) := ⟨rfl, rfl, rfl, by decide +kernel, rfl, by decide +kernel, by decide +kernel⟩
theorem sc_is_sequence : FnScope ["value"] ["value"] (defScope s_is_sequence) := ⟨rfl, rfl, rfl, by decide +kernel, rfl, by decide +kernel, by decide +kernel⟩
theorem sc_FracD_initD : FnScope ["self", "num", "den", "divisor"] ["self", "num", "den"] (defScope s_FracD_initD) := ⟨rfl, rfl, rfl, by decide +kernel, rfl, by decide +kernel, by decide +kernel⟩
theorem sc_FracD_addD : FnScope ["self", "other"] ["self", "other"] (defScope s_FracD_addD) := ⟨rfl, rfl, rfl, by decide +kernel, rfl, by decide +kernel, by decide +kernel⟩
theorem sc_FracD_subD : FnScope ["self", "other"] ["self", "other"] (defScope s_FracD_subD) := ⟨rfl, rfl, rfl, by decide +kernel, rfl, by decide +kernel, by decide +kernel⟩
theorem sc_FracD_mulD : FnScope ["self", "other"] ["self", "other"] (defScope s_FracD_mulD) := ⟨rfl, rfl, rfl, by decide +kernel, rfl, by decide +kernel, by decide +kernel⟩
theorem sc_FracD_eqD : FnScope ["self", "other"] ["self", "other"] (defScope s_FracD_eqD) := ⟨rfl, rfl, rfl, by decide +kernel, rfl, by decide +kernel, by decide +kernel⟩
theorem sc_Frac_is_below : FnScope ["self", "other"] ["self", "other"] (defScope s_Frac_is_below) := ⟨rfl, rfl, rfl, by decide +kernel, rfl, by decide +kernel, by decide +kernel⟩
theorem sc_as_frac : FnScope ["value"] ["value"] (defScope s_as_frac) := ⟨rfl, rfl, rfl, by decide +kernel, rfl, by decide +kernel, by decide +kernel⟩
theorem sc_greatest_of : FnScope ["fracs", "found", "one"] ["fracs"] (defScope s_greatest_of) := ⟨rfl, rfl, rfl, by decide +kernel, rfl, by decide +kernel, by decide +kernel⟩
theorem sc_total : FnScope ["fracs", "found", "one"] ["fracs"] (defScope s_total) := ⟨rfl, rfl, rfl, by decide +kernel, rfl, by decide +kernel, by decide +kernel⟩
theorem sc_is_amount : FnScope ["value", "frac"] ["value"] (defScope s_is_amount) := ⟨rfl, rfl, rfl, by decide +kernel, rfl, by decide +kernel, by decide +kernel⟩
theorem sc_are_fracs : FnScope ["value", "many", "one"] ["value", "many"] (defScope s_are_fracs) := ⟨rfl, rfl, rfl, by decide +kernel, rfl, by decide +kernel, by decide +kernel⟩
theorem sc_is_shown : FnScope ["value"] ["value"] (defScope s_is_shown) := ⟨rfl, rfl, rfl, by decide +kernel, rfl, by decide +kernel, by decide +kernel⟩
theorem sc_is_offer : FnScope ["value", "one"] ["value"] (defScope s_is_offer) := ⟨rfl, rfl, rfl, by decide +kernel, rfl, by decide +kernel, by decide +kernel⟩
theorem sc_OffersD_initD : FnScope ["self", "rows", "kept", "at", "row", "weight", "worth"] ["self", "rows"] (defScope s_OffersD_initD) := ⟨rfl, rfl, rfl, by decide +kernel, rfl, by decide +kernel, by decide +kernel⟩
theorem sc_OffersD_lenD : FnScope ["self"] ["self"] (defScope s_OffersD_lenD) := ⟨rfl, rfl, rfl, by decide +kernel, rfl, by decide +kernel, by decide +kernel⟩
theorem sc_shown_shares : FnScope ["row", "whole", "weight", "worth", "_"] ["row"] (defScope s_shown_shares) := ⟨rfl, rfl, rfl, by decide +kernel, rfl, by decide +kernel, by decide +kernel⟩
theorem sc_row_before : FnScope ["row", "later", "many", "found", "left", "parts", "share", "worth"] ["row", "later", "many"] (defScope s_row_before) := ⟨rfl, rfl, rfl, by decide +kernel, rfl, by decide +kernel, by decide +kernel⟩
theorem sc_turn_rows : FnScope ["offers", "many", "rows", "row", "_"] ["offers", "many"] (defScope s_turn_rows) := ⟨rfl, rfl, rfl, by decide +kernel, rfl, by decide +kernel, by decide +kernel⟩
theorem sc_turn_worth : FnScope ["offers", "many"] ["offers", "many"] (defScope s_turn_worth) := ⟨rfl, rfl, rfl, by decide +kernel, rfl, by decide +kernel, by decide +kernel⟩
theorem sc_turn_certificate : FnScope ["offers", "many", "row"] ["offers", "many"] (defScope s_turn_certificate) := ⟨rfl, rfl, rfl, by decide +kernel, rfl, by decide +kernel, by decide +kernel⟩
theorem sc_shows_turn : FnScope ["offers", "many", "rows", "at", "row", "one"] ["offers", "many", "rows"] (defScope s_shows_turn) := ⟨rfl, rfl, rfl, by decide +kernel, rfl, by decide +kernel, by decide +kernel⟩
theorem sc__law_bag : FnScope ["script", "cells", "cell"] ["script"] (defScope s__law_bag) := ⟨rfl, rfl, rfl, by decide +kernel, rfl, by decide +kernel, by decide +kernel⟩
theorem sc__law_draw : FnScope ["bag", "many", "cell", "got"] ["bag", "many"] (defScope s__law_draw) := ⟨rfl, rfl, rfl, by decide +kernel, rfl, by decide +kernel, by decide +kernel⟩
theorem sc__law_gcd : FnScope ["one", "two", "rest"] ["one", "two"] (defScope s__law_gcd) := ⟨rfl, rfl, rfl, by decide +kernel, rfl, by decide +kernel, by decide +kernel⟩
theorem sc__law_low : FnScope ["x", "by"] ["x"] (defScope s__law_low) := ⟨rfl, rfl, rfl, by decide +kernel, rfl, by decide +kernel, by decide +kernel⟩
theorem sc__law_plus : FnScope ["x", "y"] ["x", "y"] (defScope s__law_plus) := ⟨rfl, rfl, rfl, by decide +kernel, rfl, by decide +kernel, by decide +kernel⟩
theorem sc__law_times : FnScope ["x", "y"] ["x", "y"] (defScope s__law_times) := ⟨rfl, rfl, rfl, by decide +kernel, rfl, by decide +kernel, by decide +kernel⟩
theorem sc__law_below : FnScope ["x", "y"] ["x", "y"] (defScope s__law_below) := ⟨rfl, rfl, rfl, by decide +kernel, rfl, by decide +kernel, by decide +kernel⟩
theorem sc__law_equal : FnScope ["x", "y"] ["x", "y"] (defScope s__law_equal) := ⟨rfl, rfl, rfl, by decide +kernel, rfl, by decide +kernel, by decide +kernel⟩
theorem sc__law_greater : FnScope ["x", "y"] ["x", "y"] (defScope s__law_greater) := ⟨rfl, rfl, rfl, by decide +kernel, rfl, by decide +kernel, by decide +kernel⟩
theorem sc__law_pair : FnScope ["value"] ["value"] (defScope s__law_pair) := ⟨rfl, rfl, rfl, by decide +kernel, rfl, by decide +kernel, by decide +kernel⟩
theorem sc__law_pairs : FnScope ["values", "many", "found", "value"] ["values", "many"] (defScope s__law_pairs) := ⟨rfl, rfl, rfl, by decide +kernel, rfl, by decide +kernel, by decide +kernel⟩
theorem sc__law_is : FnScope ["value", "due", "found"] ["value", "due"] (defScope s__law_is) := ⟨rfl, rfl, rfl, by decide +kernel, rfl, by decide +kernel, by decide +kernel⟩
theorem sc__law_same : FnScope ["one", "other", "k"] ["one", "other"] (defScope s__law_same) := ⟨rfl, rfl, rfl, by decide +kernel, rfl, by decide +kernel, by decide +kernel⟩
theorem sc__law_offer : FnScope ["bag", "rows", "k", "worth", "row"] ["bag"] (defScope s__law_offer) := ⟨rfl, rfl, rfl, by decide +kernel, rfl, by decide +kernel, by decide +kernel⟩
theorem sc__law_offered : FnScope ["bag", "offers", "found", "offer", "rows", "weight", "worth", "value", "row"] ["bag", "offers"] (defScope s__law_offered) := ⟨rfl, rfl, rfl, by decide +kernel, rfl, by decide +kernel, by decide +kernel⟩
theorem sc__law_turns : FnScope ["offers", "many", "rows", "offer", "ahead", "fresh", "left", "total_v", "weight", "worth", "best"] ["offers", "many"] (defScope s__law_turns) := ⟨rfl, rfl, rfl, by decide +kernel, rfl, by decide +kernel, by decide +kernel⟩
theorem sc__law_written : FnScope ["table", "row", "one"] ["table"] (defScope s__law_written) := ⟨rfl, rfl, rfl, by decide +kernel, rfl, by decide +kernel, by decide +kernel⟩
theorem sc__law_table_right : FnScope ["table", "value", "due", "row", "found", "k"] ["table", "value"] (defScope s__law_table_right) := ⟨rfl, rfl, rfl, by decide +kernel, rfl, by decide +kernel, by decide +kernel⟩
theorem sc__law_bent : FnScope ["bag", "table", "other", "kind", "rows", "at", "left"] ["bag", "table", "other"] (defScope s__law_bent) := ⟨rfl, rfl, rfl, by decide +kernel, rfl, by decide +kernel, by decide +kernel⟩
theorem sc_law : FnScope ["script", "bag", "own", "offers", "many", "table", "told", "due", "others", "other", "k", "rows", "verdict", "listed", "row"] ["script"] (defScope s_law) := ⟨rfl, rfl, rfl, by decide +kernel, rfl, by decide +kernel, by decide +kernel⟩
structure Tx (K : PySem.W.Frag) (mg : Str → Option Value) : Prop where
  g_is_integer : mg "is_integer" = some (.ref (He.ga K "is_integer"))
  g_is_between : mg "is_between" = some (.ref (He.ga K "is_between"))
  g_is_sequence : mg "is_sequence" = some (.ref (He.ga K "is_sequence"))
  g_as_frac : mg "as_frac" = some (.ref (He.ga K "as_frac"))
  g_greatest_of : mg "greatest_of" = some (.ref (He.ga K "greatest_of"))
  g_total : mg "total" = some (.ref (He.ga K "total"))
  g_is_amount : mg "is_amount" = some (.ref (He.ga K "is_amount"))
  g_are_fracs : mg "are_fracs" = some (.ref (He.ga K "are_fracs"))
  g_is_shown : mg "is_shown" = some (.ref (He.ga K "is_shown"))
  g_is_offer : mg "is_offer" = some (.ref (He.ga K "is_offer"))
  g_shown_shares : mg "shown_shares" = some (.ref (He.ga K "shown_shares"))
  g_row_before : mg "row_before" = some (.ref (He.ga K "row_before"))
  g_turn_rows : mg "turn_rows" = some (.ref (He.ga K "turn_rows"))
  g_turn_worth : mg "turn_worth" = some (.ref (He.ga K "turn_worth"))
  g_turn_certificate : mg "turn_certificate" = some (.ref (He.ga K "turn_certificate"))
  g_shows_turn : mg "shows_turn" = some (.ref (He.ga K "shows_turn"))
  g__law_bag : mg "_law_bag" = some (.ref (He.ga K "_law_bag"))
  g__law_draw : mg "_law_draw" = some (.ref (He.ga K "_law_draw"))
  g__law_gcd : mg "_law_gcd" = some (.ref (He.ga K "_law_gcd"))
  g__law_low : mg "_law_low" = some (.ref (He.ga K "_law_low"))
  g__law_plus : mg "_law_plus" = some (.ref (He.ga K "_law_plus"))
  g__law_times : mg "_law_times" = some (.ref (He.ga K "_law_times"))
  g__law_below : mg "_law_below" = some (.ref (He.ga K "_law_below"))
  g__law_equal : mg "_law_equal" = some (.ref (He.ga K "_law_equal"))
  g__law_greater : mg "_law_greater" = some (.ref (He.ga K "_law_greater"))
  g__law_pair : mg "_law_pair" = some (.ref (He.ga K "_law_pair"))
  g__law_pairs : mg "_law_pairs" = some (.ref (He.ga K "_law_pairs"))
  g__law_is : mg "_law_is" = some (.ref (He.ga K "_law_is"))
  g__law_same : mg "_law_same" = some (.ref (He.ga K "_law_same"))
  g__law_offer : mg "_law_offer" = some (.ref (He.ga K "_law_offer"))
  g__law_offered : mg "_law_offered" = some (.ref (He.ga K "_law_offered"))
  g__law_turns : mg "_law_turns" = some (.ref (He.ga K "_law_turns"))
  g__law_written : mg "_law_written" = some (.ref (He.ga K "_law_written"))
  g__law_table_right : mg "_law_table_right" = some (.ref (He.ga K "_law_table_right"))
  g__law_bent : mg "_law_bent" = some (.ref (He.ga K "_law_bent"))
  g_law : mg "law" = some (.ref (He.ga K "law"))
  g_Frac : mg "Frac" = some (.ref (He.ga K "Frac"))
  g_Offers : mg "Offers" = some (.ref (He.ga K "Offers"))
  b_abs : mg "abs" = none
  b_all : mg "all" = none
  b_any : mg "any" = none
  b_bool : mg "bool" = none
  b_enumerate : mg "enumerate" = none
  b_int : mg "int" = none
  b_isinstance : mg "isinstance" = none
  b_len : mg "len" = none
  b_list : mg "list" = none
  b_range : mg "range" = none
  b_reversed : mg "reversed" = none
  b_str : mg "str" = none
  b_sum : mg "sum" = none
  b_tuple : mg "tuple" = none
  b_zip : mg "zip" = none
  i_MOST_OVER : ∃ t, mg "MOST_OVER" = some (.int 9999 t)
  i_MOST_UNDER : ∃ t, mg "MOST_UNDER" = some (.int 99 t)
  i_MOST_OFFERS : ∃ t, mg "MOST_OFFERS" = some (.int 8 t)
  i_MOST_SHOWN : ∃ t, mg "MOST_SHOWN" = some (.int 6 t)
  i_MOST_SHOWN_WEIGHT : ∃ t, mg "MOST_SHOWN_WEIGHT" = some (.int 99 t)
  gcd : mg "gcd" = some (.builtin "math.gcd")
  d_is_integer : ∃ fd, FunD K "is_integer" "is_integer" (defArgs s_is_integer) (defBody s_is_integer) (defScope s_is_integer) [] [] (He.fAd K ("is_integer", none)) fd
  d_is_between : ∃ fd, FunD K "is_between" "is_between" (defArgs s_is_between) (defBody s_is_between) (defScope s_is_between) [] [] (He.fAd K ("is_between", none)) fd
  d_is_sequence : ∃ fd, FunD K "is_sequence" "is_sequence" (defArgs s_is_sequence) (defBody s_is_sequence) (defScope s_is_sequence) [] [] (He.fAd K ("is_sequence", none)) fd
  d_FracD_initD : ∃ fd, FunD K "__init__" "Frac.__init__" (defArgs s_FracD_initD) (defBody s_FracD_initD) (defScope s_FracD_initD) [.int 1] [] (He.fAd K ("Frac", some "__init__")) fd
  d_FracD_addD : ∃ fd, FunD K "__add__" "Frac.__add__" (defArgs s_FracD_addD) (defBody s_FracD_addD) (defScope s_FracD_addD) [] [] (He.fAd K ("Frac", some "__add__")) fd
  d_FracD_subD : ∃ fd, FunD K "__sub__" "Frac.__sub__" (defArgs s_FracD_subD) (defBody s_FracD_subD) (defScope s_FracD_subD) [] [] (He.fAd K ("Frac", some "__sub__")) fd
  d_FracD_mulD : ∃ fd, FunD K "__mul__" "Frac.__mul__" (defArgs s_FracD_mulD) (defBody s_FracD_mulD) (defScope s_FracD_mulD) [] [] (He.fAd K ("Frac", some "__mul__")) fd
  d_FracD_eqD : ∃ fd, FunD K "__eq__" "Frac.__eq__" (defArgs s_FracD_eqD) (defBody s_FracD_eqD) (defScope s_FracD_eqD) [] [] (He.fAd K ("Frac", some "__eq__")) fd
  d_Frac_is_below : ∃ fd, FunD K "is_below" "Frac.is_below" (defArgs s_Frac_is_below) (defBody s_Frac_is_below) (defScope s_Frac_is_below) [] [] (He.fAd K ("Frac", some "is_below")) fd
  d_as_frac : ∃ fd, FunD K "as_frac" "as_frac" (defArgs s_as_frac) (defBody s_as_frac) (defScope s_as_frac) [] [] (He.fAd K ("as_frac", none)) fd
  d_greatest_of : ∃ fd, FunD K "greatest_of" "greatest_of" (defArgs s_greatest_of) (defBody s_greatest_of) (defScope s_greatest_of) [] [] (He.fAd K ("greatest_of", none)) fd
  d_total : ∃ fd, FunD K "total" "total" (defArgs s_total) (defBody s_total) (defScope s_total) [] [] (He.fAd K ("total", none)) fd
  d_is_amount : ∃ fd, FunD K "is_amount" "is_amount" (defArgs s_is_amount) (defBody s_is_amount) (defScope s_is_amount) [] [] (He.fAd K ("is_amount", none)) fd
  d_are_fracs : ∃ fd, FunD K "are_fracs" "are_fracs" (defArgs s_are_fracs) (defBody s_are_fracs) (defScope s_are_fracs) [] [] (He.fAd K ("are_fracs", none)) fd
  d_is_shown : ∃ fd, FunD K "is_shown" "is_shown" (defArgs s_is_shown) (defBody s_is_shown) (defScope s_is_shown) [] [] (He.fAd K ("is_shown", none)) fd
  d_is_offer : ∃ fd, FunD K "is_offer" "is_offer" (defArgs s_is_offer) (defBody s_is_offer) (defScope s_is_offer) [] [] (He.fAd K ("is_offer", none)) fd
  d_OffersD_initD : ∃ fd, FunD K "__init__" "Offers.__init__" (defArgs s_OffersD_initD) (defBody s_OffersD_initD) (defScope s_OffersD_initD) [] [] (He.fAd K ("Offers", some "__init__")) fd
  d_OffersD_lenD : ∃ fd, FunD K "__len__" "Offers.__len__" (defArgs s_OffersD_lenD) (defBody s_OffersD_lenD) (defScope s_OffersD_lenD) [] [] (He.fAd K ("Offers", some "__len__")) fd
  d_shown_shares : ∃ fd, FunD K "shown_shares" "shown_shares" (defArgs s_shown_shares) (defBody s_shown_shares) (defScope s_shown_shares) [] [] (He.fAd K ("shown_shares", none)) fd
  d_row_before : ∃ fd, FunD K "row_before" "row_before" (defArgs s_row_before) (defBody s_row_before) (defScope s_row_before) [] [] (He.fAd K ("row_before", none)) fd
  d_turn_rows : ∃ fd, FunD K "turn_rows" "turn_rows" (defArgs s_turn_rows) (defBody s_turn_rows) (defScope s_turn_rows) [] [] (He.fAd K ("turn_rows", none)) fd
  d_turn_worth : ∃ fd, FunD K "turn_worth" "turn_worth" (defArgs s_turn_worth) (defBody s_turn_worth) (defScope s_turn_worth) [] [] (He.fAd K ("turn_worth", none)) fd
  d_turn_certificate : ∃ fd, FunD K "turn_certificate" "turn_certificate" (defArgs s_turn_certificate) (defBody s_turn_certificate) (defScope s_turn_certificate) [] [] (He.fAd K ("turn_certificate", none)) fd
  d_shows_turn : ∃ fd, FunD K "shows_turn" "shows_turn" (defArgs s_shows_turn) (defBody s_shows_turn) (defScope s_shows_turn) [] [] (He.fAd K ("shows_turn", none)) fd
  d__law_bag : ∃ fd, FunD K "_law_bag" "_law_bag" (defArgs s__law_bag) (defBody s__law_bag) (defScope s__law_bag) [] [] (He.fAd K ("_law_bag", none)) fd
  d__law_draw : ∃ fd, FunD K "_law_draw" "_law_draw" (defArgs s__law_draw) (defBody s__law_draw) (defScope s__law_draw) [] [] (He.fAd K ("_law_draw", none)) fd
  d__law_gcd : ∃ fd, FunD K "_law_gcd" "_law_gcd" (defArgs s__law_gcd) (defBody s__law_gcd) (defScope s__law_gcd) [] [] (He.fAd K ("_law_gcd", none)) fd
  d__law_low : ∃ fd, FunD K "_law_low" "_law_low" (defArgs s__law_low) (defBody s__law_low) (defScope s__law_low) [] [] (He.fAd K ("_law_low", none)) fd
  d__law_plus : ∃ fd, FunD K "_law_plus" "_law_plus" (defArgs s__law_plus) (defBody s__law_plus) (defScope s__law_plus) [] [] (He.fAd K ("_law_plus", none)) fd
  d__law_times : ∃ fd, FunD K "_law_times" "_law_times" (defArgs s__law_times) (defBody s__law_times) (defScope s__law_times) [] [] (He.fAd K ("_law_times", none)) fd
  d__law_below : ∃ fd, FunD K "_law_below" "_law_below" (defArgs s__law_below) (defBody s__law_below) (defScope s__law_below) [] [] (He.fAd K ("_law_below", none)) fd
  d__law_equal : ∃ fd, FunD K "_law_equal" "_law_equal" (defArgs s__law_equal) (defBody s__law_equal) (defScope s__law_equal) [] [] (He.fAd K ("_law_equal", none)) fd
  d__law_greater : ∃ fd, FunD K "_law_greater" "_law_greater" (defArgs s__law_greater) (defBody s__law_greater) (defScope s__law_greater) [] [] (He.fAd K ("_law_greater", none)) fd
  d__law_pair : ∃ fd, FunD K "_law_pair" "_law_pair" (defArgs s__law_pair) (defBody s__law_pair) (defScope s__law_pair) [] [] (He.fAd K ("_law_pair", none)) fd
  d__law_pairs : ∃ fd, FunD K "_law_pairs" "_law_pairs" (defArgs s__law_pairs) (defBody s__law_pairs) (defScope s__law_pairs) [] [] (He.fAd K ("_law_pairs", none)) fd
  d__law_is : ∃ fd, FunD K "_law_is" "_law_is" (defArgs s__law_is) (defBody s__law_is) (defScope s__law_is) [] [] (He.fAd K ("_law_is", none)) fd
  d__law_same : ∃ fd, FunD K "_law_same" "_law_same" (defArgs s__law_same) (defBody s__law_same) (defScope s__law_same) [] [] (He.fAd K ("_law_same", none)) fd
  d__law_offer : ∃ fd, FunD K "_law_offer" "_law_offer" (defArgs s__law_offer) (defBody s__law_offer) (defScope s__law_offer) [] [] (He.fAd K ("_law_offer", none)) fd
  d__law_offered : ∃ fd, FunD K "_law_offered" "_law_offered" (defArgs s__law_offered) (defBody s__law_offered) (defScope s__law_offered) [] [] (He.fAd K ("_law_offered", none)) fd
  d__law_turns : ∃ fd, FunD K "_law_turns" "_law_turns" (defArgs s__law_turns) (defBody s__law_turns) (defScope s__law_turns) [] [] (He.fAd K ("_law_turns", none)) fd
  d__law_written : ∃ fd, FunD K "_law_written" "_law_written" (defArgs s__law_written) (defBody s__law_written) (defScope s__law_written) [] [] (He.fAd K ("_law_written", none)) fd
  d__law_table_right : ∃ fd, FunD K "_law_table_right" "_law_table_right" (defArgs s__law_table_right) (defBody s__law_table_right) (defScope s__law_table_right) [] [] (He.fAd K ("_law_table_right", none)) fd
  d__law_bent : ∃ fd, FunD K "_law_bent" "_law_bent" (defArgs s__law_bent) (defBody s__law_bent) (defScope s__law_bent) [] [] (He.fAd K ("_law_bent", none)) fd
  d_law : ∃ fd, FunD K "law" "law" (defArgs s_law) (defBody s_law) (defScope s_law) [] [] (He.fAd K ("law", none)) fd
  cl_Frac : Cls K (He.ga K "Frac")
  no_Frac_num : NoAttr K (He.ga K "Frac") "num"
  no_Frac_den : NoAttr K (He.ga K "Frac") "den"
  m_Frac_is_below : Meth K (He.ga K "Frac") "is_below" (He.ma K (He.ga K "Frac") "is_below")
  mk_Frac : Mk K (He.ga K "Frac") (He.ma K (He.ga K "Frac") "__init__")
  ins_Frac : InsF K (He.ga K "Frac")
  op_Frac_Add : PySem.W.findIn K (.ref (He.ga K "Frac")) (PySem.dunder (Operator.Add).info.2) = some (some (.ref (He.ma K (He.ga K "Frac") "__add__"))) ∧ PySem.W.isFn K (.ref (He.ma K (He.ga K "Frac") "__add__")) = true ∧ PySem.W.selfFirst K (He.ga K "Frac") = true
  op_Frac_Sub : PySem.W.findIn K (.ref (He.ga K "Frac")) (PySem.dunder (Operator.Sub).info.2) = some (some (.ref (He.ma K (He.ga K "Frac") "__sub__"))) ∧ PySem.W.isFn K (.ref (He.ma K (He.ga K "Frac") "__sub__")) = true ∧ PySem.W.selfFirst K (He.ga K "Frac") = true
  op_Frac_Mult : PySem.W.findIn K (.ref (He.ga K "Frac")) (PySem.dunder (Operator.Mult).info.2) = some (some (.ref (He.ma K (He.ga K "Frac") "__mul__"))) ∧ PySem.W.isFn K (.ref (He.ma K (He.ga K "Frac") "__mul__")) = true ∧ PySem.W.selfFirst K (He.ga K "Frac") = true
  sp_Frac_eq : PySem.W.findIn K (.ref (He.ga K "Frac")) "__eq__" = some (some (.ref (He.ma K (He.ga K "Frac") "__eq__"))) ∧ PySem.W.isFn K (.ref (He.ma K (He.ga K "Frac") "__eq__")) = true
  kit_Frac_NoneType : PySem.W.kitOne K (.ref (He.ga K "Frac")) (.type "NoneType") = some false
  tik_Frac_NoneType : PySem.W.kitOne K (.type "NoneType") (.ref (He.ga K "Frac")) = some false
  kit_Frac_bool : PySem.W.kitOne K (.ref (He.ga K "Frac")) (.type "bool") = some false
  tik_Frac_bool : PySem.W.kitOne K (.type "bool") (.ref (He.ga K "Frac")) = some false
  kit_Frac_int : PySem.W.kitOne K (.ref (He.ga K "Frac")) (.type "int") = some false
  tik_Frac_int : PySem.W.kitOne K (.type "int") (.ref (He.ga K "Frac")) = some false
  kit_Frac_str : PySem.W.kitOne K (.ref (He.ga K "Frac")) (.type "str") = some false
  tik_Frac_str : PySem.W.kitOne K (.type "str") (.ref (He.ga K "Frac")) = some false
  kit_Frac_list : PySem.W.kitOne K (.ref (He.ga K "Frac")) (.type "list") = some false
  tik_Frac_list : PySem.W.kitOne K (.type "list") (.ref (He.ga K "Frac")) = some false
  kit_Frac_tuple : PySem.W.kitOne K (.ref (He.ga K "Frac")) (.type "tuple") = some false
  tik_Frac_tuple : PySem.W.kitOne K (.type "tuple") (.ref (He.ga K "Frac")) = some false
  kit_Frac_dict : PySem.W.kitOne K (.ref (He.ga K "Frac")) (.type "dict") = some false
  tik_Frac_dict : PySem.W.kitOne K (.type "dict") (.ref (He.ga K "Frac")) = some false
  kic_Frac_Frac : PySem.W.kitOne K (.ref (He.ga K "Frac")) (.ref (He.ga K "Frac")) = some true
  kic_Frac_Offers : PySem.W.kitOne K (.ref (He.ga K "Frac")) (.ref (He.ga K "Offers")) = some false
  cl_Offers : Cls K (He.ga K "Offers")
  no_Offers_rows : NoAttr K (He.ga K "Offers") "rows"
  mk_Offers : Mk K (He.ga K "Offers") (He.ma K (He.ga K "Offers") "__init__")
  ins_Offers : InsF K (He.ga K "Offers")
  sp_Offers_len : PySem.W.findIn K (.ref (He.ga K "Offers")) "__len__" = some (some (.ref (He.ma K (He.ga K "Offers") "__len__"))) ∧ PySem.W.isFn K (.ref (He.ma K (He.ga K "Offers") "__len__")) = true
  kit_Offers_NoneType : PySem.W.kitOne K (.ref (He.ga K "Offers")) (.type "NoneType") = some false
  tik_Offers_NoneType : PySem.W.kitOne K (.type "NoneType") (.ref (He.ga K "Offers")) = some false
  kit_Offers_bool : PySem.W.kitOne K (.ref (He.ga K "Offers")) (.type "bool") = some false
  tik_Offers_bool : PySem.W.kitOne K (.type "bool") (.ref (He.ga K "Offers")) = some false
  kit_Offers_int : PySem.W.kitOne K (.ref (He.ga K "Offers")) (.type "int") = some false
  tik_Offers_int : PySem.W.kitOne K (.type "int") (.ref (He.ga K "Offers")) = some false
  kit_Offers_str : PySem.W.kitOne K (.ref (He.ga K "Offers")) (.type "str") = some false
  tik_Offers_str : PySem.W.kitOne K (.type "str") (.ref (He.ga K "Offers")) = some false
  kit_Offers_list : PySem.W.kitOne K (.ref (He.ga K "Offers")) (.type "list") = some false
  tik_Offers_list : PySem.W.kitOne K (.type "list") (.ref (He.ga K "Offers")) = some false
  kit_Offers_tuple : PySem.W.kitOne K (.ref (He.ga K "Offers")) (.type "tuple") = some false
  tik_Offers_tuple : PySem.W.kitOne K (.type "tuple") (.ref (He.ga K "Offers")) = some false
  kit_Offers_dict : PySem.W.kitOne K (.ref (He.ga K "Offers")) (.type "dict") = some false
  tik_Offers_dict : PySem.W.kitOne K (.type "dict") (.ref (He.ga K "Offers")) = some false
  kic_Offers_Frac : PySem.W.kitOne K (.ref (He.ga K "Offers")) (.ref (He.ga K "Frac")) = some false
  kic_Offers_Offers : PySem.W.kitOne K (.ref (He.ga K "Offers")) (.ref (He.ga K "Offers")) = some true
end K
end

section
set_option maxRecDepth 100000
set_option maxHeartbeats 0
namespace KH
open PySem PySem.Spec PyProof.Rows L2 G K
def fn : List He.DefD := [⟨("is_integer", none), "is_integer", "is_integer", defArgs s_is_integer, defBody s_is_integer, defScope s_is_integer, [], []⟩,
  ⟨("is_between", none), "is_between", "is_between", defArgs s_is_between, defBody s_is_between, defScope s_is_between, [], []⟩,
  ⟨("is_sequence", none), "is_sequence", "is_sequence", defArgs s_is_sequence, defBody s_is_sequence, defScope s_is_sequence, [], []⟩,
  ⟨("Frac", some "__init__"), "__init__", "Frac.__init__", defArgs s_FracD_initD, defBody s_FracD_initD, defScope s_FracD_initD, [.int 1], []⟩,
  ⟨("Frac", some "__add__"), "__add__", "Frac.__add__", defArgs s_FracD_addD, defBody s_FracD_addD, defScope s_FracD_addD, [], []⟩,
  ⟨("Frac", some "__sub__"), "__sub__", "Frac.__sub__", defArgs s_FracD_subD, defBody s_FracD_subD, defScope s_FracD_subD, [], []⟩,
  ⟨("Frac", some "__mul__"), "__mul__", "Frac.__mul__", defArgs s_FracD_mulD, defBody s_FracD_mulD, defScope s_FracD_mulD, [], []⟩,
  ⟨("Frac", some "__eq__"), "__eq__", "Frac.__eq__", defArgs s_FracD_eqD, defBody s_FracD_eqD, defScope s_FracD_eqD, [], []⟩,
  ⟨("Frac", some "is_below"), "is_below", "Frac.is_below", defArgs s_Frac_is_below, defBody s_Frac_is_below, defScope s_Frac_is_below, [], []⟩,
  ⟨("as_frac", none), "as_frac", "as_frac", defArgs s_as_frac, defBody s_as_frac, defScope s_as_frac, [], []⟩,
  ⟨("greatest_of", none), "greatest_of", "greatest_of", defArgs s_greatest_of, defBody s_greatest_of, defScope s_greatest_of, [], []⟩,
  ⟨("total", none), "total", "total", defArgs s_total, defBody s_total, defScope s_total, [], []⟩,
  ⟨("is_amount", none), "is_amount", "is_amount", defArgs s_is_amount, defBody s_is_amount, defScope s_is_amount, [], []⟩,
  ⟨("are_fracs", none), "are_fracs", "are_fracs", defArgs s_are_fracs, defBody s_are_fracs, defScope s_are_fracs, [], []⟩,
  ⟨("is_shown", none), "is_shown", "is_shown", defArgs s_is_shown, defBody s_is_shown, defScope s_is_shown, [], []⟩,
  ⟨("is_offer", none), "is_offer", "is_offer", defArgs s_is_offer, defBody s_is_offer, defScope s_is_offer, [], []⟩,
  ⟨("Offers", some "__init__"), "__init__", "Offers.__init__", defArgs s_OffersD_initD, defBody s_OffersD_initD, defScope s_OffersD_initD, [], []⟩,
  ⟨("Offers", some "__len__"), "__len__", "Offers.__len__", defArgs s_OffersD_lenD, defBody s_OffersD_lenD, defScope s_OffersD_lenD, [], []⟩,
  ⟨("shown_shares", none), "shown_shares", "shown_shares", defArgs s_shown_shares, defBody s_shown_shares, defScope s_shown_shares, [], []⟩,
  ⟨("row_before", none), "row_before", "row_before", defArgs s_row_before, defBody s_row_before, defScope s_row_before, [], []⟩,
  ⟨("turn_rows", none), "turn_rows", "turn_rows", defArgs s_turn_rows, defBody s_turn_rows, defScope s_turn_rows, [], []⟩,
  ⟨("turn_worth", none), "turn_worth", "turn_worth", defArgs s_turn_worth, defBody s_turn_worth, defScope s_turn_worth, [], []⟩,
  ⟨("turn_certificate", none), "turn_certificate", "turn_certificate", defArgs s_turn_certificate, defBody s_turn_certificate, defScope s_turn_certificate, [], []⟩,
  ⟨("shows_turn", none), "shows_turn", "shows_turn", defArgs s_shows_turn, defBody s_shows_turn, defScope s_shows_turn, [], []⟩,
  ⟨("_law_bag", none), "_law_bag", "_law_bag", defArgs s__law_bag, defBody s__law_bag, defScope s__law_bag, [], []⟩,
  ⟨("_law_draw", none), "_law_draw", "_law_draw", defArgs s__law_draw, defBody s__law_draw, defScope s__law_draw, [], []⟩,
  ⟨("_law_gcd", none), "_law_gcd", "_law_gcd", defArgs s__law_gcd, defBody s__law_gcd, defScope s__law_gcd, [], []⟩,
  ⟨("_law_low", none), "_law_low", "_law_low", defArgs s__law_low, defBody s__law_low, defScope s__law_low, [], []⟩,
  ⟨("_law_plus", none), "_law_plus", "_law_plus", defArgs s__law_plus, defBody s__law_plus, defScope s__law_plus, [], []⟩,
  ⟨("_law_times", none), "_law_times", "_law_times", defArgs s__law_times, defBody s__law_times, defScope s__law_times, [], []⟩,
  ⟨("_law_below", none), "_law_below", "_law_below", defArgs s__law_below, defBody s__law_below, defScope s__law_below, [], []⟩,
  ⟨("_law_equal", none), "_law_equal", "_law_equal", defArgs s__law_equal, defBody s__law_equal, defScope s__law_equal, [], []⟩,
  ⟨("_law_greater", none), "_law_greater", "_law_greater", defArgs s__law_greater, defBody s__law_greater, defScope s__law_greater, [], []⟩,
  ⟨("_law_pair", none), "_law_pair", "_law_pair", defArgs s__law_pair, defBody s__law_pair, defScope s__law_pair, [], []⟩,
  ⟨("_law_pairs", none), "_law_pairs", "_law_pairs", defArgs s__law_pairs, defBody s__law_pairs, defScope s__law_pairs, [], []⟩,
  ⟨("_law_is", none), "_law_is", "_law_is", defArgs s__law_is, defBody s__law_is, defScope s__law_is, [], []⟩,
  ⟨("_law_same", none), "_law_same", "_law_same", defArgs s__law_same, defBody s__law_same, defScope s__law_same, [], []⟩,
  ⟨("_law_offer", none), "_law_offer", "_law_offer", defArgs s__law_offer, defBody s__law_offer, defScope s__law_offer, [], []⟩,
  ⟨("_law_offered", none), "_law_offered", "_law_offered", defArgs s__law_offered, defBody s__law_offered, defScope s__law_offered, [], []⟩,
  ⟨("_law_turns", none), "_law_turns", "_law_turns", defArgs s__law_turns, defBody s__law_turns, defScope s__law_turns, [], []⟩,
  ⟨("_law_written", none), "_law_written", "_law_written", defArgs s__law_written, defBody s__law_written, defScope s__law_written, [], []⟩,
  ⟨("_law_table_right", none), "_law_table_right", "_law_table_right", defArgs s__law_table_right, defBody s__law_table_right, defScope s__law_table_right, [], []⟩,
  ⟨("_law_bent", none), "_law_bent", "_law_bent", defArgs s__law_bent, defBody s__law_bent, defScope s__law_bent, [], []⟩,
  ⟨("law", none), "law", "law", defArgs s_law, defBody s_law, defScope s_law, [], []⟩]
def fa : List He.Fa := [.glo "is_integer", .glo "is_between", .glo "is_sequence", .glo "as_frac", .glo "greatest_of", .glo "total", .glo "is_amount", .glo "are_fracs", .glo "is_shown", .glo "is_offer", .glo "shown_shares", .glo "row_before", .glo "turn_rows", .glo "turn_worth", .glo "turn_certificate", .glo "shows_turn", .glo "_law_bag", .glo "_law_draw", .glo "_law_gcd", .glo "_law_low", .glo "_law_plus", .glo "_law_times", .glo "_law_below", .glo "_law_equal", .glo "_law_greater", .glo "_law_pair", .glo "_law_pairs", .glo "_law_is", .glo "_law_same", .glo "_law_offer", .glo "_law_offered", .glo "_law_turns", .glo "_law_written", .glo "_law_table_right", .glo "_law_bent", .glo "law", .glo "Frac", .glo "Offers", .free "abs", .free "all", .free "any", .free "bool", .free "enumerate", .free "int", .free "isinstance", .free "len", .free "list", .free "range", .free "reversed", .free "str", .free "sum", .free "tuple", .free "zip", .int "MOST_OVER" 9999, .int "MOST_UNDER" 99, .int "MOST_OFFERS" 8, .int "MOST_SHOWN" 6, .int "MOST_SHOWN_WEIGHT" 99, .cls "Frac", .noat "Frac" "num", .noat "Frac" "den", .meth "Frac" "is_below", .mkr "Frac", .cls "Offers", .noat "Offers" "rows", .mkr "Offers"]
def chk (K : PySem.W.Frag) : List Bool := [He.eqO (PySem.W.nsIn K mainGlobals "gcd") (some (some (.builtin "math.gcd"))),
  He.eqO (PySem.W.findIn K (.ref (He.ga K "Frac")) "__class__") (some (some (.builtin "object.__class__"))),
  He.eqO (PySem.W.specialIn K (.builtin "object.__class__") "__get__") (some (some (.builtin "getset_descriptor.__get__"))),
  decide (PySem.W.takesIn K (.builtin "object.__class__") = some true),
  decide (PySem.W.mroIn K (He.ga K "Frac") (.type "object") = some true),
  He.eqO (PySem.W.findIn K (.ref (He.ga K "Frac")) (PySem.dunder (Operator.Add).info.2)) (some (some (.ref (He.ma K (He.ga K "Frac") "__add__")))),
  PySem.W.isFn K (.ref (He.ma K (He.ga K "Frac") "__add__")),
  PySem.W.selfFirst K (He.ga K "Frac"),
  He.eqO (PySem.W.findIn K (.ref (He.ga K "Frac")) (PySem.dunder (Operator.Sub).info.2)) (some (some (.ref (He.ma K (He.ga K "Frac") "__sub__")))),
  PySem.W.isFn K (.ref (He.ma K (He.ga K "Frac") "__sub__")),
  PySem.W.selfFirst K (He.ga K "Frac"),
  He.eqO (PySem.W.findIn K (.ref (He.ga K "Frac")) (PySem.dunder (Operator.Mult).info.2)) (some (some (.ref (He.ma K (He.ga K "Frac") "__mul__")))),
  PySem.W.isFn K (.ref (He.ma K (He.ga K "Frac") "__mul__")),
  PySem.W.selfFirst K (He.ga K "Frac"),
  He.eqO (PySem.W.findIn K (.ref (He.ga K "Frac")) "__eq__") (some (some (.ref (He.ma K (He.ga K "Frac") "__eq__")))),
  PySem.W.isFn K (.ref (He.ma K (He.ga K "Frac") "__eq__")),
  decide (PySem.W.kitOne K (.ref (He.ga K "Frac")) (.type "NoneType") = some false),
  decide (PySem.W.kitOne K (.type "NoneType") (.ref (He.ga K "Frac")) = some false),
  decide (PySem.W.kitOne K (.ref (He.ga K "Frac")) (.type "bool") = some false),
  decide (PySem.W.kitOne K (.type "bool") (.ref (He.ga K "Frac")) = some false),
  decide (PySem.W.kitOne K (.ref (He.ga K "Frac")) (.type "int") = some false),
  decide (PySem.W.kitOne K (.type "int") (.ref (He.ga K "Frac")) = some false),
  decide (PySem.W.kitOne K (.ref (He.ga K "Frac")) (.type "str") = some false),
  decide (PySem.W.kitOne K (.type "str") (.ref (He.ga K "Frac")) = some false),
  decide (PySem.W.kitOne K (.ref (He.ga K "Frac")) (.type "list") = some false),
  decide (PySem.W.kitOne K (.type "list") (.ref (He.ga K "Frac")) = some false),
  decide (PySem.W.kitOne K (.ref (He.ga K "Frac")) (.type "tuple") = some false),
  decide (PySem.W.kitOne K (.type "tuple") (.ref (He.ga K "Frac")) = some false),
  decide (PySem.W.kitOne K (.ref (He.ga K "Frac")) (.type "dict") = some false),
  decide (PySem.W.kitOne K (.type "dict") (.ref (He.ga K "Frac")) = some false),
  decide (PySem.W.kitOne K (.ref (He.ga K "Frac")) (.ref (He.ga K "Frac")) = some true),
  decide (PySem.W.kitOne K (.ref (He.ga K "Frac")) (.ref (He.ga K "Offers")) = some false),
  He.eqO (PySem.W.findIn K (.ref (He.ga K "Offers")) "__class__") (some (some (.builtin "object.__class__"))),
  He.eqO (PySem.W.specialIn K (.builtin "object.__class__") "__get__") (some (some (.builtin "getset_descriptor.__get__"))),
  decide (PySem.W.takesIn K (.builtin "object.__class__") = some true),
  decide (PySem.W.mroIn K (He.ga K "Offers") (.type "object") = some true),
  He.eqO (PySem.W.findIn K (.ref (He.ga K "Offers")) "__len__") (some (some (.ref (He.ma K (He.ga K "Offers") "__len__")))),
  PySem.W.isFn K (.ref (He.ma K (He.ga K "Offers") "__len__")),
  decide (PySem.W.kitOne K (.ref (He.ga K "Offers")) (.type "NoneType") = some false),
  decide (PySem.W.kitOne K (.type "NoneType") (.ref (He.ga K "Offers")) = some false),
  decide (PySem.W.kitOne K (.ref (He.ga K "Offers")) (.type "bool") = some false),
  decide (PySem.W.kitOne K (.type "bool") (.ref (He.ga K "Offers")) = some false),
  decide (PySem.W.kitOne K (.ref (He.ga K "Offers")) (.type "int") = some false),
  decide (PySem.W.kitOne K (.type "int") (.ref (He.ga K "Offers")) = some false),
  decide (PySem.W.kitOne K (.ref (He.ga K "Offers")) (.type "str") = some false),
  decide (PySem.W.kitOne K (.type "str") (.ref (He.ga K "Offers")) = some false),
  decide (PySem.W.kitOne K (.ref (He.ga K "Offers")) (.type "list") = some false),
  decide (PySem.W.kitOne K (.type "list") (.ref (He.ga K "Offers")) = some false),
  decide (PySem.W.kitOne K (.ref (He.ga K "Offers")) (.type "tuple") = some false),
  decide (PySem.W.kitOne K (.type "tuple") (.ref (He.ga K "Offers")) = some false),
  decide (PySem.W.kitOne K (.ref (He.ga K "Offers")) (.type "dict") = some false),
  decide (PySem.W.kitOne K (.type "dict") (.ref (He.ga K "Offers")) = some false),
  decide (PySem.W.kitOne K (.ref (He.ga K "Offers")) (.ref (He.ga K "Frac")) = some false),
  decide (PySem.W.kitOne K (.ref (He.ga K "Offers")) (.ref (He.ga K "Offers")) = some true)]
abbrev R : PySem.W.OpenRow := PySem.W.OpenLaw.row PySem.Challenge.rw_nextprices_k77_whole_shown_turns
abbrev qv : Program := PySem.W.view R.prog [0, 76]
abbrev hk : PySem.W.Hook := HG.hookX 4 chk fa fn
def ob (s : PySem.W.SharedT) : HG.AlX := HG.obsXG 4 chk fa fn (HandSHeadRun.getT s)
theorem ob_eq (s : PySem.W.SharedT) : ob s = hk.obs s.abs := HG.obsXG_eq (HandSHeadRun.getT_eq s)
def loose : List Str := (["_wall", "NextError", "InvalidFraction", "InvalidProject", "Endless", "InvalidFamily", "NotClosed", "NotNested", "NoExchange", "WrongSize", "InvalidStanding", "InvalidDeed", "InvalidPlan", "NoEnd", "InvalidCertificate", "TooMany", "InvalidText", "NothingToUndo", "DIGITS", "is_integer", "is_between", "is_sequence", "integer_told", "Frac", "as_frac", "greatest_of", "total", "MOST_OVER", "MOST_UNDER", "is_amount"] : List Str) ++ (["are_fracs", "MOST_OFFERS", "MOST_SHOWN", "MOST_SHOWN_WEIGHT", "is_shown", "is_offer", "Offers", "shown_shares", "row_before", "turn_rows", "turn_worth", "turn_certificate", "shows_turn", "_law_bag", "_law_draw", "_law_gcd", "_law_low", "_law_plus", "_law_minus", "_law_times", "_law_over", "_law_below", "_law_equal", "_law_greater", "_law_pair", "_law_pairs", "_law_is", "_law_kind", "_law_same", "_law_wrong_discount"] : List Str) ++ (["_law_is_wrong", "_law_offer", "_law_offered", "_law_turns", "_law_frac", "_law_written", "_law_table_right", "_law_bent"] : List Str)
theorem run (w : World) : HandSHeadRun.RunEqI R qv hk ob 12000 loose w := by
  unfold HandSHeadRun.RunEqI
  kernel_rfl
theorem facts {K : PySem.W.Frag} {h : Heap} {mg : Str → Option Value} (X : K.In h) (G : h.Ns mainGlobals mg) (c : HG.SaysX chk fa fn K) : Tx K mg where
  g_is_integer := He.glo_ok X G (c.fact 0 rfl)
  g_is_between := He.glo_ok X G (c.fact 1 rfl)
  g_is_sequence := He.glo_ok X G (c.fact 2 rfl)
  g_as_frac := He.glo_ok X G (c.fact 3 rfl)
  g_greatest_of := He.glo_ok X G (c.fact 4 rfl)
  g_total := He.glo_ok X G (c.fact 5 rfl)
  g_is_amount := He.glo_ok X G (c.fact 6 rfl)
  g_are_fracs := He.glo_ok X G (c.fact 7 rfl)
  g_is_shown := He.glo_ok X G (c.fact 8 rfl)
  g_is_offer := He.glo_ok X G (c.fact 9 rfl)
  g_shown_shares := He.glo_ok X G (c.fact 10 rfl)
  g_row_before := He.glo_ok X G (c.fact 11 rfl)
  g_turn_rows := He.glo_ok X G (c.fact 12 rfl)
  g_turn_worth := He.glo_ok X G (c.fact 13 rfl)
  g_turn_certificate := He.glo_ok X G (c.fact 14 rfl)
  g_shows_turn := He.glo_ok X G (c.fact 15 rfl)
  g__law_bag := He.glo_ok X G (c.fact 16 rfl)
  g__law_draw := He.glo_ok X G (c.fact 17 rfl)
  g__law_gcd := He.glo_ok X G (c.fact 18 rfl)
  g__law_low := He.glo_ok X G (c.fact 19 rfl)
  g__law_plus := He.glo_ok X G (c.fact 20 rfl)
  g__law_times := He.glo_ok X G (c.fact 21 rfl)
  g__law_below := He.glo_ok X G (c.fact 22 rfl)
  g__law_equal := He.glo_ok X G (c.fact 23 rfl)
  g__law_greater := He.glo_ok X G (c.fact 24 rfl)
  g__law_pair := He.glo_ok X G (c.fact 25 rfl)
  g__law_pairs := He.glo_ok X G (c.fact 26 rfl)
  g__law_is := He.glo_ok X G (c.fact 27 rfl)
  g__law_same := He.glo_ok X G (c.fact 28 rfl)
  g__law_offer := He.glo_ok X G (c.fact 29 rfl)
  g__law_offered := He.glo_ok X G (c.fact 30 rfl)
  g__law_turns := He.glo_ok X G (c.fact 31 rfl)
  g__law_written := He.glo_ok X G (c.fact 32 rfl)
  g__law_table_right := He.glo_ok X G (c.fact 33 rfl)
  g__law_bent := He.glo_ok X G (c.fact 34 rfl)
  g_law := He.glo_ok X G (c.fact 35 rfl)
  g_Frac := He.glo_ok X G (c.fact 36 rfl)
  g_Offers := He.glo_ok X G (c.fact 37 rfl)
  b_abs := He.free_ok X G (c.fact 38 rfl)
  b_all := He.free_ok X G (c.fact 39 rfl)
  b_any := He.free_ok X G (c.fact 40 rfl)
  b_bool := He.free_ok X G (c.fact 41 rfl)
  b_enumerate := He.free_ok X G (c.fact 42 rfl)
  b_int := He.free_ok X G (c.fact 43 rfl)
  b_isinstance := He.free_ok X G (c.fact 44 rfl)
  b_len := He.free_ok X G (c.fact 45 rfl)
  b_list := He.free_ok X G (c.fact 46 rfl)
  b_range := He.free_ok X G (c.fact 47 rfl)
  b_reversed := He.free_ok X G (c.fact 48 rfl)
  b_str := He.free_ok X G (c.fact 49 rfl)
  b_sum := He.free_ok X G (c.fact 50 rfl)
  b_tuple := He.free_ok X G (c.fact 51 rfl)
  b_zip := He.free_ok X G (c.fact 52 rfl)
  i_MOST_OVER := He.int_ok X G (c.fact 53 rfl)
  i_MOST_UNDER := He.int_ok X G (c.fact 54 rfl)
  i_MOST_OFFERS := He.int_ok X G (c.fact 55 rfl)
  i_MOST_SHOWN := He.int_ok X G (c.fact 56 rfl)
  i_MOST_SHOWN_WEIGHT := He.int_ok X G (c.fact 57 rfl)
  gcd := PySem.W.mg_of X G (He.eqO_ok (c.bit 0 rfl))
  d_is_integer := c.def_ 0 rfl
  d_is_between := c.def_ 1 rfl
  d_is_sequence := c.def_ 2 rfl
  d_FracD_initD := c.def_ 3 rfl
  d_FracD_addD := c.def_ 4 rfl
  d_FracD_subD := c.def_ 5 rfl
  d_FracD_mulD := c.def_ 6 rfl
  d_FracD_eqD := c.def_ 7 rfl
  d_Frac_is_below := c.def_ 8 rfl
  d_as_frac := c.def_ 9 rfl
  d_greatest_of := c.def_ 10 rfl
  d_total := c.def_ 11 rfl
  d_is_amount := c.def_ 12 rfl
  d_are_fracs := c.def_ 13 rfl
  d_is_shown := c.def_ 14 rfl
  d_is_offer := c.def_ 15 rfl
  d_OffersD_initD := c.def_ 16 rfl
  d_OffersD_lenD := c.def_ 17 rfl
  d_shown_shares := c.def_ 18 rfl
  d_row_before := c.def_ 19 rfl
  d_turn_rows := c.def_ 20 rfl
  d_turn_worth := c.def_ 21 rfl
  d_turn_certificate := c.def_ 22 rfl
  d_shows_turn := c.def_ 23 rfl
  d__law_bag := c.def_ 24 rfl
  d__law_draw := c.def_ 25 rfl
  d__law_gcd := c.def_ 26 rfl
  d__law_low := c.def_ 27 rfl
  d__law_plus := c.def_ 28 rfl
  d__law_times := c.def_ 29 rfl
  d__law_below := c.def_ 30 rfl
  d__law_equal := c.def_ 31 rfl
  d__law_greater := c.def_ 32 rfl
  d__law_pair := c.def_ 33 rfl
  d__law_pairs := c.def_ 34 rfl
  d__law_is := c.def_ 35 rfl
  d__law_same := c.def_ 36 rfl
  d__law_offer := c.def_ 37 rfl
  d__law_offered := c.def_ 38 rfl
  d__law_turns := c.def_ 39 rfl
  d__law_written := c.def_ 40 rfl
  d__law_table_right := c.def_ 41 rfl
  d__law_bent := c.def_ 42 rfl
  d_law := c.def_ 43 rfl
  cl_Frac := He.cls_ok (c.fact 58 rfl)
  no_Frac_num := He.noat_ok (c.fact 59 rfl)
  no_Frac_den := He.noat_ok (c.fact 60 rfl)
  m_Frac_is_below := He.meth_ok (c.fact 61 rfl)
  mk_Frac := He.mkr_ok (c.fact 62 rfl)
  ins_Frac := ⟨He.cls_ok (c.fact 58 rfl), He.eqO_ok (c.bit 1 rfl), He.eqO_ok (c.bit 2 rfl), of_decide_eq_true (c.bit 3 rfl), of_decide_eq_true (c.bit 4 rfl)⟩
  op_Frac_Add := ⟨He.eqO_ok (c.bit 5 rfl), (c.bit 6 rfl), (c.bit 7 rfl)⟩
  op_Frac_Sub := ⟨He.eqO_ok (c.bit 8 rfl), (c.bit 9 rfl), (c.bit 10 rfl)⟩
  op_Frac_Mult := ⟨He.eqO_ok (c.bit 11 rfl), (c.bit 12 rfl), (c.bit 13 rfl)⟩
  sp_Frac_eq := ⟨He.eqO_ok (c.bit 14 rfl), (c.bit 15 rfl)⟩
  kit_Frac_NoneType := of_decide_eq_true (c.bit 16 rfl)
  tik_Frac_NoneType := of_decide_eq_true (c.bit 17 rfl)
  kit_Frac_bool := of_decide_eq_true (c.bit 18 rfl)
  tik_Frac_bool := of_decide_eq_true (c.bit 19 rfl)
  kit_Frac_int := of_decide_eq_true (c.bit 20 rfl)
  tik_Frac_int := of_decide_eq_true (c.bit 21 rfl)
  kit_Frac_str := of_decide_eq_true (c.bit 22 rfl)
  tik_Frac_str := of_decide_eq_true (c.bit 23 rfl)
  kit_Frac_list := of_decide_eq_true (c.bit 24 rfl)
  tik_Frac_list := of_decide_eq_true (c.bit 25 rfl)
  kit_Frac_tuple := of_decide_eq_true (c.bit 26 rfl)
  tik_Frac_tuple := of_decide_eq_true (c.bit 27 rfl)
  kit_Frac_dict := of_decide_eq_true (c.bit 28 rfl)
  tik_Frac_dict := of_decide_eq_true (c.bit 29 rfl)
  kic_Frac_Frac := of_decide_eq_true (c.bit 30 rfl)
  kic_Frac_Offers := of_decide_eq_true (c.bit 31 rfl)
  cl_Offers := He.cls_ok (c.fact 63 rfl)
  no_Offers_rows := He.noat_ok (c.fact 64 rfl)
  mk_Offers := He.mkr_ok (c.fact 65 rfl)
  ins_Offers := ⟨He.cls_ok (c.fact 63 rfl), He.eqO_ok (c.bit 32 rfl), He.eqO_ok (c.bit 33 rfl), of_decide_eq_true (c.bit 34 rfl), of_decide_eq_true (c.bit 35 rfl)⟩
  sp_Offers_len := ⟨He.eqO_ok (c.bit 36 rfl), (c.bit 37 rfl)⟩
  kit_Offers_NoneType := of_decide_eq_true (c.bit 38 rfl)
  tik_Offers_NoneType := of_decide_eq_true (c.bit 39 rfl)
  kit_Offers_bool := of_decide_eq_true (c.bit 40 rfl)
  tik_Offers_bool := of_decide_eq_true (c.bit 41 rfl)
  kit_Offers_int := of_decide_eq_true (c.bit 42 rfl)
  tik_Offers_int := of_decide_eq_true (c.bit 43 rfl)
  kit_Offers_str := of_decide_eq_true (c.bit 44 rfl)
  tik_Offers_str := of_decide_eq_true (c.bit 45 rfl)
  kit_Offers_list := of_decide_eq_true (c.bit 46 rfl)
  tik_Offers_list := of_decide_eq_true (c.bit 47 rfl)
  kit_Offers_tuple := of_decide_eq_true (c.bit 48 rfl)
  tik_Offers_tuple := of_decide_eq_true (c.bit 49 rfl)
  kit_Offers_dict := of_decide_eq_true (c.bit 50 rfl)
  tik_Offers_dict := of_decide_eq_true (c.bit 51 rfl)
  kic_Offers_Frac := of_decide_eq_true (c.bit 52 rfl)
  kic_Offers_Offers := of_decide_eq_true (c.bit 53 rfl)
end KH
end

section
set_option maxRecDepth 100000
set_option maxHeartbeats 2000000
/-! what the program's functions compute, in rationals -/
namespace G
open PySem PySem.Spec PyProof.Rows L2
abbrev ORow := List (Int × Rat)
def vec (g : Nat → Rat) (n : Nat) : List D := (List.range n).map fun i => .frac (g i)
def updF (g : Nat → Rat) (i : Nat) (v : Rat) : Nat → Rat := fun j => if j = i then v else g j
theorem vec_len {g : Nat → Rat} {n : Nat} : (vec g n).length = n := by simp [vec]
theorem vec_at {g : Nat → Rat} {n i : Nat} (h : i < n) : (vec g n)[i]? = some (.frac (g i)) := by simp [vec, h]
theorem vec_succ {g : Nat → Rat} {n : Nat} : vec g (n + 1) = vec g n ++ [.frac (g n)] := by simp [vec, List.range_succ]
theorem vec_set {g : Nat → Rat} {n i : Nat} {v : Rat} : (vec g n).set i (.frac v) = vec (updF g i v) n := by
  apply List.ext_getElem?
  intro j
  rw [List.getElem?_set]
  by_cases hi : i = j
  · subst hi
    by_cases hn : i < n
    · rw [if_pos rfl, if_pos (by rw [vec_len]; exact hn), vec_at hn]; simp [updF]
    · rw [if_pos rfl, if_neg (by rw [vec_len]; exact hn)]; simp [vec, Nat.le_of_not_lt hn]
  · by_cases hn : j < n
    · rw [if_neg hi, vec_at hn, vec_at hn]; simp [updF, Ne.symm hi]
    · rw [if_neg hi]; simp [vec, Nat.le_of_not_lt hn]
theorem vec_congr {f g : Nat → Rat} {n : Nat} (h : ∀ i, i < n → f i = g i) : vec f n = vec g n := by
  unfold vec; apply List.map_congr_left; intro i hi; rw [h i (List.mem_range.mp hi)]
def sumN (f : Nat → Rat) (n : Nat) : Rat := ((List.range n).map f).sum
theorem sumN_zero {f : Nat → Rat} : sumN f 0 = 0 := rfl
theorem sumN_succ {f : Nat → Rat} {n : Nat} : sumN f (n + 1) = sumN f n + f n := by
  unfold sumN; rw [List.range_succ, List.map_append, List.sum_append]; simp [Rat.add_zero]
theorem sumN_congr {f g : Nat → Rat} {n : Nat} (h : ∀ i, i < n → f i = g i) : sumN f n = sumN g n := by
  unfold sumN; congr 1; apply List.map_congr_left; intro i hi; exact h i (List.mem_range.mp hi)
def NiceF (k : Nat) (g : Nat → Rat) : Prop := ∀ i, Nice k (g i)
theorem NiceF.sumN {k n : Nat} {f : Nat → Rat} (h : ∀ i, i < n → Nice k (f i)) (hn : n ≤ 32) : Nice (k + 1) (sumN f n) :=
  Nice.sum (fun x hx => by obtain ⟨i, hi, rfl⟩ := List.mem_map.mp hx; exact h i (List.mem_range.mp hi)) (by simpa using hn)
def whole (r : ORow) : Int := (r.map (·.1)).sum
def share (r : ORow) (w : Int) : Rat := Rat.divInt w (whole r)
structure RowOk (r : ORow) : Prop where
  ne : r ≠ []
  len : r.length ≤ 6
  w1 : ∀ p ∈ r, 1 ≤ p.1
  w2 : ∀ p ∈ r, p.1 ≤ 99
  n : ∀ p ∈ r, Nice 1 p.2
  sh : ∀ p ∈ r, Nice 1 (share r p.1)
theorem sum_pos : ∀ {l : List Int}, (∀ i ∈ l, 1 ≤ i) → (l.length : Int) ≤ l.sum
  | [], _ => by simp
  | a :: l, h => by
    have := sum_pos (l := l) fun i hi => h i (List.mem_cons_of_mem _ hi)
    have := h a List.mem_cons_self
    rw [List.sum_cons, List.length_cons]; omega
theorem sum_le {b : Int} : ∀ {l : List Int}, (∀ i ∈ l, i ≤ b) → l.sum ≤ l.length * b
  | [], _ => by simp
  | a :: l, h => by
    have := sum_le (l := l) fun i hi => h i (List.mem_cons_of_mem _ hi)
    have := h a List.mem_cons_self
    rw [List.sum_cons, List.length_cons]
    push_cast
    rw [Int.add_mul]; omega
theorem RowOk.whole_pos {r : ORow} (h : RowOk r) : 0 < whole r := by
  have h1 := sum_pos (l := r.map (·.1)) fun i hi => by obtain ⟨p, hp, rfl⟩ := List.mem_map.mp hi; exact h.w1 p hp
  have h2 : 0 < r.length := List.length_pos_iff.mpr h.ne
  rw [List.length_map] at h1
  unfold whole; omega
theorem RowOk.whole_le {r : ORow} (h : RowOk r) : whole r ≤ 594 := by
  have h1 := sum_le (l := r.map (·.1)) (b := 99) fun i hi => by obtain ⟨p, hp, rfl⟩ := List.mem_map.mp hi; exact h.w2 p hp
  have h2 := h.len
  rw [List.length_map] at h1
  unfold whole; omega
/-! the table -/
def rowB (r : ORow) (g : Nat → Rat) : Nat → Rat
  | 0 => 0
  | i + 1 => (r.map fun p => share r p.1 * rmax (p.2 + g i) (g (i + 1))).sum
def TT : List ORow → Nat → Rat
  | [] => fun _ => 0
  | r :: rs => rowB r (TT rs)
theorem nice_part {r : ORow} (h : RowOk r) {k : Nat} {g : Nat → Rat} (hk : 1 ≤ k) (hg : NiceF k g) {p : Int × Rat} (hp : p ∈ r) (i : Nat) : Nice (k + 2) (share r p.1 * rmax (p.2 + g i) (g (i + 1))) := by
  have := (h.sh p hp).mul ((((h.n p hp).mono hk).add (hg i)).rmax ((hg (i + 1)).up))
  rwa [show 1 + (k + 1) = k + 2 by omega] at this
theorem NiceF.rowB {r : ORow} (h : RowOk r) {k : Nat} {g : Nat → Rat} (hk : 1 ≤ k) (hg : NiceF k g) : NiceF (k + 3) (rowB r g)
  | 0 => Nice.zero _
  | i + 1 => Nice.sum (fun x hx => by obtain ⟨p, hp, rfl⟩ := List.mem_map.mp hx; exact nice_part h hk hg hp i) (by rw [List.length_map]; have := h.len; omega)
theorem NiceF.TT : ∀ {rs : List ORow}, (∀ r ∈ rs, RowOk r) → NiceF (3 * rs.length + 1) (TT rs)
  | [], _ => fun _ => Nice.zero _
  | r :: rs, h => by
    have := NiceF.rowB (h r List.mem_cons_self) (k := 3 * rs.length + 1) (by omega) (NiceF.TT fun q hq => h q (List.mem_cons_of_mem _ hq))
    rwa [show 3 * rs.length + 1 + 3 = 3 * (r :: rs).length + 1 by rw [List.length_cons]; omega] at this
def bar (g : Nat → Rat) (l : Nat) : Rat := g (l + 1) - g l
/-! what is taken -/
def takes (b : Rat) (p : Int × Rat) : Bool := decide (0 < p.2.num) && !decide (p.2 < b)
def part (r : ORow) (b : Rat) : Rat := ((r.filter (takes b)).map fun p => share r p.1).sum
def gain (r : ORow) (b : Rat) : Rat := ((r.filter (takes b)).map fun p => share r p.1 * p.2).sum
theorem Nice.partR {r : ORow} (h : RowOk r) (b : Rat) : Nice 2 (part r b) :=
  Nice.sum (fun x hx => by obtain ⟨p, hp, rfl⟩ := List.mem_map.mp hx; exact h.sh p (List.mem_filter.mp hp).1) (by rw [List.length_map]; have := h.len; have := List.length_filter_le (takes b) r; omega)
theorem Nice.gainR {r : ORow} (h : RowOk r) (b : Rat) : Nice 3 (gain r b) :=
  Nice.sum (fun x hx => by obtain ⟨p, hp, rfl⟩ := List.mem_map.mp hx; exact (h.sh p (List.mem_filter.mp hp).1).mul (h.n p (List.mem_filter.mp hp).1)) (by rw [List.length_map]; have := h.len; have := List.length_filter_le (takes b) r; omega)
/-! the chances -/
def mv (r : ORow) (b c : Nat → Rat) (l : Nat) : Rat := c (l + 1) * part r (b l)
def gv (r : ORow) (b c : Nat → Rat) (l : Nat) : Rat := c (l + 1) * gain r (b l)
def lat (r : ORow) (b c : Nat → Rat) : Nat → Nat → Rat
  | 0 => c
  | j + 1 => updF (updF (lat r b c j) (j + 1) (lat r b c j (j + 1) - mv r b c j)) j (updF (lat r b c j) (j + 1) (lat r b c j (j + 1) - mv r b c j) j + mv r b c j)
theorem lat_far {r : ORow} {b c : Nat → Rat} : ∀ {j l : Nat}, j < l → lat r b c j l = c l
  | 0, _, _ => rfl
  | j + 1, l, h => by
    show updF _ j _ l = _
    unfold updF
    rw [if_neg (by omega), if_neg (by omega)]
    exact lat_far (by omega)
theorem Nice.mv {r : ORow} (h : RowOk r) {b c : Nat → Rat} {k : Nat} (hc : NiceF k c) (l : Nat) : Nice (k + 2) (mv r b c l) := (hc (l + 1)).mul (Nice.partR h _)
theorem Nice.gv {r : ORow} (h : RowOk r) {b c : Nat → Rat} {k : Nat} (hc : NiceF k c) (l : Nat) : Nice (k + 3) (gv r b c l) := (hc (l + 1)).mul (Nice.gainR h _)
theorem lat_nice {r : ORow} (h : RowOk r) {b c : Nat → Rat} {k : Nat} (hc : NiceF k c) : ∀ j, Nice (k + 3) (lat r b c j j) ∧ ∀ l, Nice (k + 4) (lat r b c j l)
  | 0 => ⟨(hc 0).mono (by omega), fun l => (hc l).mono (by omega)⟩
  | j + 1 => by
    obtain ⟨h1, h2⟩ := lat_nice h hc j
    have e1 : Nice (k + 3) (lat r b c j (j + 1) - G.mv r b c j) := by
      rw [lat_far (by omega)]
      exact ((hc (j + 1)).mono (show k ≤ k + 2 by omega)).sub (Nice.mv h hc j)
    refine ⟨?_, fun l => ?_⟩
    · show Nice _ (updF _ j _ (j + 1))
      unfold updF
      rw [if_neg (by omega), if_pos rfl]
      exact e1
    · show Nice _ (updF _ j _ l)
      unfold updF
      by_cases hl : l = j
      · rw [if_pos hl, if_neg (by omega)]
        exact h1.add ((Nice.mv h hc j).mono (by omega))
      · rw [if_neg hl]
        by_cases hl2 : l = j + 1
        · rw [if_pos hl2]; exact e1.up
        · rw [if_neg hl2]; exact h2 l
/-- the chances behind each offer -/
def CC (many : Nat) : List ORow → (Nat → Rat) → Nat → Nat → Rat
  | _, c, 0 => c
  | [], c, _ + 1 => c
  | r :: rs, c, n + 1 => CC many rs (lat r (bar (TT rs)) c many) n
def c0 (many : Nat) : Nat → Rat := fun l => if l = many then 1 else 0
end G
end

section
set_option maxRecDepth 100000
set_option maxHeartbeats 2000000
/-! the chances, turn by turn -/
namespace G
open PySem PySem.Spec PyProof.Rows L2
def rowAt (rs : List ORow) (i : Nat) : ORow := rs.getD i []
def barAt (rs : List ORow) (i : Nat) : Nat → Rat := bar (TT (rs.drop (i + 1)))
def ch (rs : List ORow) (n : Nat) : Nat → Nat → Rat
  | 0 => c0 n
  | i + 1 => lat (rowAt rs i) (barAt rs i) (ch rs n i) n
def told (rs : List ORow) (n i : Nat) : Rat := sumN (mv (rowAt rs i) (barAt rs i) (ch rs n i)) n
def meanT (rs : List ORow) (n i : Nat) : Rat := sumN (gv (rowAt rs i) (barAt rs i) (ch rs n i)) n
theorem rowAt_of {rs : List ORow} {i : Nat} {r : ORow} (h : rs[i]? = some r) : rowAt rs i = r := by simp [rowAt, h]
theorem c0_nice {n : Nat} : NiceF 1 (c0 n) := fun i => by
  unfold c0; split
  · exact Nice.int (i := 1) (by decide)
  · exact Nice.zero 1
theorem rowAt_ok {rs : List ORow} (h : ∀ r ∈ rs, RowOk r) {i : Nat} (hi : i < rs.length) : RowOk (rowAt rs i) := by
  have : rs[i]? = some rs[i] := by simp [hi]
  rw [rowAt_of this]; exact h _ (List.getElem_mem hi)
theorem ch_nice {rs : List ORow} {n : Nat} (h : ∀ r ∈ rs, RowOk r) : ∀ {i : Nat}, i ≤ rs.length → NiceF (4 * i + 1) (ch rs n i)
  | 0, _ => c0_nice
  | i + 1, hi => fun l => (lat_nice (rowAt_ok h (by omega)) (ch_nice h (i := i) (by omega)) n).2 l
theorem TT_drop {rs : List ORow} {i : Nat} (hi : i < rs.length) : TT (rs.drop i) = rowB (rowAt rs i) (TT (rs.drop (i + 1))) := by
  rw [List.drop_eq_getElem_cons hi]
  have : rs[i]? = some rs[i] := by simp [hi]
  rw [rowAt_of this]; rfl
theorem TT_nice {rs : List ORow} (h : ∀ r ∈ rs, RowOk r) (i : Nat) : NiceF (3 * rs.length + 1) (TT (rs.drop i)) := fun l =>
  (NiceF.TT (fun r hr => h r (List.mem_of_mem_drop hr)) l).mono (by rw [List.length_drop]; omega)
theorem range_rev {α : Type} (f : Nat → α) (n : Nat) : ((List.range (n + 1)).map fun i => f (n - i)).reverse = (List.range (n + 1)).map f := by
  apply List.ext_getElem
  · simp
  · intro i h1 h2
    simp at h1 h2
    simp [List.getElem_reverse]
    congr 1
    omega
end G
end

section
set_option maxRecDepth 100000
set_option maxHeartbeats 2000000
/-! the law's own reckoning -/
namespace G
open PySem PySem.Spec PyProof.Rows L2
section
variable {C : Cl} {B : Bs} {Γ : List Sl} {t u : TS} {te ta tb : TE} {nx bk ct : List Sl → Prop} {rt : List Sl → D → Prop} {K : D → Prop}
/-- a loop with a state that is not told -/
theorem sx_forGS {wi : TI} {g : TG} (h : IK C B Γ wi fun l => ∃ (α : Type) (xs : List α) (f : α → D) (τ : Type) (F : Nat → τ → List Sl) (P : Nat → τ → Prop), l = xs.map f ∧ (∃ s, P 0 s ∧ Wk Γ (F 0 s)) ∧
      (∀ B' j x s, xs[j]? = some x → P j s → GK C B' (F j s) g (f x) fun Γ2 => SX C B' Γ2 t (fun Γ' => ∃ s', P (j + 1) s' ∧ Wk Γ' (F (j + 1) s')) rt nx (fun Γ' => ∃ s', P (j + 1) s' ∧ Wk Γ' (F (j + 1) s'))) ∧ ∀ Γ' s, P xs.length s → Wk Γ' (F xs.length s) → nx Γ') : SX C B Γ (tFor wi g t) nx rt bk ct :=
  sx_forG (h.mono fun l ⟨α, xs, f, τ, F, P, e, h0, hs, hd⟩ => by
    subst e
    refine ⟨fun j Γ' => ∃ s, P j s ∧ Wk Γ' (F j s), h0, fun B' j d Γ' hj ⟨s, p, w⟩ => gk_weak w ?_, fun Γ' ⟨s, p, w⟩ => ?_⟩
    · rw [List.getElem?_map] at hj
      cases hx : xs[j]? with
      | none => rw [hx] at hj; cases hj
      | some x =>
        rw [hx] at hj; cases hj
        exact hs B' j x s hx p
    · rw [List.length_map] at p w
      exact hd Γ' s p w)
end
def vecL (g : Nat → Rat) (n : Nat) : List D := (List.range n).map fun i => lowD (g i)
theorem vecL_len {g : Nat → Rat} {n : Nat} : (vecL g n).length = n := by simp [vecL]
theorem vecL_at {g : Nat → Rat} {n i : Nat} (h : i < n) : (vecL g n)[i]? = some (lowD (g i)) := by simp [vecL, h]
theorem vecL_succ {g : Nat → Rat} {n : Nat} : vecL g (n + 1) = vecL g n ++ [lowD (g n)] := by simp [vecL, List.range_succ]
theorem vecL_set {g : Nat → Rat} {n i : Nat} {v : Rat} : (vecL g n).set i (lowD v) = vecL (updF g i v) n := by
  apply List.ext_getElem?
  intro j
  rw [List.getElem?_set]
  by_cases hi : i = j
  · subst hi
    by_cases hn : i < n
    · rw [if_pos rfl, if_pos (by rw [vecL_len]; exact hn), vecL_at hn]; simp [updF]
    · rw [if_pos rfl, if_neg (by rw [vecL_len]; exact hn)]; simp [vecL, Nat.le_of_not_lt hn]
  · by_cases hn : j < n
    · rw [if_neg hi, vecL_at hn, vecL_at hn]; simp [updF, Ne.symm hi]
    · rw [if_neg hi]; simp [vecL, Nat.le_of_not_lt hn]
/-- an offer of the law's own -/
def ownD (r : ORow) : D := .dic [(.inr "rows", .lst (r.map fun p => .lst [.int p.1, lowD p.2])), (.inr "all", .int (whole r))]
/-! the chances, the law's way: one row of an offer at a time -/
def stepF (r : ORow) (b : Rat) (c : Nat → Rat) (l : Nat) (g : Nat → Rat) (p : Int × Rat) : Nat → Rat :=
  if takes b p then updF g l (g l + c (l + 1) * share r p.1) else updF g (l + 1) (g (l + 1) + c (l + 1) * share r p.1)
def stepS (r : ORow) (b : Rat) (c : Nat → Rat) (l : Nat) (a : Rat) (p : Int × Rat) : Rat := if takes b p then a + c (l + 1) * share r p.1 else a
def stepM (r : ORow) (b : Rat) (c : Nat → Rat) (l : Nat) (a : Rat) (p : Int × Rat) : Rat := if takes b p then a + c (l + 1) * share r p.1 * p.2 else a
def dF (r : ORow) (b c : Nat → Rat) : Nat → Nat → Rat
  | 0 => updF (fun _ => 0) 0 (c 0)
  | l + 1 => r.foldl (stepF r (b l) c l) (dF r b c l)
def dS (r : ORow) (b c : Nat → Rat) : Nat → Rat
  | 0 => 0
  | l + 1 => r.foldl (stepS r (b l) c l) (dS r b c l)
def dM (r : ORow) (b c : Nat → Rat) : Nat → Rat
  | 0 => 0
  | l + 1 => r.foldl (stepM r (b l) c l) (dM r b c l)
def lch (rs : List ORow) (n : Nat) : Nat → Nat → Rat
  | 0 => c0 n
  | i + 1 => dF (rowAt rs i) (barAt rs i) (lch rs n i) n
theorem foldl_take {α β : Type} {f : β → α → β} {a : β} {xs : List α} {j : Nat} {x : α} (h : xs[j]? = some x) : (xs.take (j + 1)).foldl f a = f ((xs.take j).foldl f a) x := by
  rw [List.take_succ, h, List.foldl_append]; rfl
theorem stepF_nice {r : ORow} (h : RowOk r) {b : Rat} {c : Nat → Rat} {k m l : Nat} (hc : NiceF k c) (hm : k + 1 ≤ m) : ∀ {ps : List (Int × Rat)} {g : Nat → Rat}, (∀ p ∈ ps, p ∈ r) → NiceF m g → NiceF (m + ps.length) (ps.foldl (stepF r b c l) g)
  | [], g, _, hg => hg
  | p :: ps, g, hp, hg => by
    have n1 : Nice m (c (l + 1) * share r p.1) := ((hc (l + 1)).mul (h.sh p (hp p List.mem_cons_self))).mono hm
    have n2 : NiceF (m + 1) (stepF r b c l g p) := fun i => by
      unfold stepF
      split <;> unfold updF <;> split
      · exact (hg _).add n1
      · exact (hg i).up
      · exact (hg _).add n1
      · exact (hg i).up
    have := stepF_nice h (b := b) (m := m + 1) (l := l) hc (by omega) (ps := ps) (fun q hq => hp q (List.mem_cons_of_mem _ hq)) n2
    rwa [show m + 1 + ps.length = m + (p :: ps).length by rw [List.length_cons]; omega] at this
theorem stepS_nice {r : ORow} (h : RowOk r) {b : Rat} {c : Nat → Rat} {k m l : Nat} (hc : NiceF k c) (hm : k + 1 ≤ m) : ∀ {ps : List (Int × Rat)} {a : Rat}, (∀ p ∈ ps, p ∈ r) → Nice m a → Nice (m + ps.length) (ps.foldl (stepS r b c l) a)
  | [], _, _, hg => hg
  | p :: ps, a, hp, hg => by
    have n1 : Nice m (c (l + 1) * share r p.1) := ((hc (l + 1)).mul (h.sh p (hp p List.mem_cons_self))).mono hm
    have n2 : Nice (m + 1) (stepS r b c l a p) := by
      unfold stepS
      split
      · exact hg.add n1
      · exact hg.up
    have := stepS_nice h (b := b) (m := m + 1) (l := l) hc (by omega) (ps := ps) (fun q hq => hp q (List.mem_cons_of_mem _ hq)) n2
    rwa [show m + 1 + ps.length = m + (p :: ps).length by rw [List.length_cons]; omega] at this
theorem stepM_nice {r : ORow} (h : RowOk r) {b : Rat} {c : Nat → Rat} {k m l : Nat} (hc : NiceF k c) (hm : k + 2 ≤ m) : ∀ {ps : List (Int × Rat)} {a : Rat}, (∀ p ∈ ps, p ∈ r) → Nice m a → Nice (m + ps.length) (ps.foldl (stepM r b c l) a)
  | [], _, _, hg => hg
  | p :: ps, a, hp, hg => by
    have n1 : Nice m (c (l + 1) * share r p.1 * p.2) := (((hc (l + 1)).mul (h.sh p (hp p List.mem_cons_self))).mul (h.n p (hp p List.mem_cons_self))).mono hm
    have n2 : Nice (m + 1) (stepM r b c l a p) := by
      unfold stepM
      split
      · exact hg.add n1
      · exact hg.up
    have := stepM_nice h (b := b) (m := m + 1) (l := l) hc (by omega) (ps := ps) (fun q hq => hp q (List.mem_cons_of_mem _ hq)) n2
    rwa [show m + 1 + ps.length = m + (p :: ps).length by rw [List.length_cons]; omega] at this
theorem take_sub {r : ORow} {j : Nat} : ∀ p ∈ r.take j, p ∈ r := fun _ h => List.mem_of_mem_take h
theorem dF_nice {r : ORow} (h : RowOk r) (h3 : r.length ≤ 3) {b c : Nat → Rat} {k : Nat} (hc : NiceF k c) : ∀ l, NiceF (k + 1 + 3 * l) (dF r b c l)
  | 0 => fun i => by
    unfold dF updF; split
    · exact (hc 0).up
    · exact Nice.zero _
  | l + 1 => fun i => (stepF_nice h hc (by omega) (fun _ h => h) (dF_nice h h3 hc l) i).mono (by omega)
theorem dS_nice {r : ORow} (h : RowOk r) (h3 : r.length ≤ 3) {b c : Nat → Rat} {k : Nat} (hc : NiceF k c) : ∀ l, Nice (k + 1 + 3 * l) (dS r b c l)
  | 0 => Nice.zero _
  | l + 1 => (stepS_nice h hc (by omega) (fun _ h => h) (dS_nice h h3 hc l)).mono (by omega)
theorem dM_nice {r : ORow} (h : RowOk r) (h3 : r.length ≤ 3) {b c : Nat → Rat} {k : Nat} (hc : NiceF k c) : ∀ l, Nice (k + 2 + 3 * l) (dM r b c l)
  | 0 => Nice.zero _
  | l + 1 => (stepM_nice h hc (by omega) (fun _ h => h) (dM_nice h h3 hc l)).mono (by omega)
theorem lch_nice {rs : List ORow} {n : Nat} (h : ∀ r ∈ rs, RowOk r ∧ r.length ≤ 3) : ∀ {i : Nat}, i ≤ rs.length → NiceF ((1 + 3 * n) * i + 1) (lch rs n i)
  | 0, _ => fun j => (c0_nice j).mono (by omega)
  | i + 1, hi => fun l => by
    have hr : RowOk (rowAt rs i) ∧ (rowAt rs i).length ≤ 3 := by
      have : rs[i]? = some rs[i] := by simp [show i < rs.length by omega]
      rw [rowAt_of this]; exact h _ (List.getElem_mem (by omega))
    have := dF_nice hr.1 hr.2 (b := barAt rs i) (lch_nice (n := n) h (i := i) (by omega)) n l
    refine this.mono ?_
    rw [Nat.mul_succ]; omega
theorem x_low {q : Rat} {p : Kd → List D → Prop} (h : p .t [.int q.num, .int (q.den : Nat)]) : ∃ k m, lowD q = Kd.d k m ∧ p k m := ⟨.t, _, rfl, h⟩
end G
end

section
set_option maxRecDepth 100000
set_option maxHeartbeats 4000000
namespace K
open PySem PySem.Spec PyProof.Rows L2 G

/-! the bag that a law draws from -/
def bagK (W : Hp) (o : Option HO) : Prop := ∃ (a : Addr) (cells : List Int) (at_ : Nat) (big mixed count : Int), o = some (.dK [(.inr "cells", .ref a), (.inr "at", .int at_), (.inr "big", .int big), (.inr "mixed", .int mixed), (.inr "count", .int count)]) ∧
  W a = some (.lst (cells.map V.int)) ∧ at_ ≤ cells.length ∧ cells.length ≤ 63 ∧ (∀ c ∈ cells, 0 ≤ c) ∧ 0 ≤ big ∧ 0 ≤ mixed ∧ mixed < 2 ^ 61 ∧ 0 ≤ count
@[reducible] def CL (K : PySem.W.Frag) (n : Hp) : Cl where
  frac := He.ga K "Frac"
  cls := fun _ => He.ga K "Offers"
  pk := bagK
  m := n
  pkm := fun s ⟨a, c, n, b, m, k, h1, h2, h3⟩ => ⟨a, c, n, b, m, k, h1, s _ _ h2, h3⟩
  pks := fun ⟨_, _, _, _, _, _, h, _⟩ => ⟨_, h⟩
theorem fam (K : PySem.W.Frag) : Fam (CL K) := ⟨fun _ _ => rfl, fun _ _ => rfl, fun _ _ _ _ h => h, fun _ => rfl⟩
theorem atI_nat {α : Type} {l : List α} {i : Nat} {x : α} (h : l[i]? = some x) : atI l (i : Int) = some x := by
  have hl : i < l.length := (List.getElem?_eq_some_iff.mp h).1
  unfold atI ixN
  rw [if_pos (by omega), if_pos (by omega)]
  simpa using h
/-- data whose type is known -/
def _root_.G.D.isInt : D → Bool
  | .int _ => true
  | _ => false
def _root_.G.D.isSeq : D → Bool
  | .lst _ => true
  | .tup _ => true
  | .mls _ => true
  | _ => false
def _root_.G.D.isFrac : D → Bool
  | .frac _ => true
  | _ => false
theorem isFrac_ex : ∀ {d : D}, d.isFrac = true → ∃ q, d = .frac q
  | .frac q, _ => ⟨q, rfl⟩
def AmtD (d : D) (q : Rat) : Prop := (∃ i : Int, d = .int i ∧ q = (i : Rat)) ∨ d = .frac q
inductive Kn : D → Prop where
  | non : Kn .non
  | bl (b : Bool) : Kn (.bl b)
  | int (i : Int) : Kn (.int i)
  | str (s : Str) : Kn (.str s)
  | lst (l : List D) : Kn (.lst l)
  | tup (l : List D) : Kn (.tup l)
  | frac (q : Rat) : Kn (.frac q)
  | mls (l : List D) : Kn (.mls l)
def _root_.G.D.inst (d : D) (n : String) : Bool := match d with
  | .bl _ => n == "bool" || n == "int"
  | .int _ => n == "int"
  | .str _ => n == "str"
  | .lst _ => n == "list"
  | .tup _ => n == "tuple"
  | .mls _ => n == "list"
  | _ => false
theorem AmtD.kn {d : D} {q : Rat} : AmtD d q → Kn d
  | .inl ⟨i, h, _⟩ => h ▸ .int i
  | .inr h => h ▸ .frac q
section
variable {K : PySem.W.Frag} {nn : Hp} {mg : Str → Option Value} {B : Bs} {Q : D → Prop}
theorem ck_ty (T : Tx K mg) {d : D} (kn : Kn d) {n : String} (hn : n = "int" ∨ n = "bool" ∨ n = "list" ∨ n = "tuple" ∨ n = "str") (k : Q (.bl (d.inst n))) : CK (CL K nn) B (rIsU K) [d, .ty n] Q := by
  rcases hn with rfl | rfl | rfl | rfl | rfl <;> cases kn
  · exact ck_is (.non) (.ty _) (kit_ty (by decide +kernel : kitB "NoneType" "int" = some false)) k
  · exact ck_is (.bl _) (.ty _) (kit_ty (by decide +kernel : kitB "bool" "int" = some true)) k
  · exact ck_is (.int _) (.ty _) (kit_ty (by decide +kernel : kitB "int" "int" = some true)) k
  · exact ck_is (.str _) (.ty _) (kit_ty (by decide +kernel : kitB "str" "int" = some false)) k
  · exact ck_is (.lst _) (.ty _) (kit_ty (by decide +kernel : kitB "list" "int" = some false)) k
  · exact ck_is (.tup _) (.ty _) (kit_ty (by decide +kernel : kitB "tuple" "int" = some false)) k
  · exact ck_is (C := CL K nn) (.frac _ T.ins_Frac) (.ty _) T.kit_Frac_int k
  · exact ck_is (.mls _) (.ty _) (kit_ty (by decide +kernel : kitB "list" "int" = some false)) k
  · exact ck_is (.non) (.ty _) (kit_ty (by decide +kernel : kitB "NoneType" "bool" = some false)) k
  · exact ck_is (.bl _) (.ty _) (kit_ty (by decide +kernel : kitB "bool" "bool" = some true)) k
  · exact ck_is (.int _) (.ty _) (kit_ty (by decide +kernel : kitB "int" "bool" = some false)) k
  · exact ck_is (.str _) (.ty _) (kit_ty (by decide +kernel : kitB "str" "bool" = some false)) k
  · exact ck_is (.lst _) (.ty _) (kit_ty (by decide +kernel : kitB "list" "bool" = some false)) k
  · exact ck_is (.tup _) (.ty _) (kit_ty (by decide +kernel : kitB "tuple" "bool" = some false)) k
  · exact ck_is (C := CL K nn) (.frac _ T.ins_Frac) (.ty _) T.kit_Frac_bool k
  · exact ck_is (.mls _) (.ty _) (kit_ty (by decide +kernel : kitB "list" "bool" = some false)) k
  · exact ck_is (.non) (.ty _) (kit_ty (by decide +kernel : kitB "NoneType" "list" = some false)) k
  · exact ck_is (.bl _) (.ty _) (kit_ty (by decide +kernel : kitB "bool" "list" = some false)) k
  · exact ck_is (.int _) (.ty _) (kit_ty (by decide +kernel : kitB "int" "list" = some false)) k
  · exact ck_is (.str _) (.ty _) (kit_ty (by decide +kernel : kitB "str" "list" = some false)) k
  · exact ck_is (.lst _) (.ty _) (kit_ty (by decide +kernel : kitB "list" "list" = some true)) k
  · exact ck_is (.tup _) (.ty _) (kit_ty (by decide +kernel : kitB "tuple" "list" = some false)) k
  · exact ck_is (C := CL K nn) (.frac _ T.ins_Frac) (.ty _) T.kit_Frac_list k
  · exact ck_is (.mls _) (.ty _) (kit_ty (by decide +kernel : kitB "list" "list" = some true)) k
  · exact ck_is (.non) (.ty _) (kit_ty (by decide +kernel : kitB "NoneType" "tuple" = some false)) k
  · exact ck_is (.bl _) (.ty _) (kit_ty (by decide +kernel : kitB "bool" "tuple" = some false)) k
  · exact ck_is (.int _) (.ty _) (kit_ty (by decide +kernel : kitB "int" "tuple" = some false)) k
  · exact ck_is (.str _) (.ty _) (kit_ty (by decide +kernel : kitB "str" "tuple" = some false)) k
  · exact ck_is (.lst _) (.ty _) (kit_ty (by decide +kernel : kitB "list" "tuple" = some false)) k
  · exact ck_is (.tup _) (.ty _) (kit_ty (by decide +kernel : kitB "tuple" "tuple" = some true)) k
  · exact ck_is (C := CL K nn) (.frac _ T.ins_Frac) (.ty _) T.kit_Frac_tuple k
  · exact ck_is (.mls _) (.ty _) (kit_ty (by decide +kernel : kitB "list" "tuple" = some false)) k
  · exact ck_is (.non) (.ty _) (kit_ty (by decide +kernel : kitB "NoneType" "str" = some false)) k
  · exact ck_is (.bl _) (.ty _) (kit_ty (by decide +kernel : kitB "bool" "str" = some false)) k
  · exact ck_is (.int _) (.ty _) (kit_ty (by decide +kernel : kitB "int" "str" = some false)) k
  · exact ck_is (.str _) (.ty _) (kit_ty (by decide +kernel : kitB "str" "str" = some true)) k
  · exact ck_is (.lst _) (.ty _) (kit_ty (by decide +kernel : kitB "list" "str" = some false)) k
  · exact ck_is (.tup _) (.ty _) (kit_ty (by decide +kernel : kitB "tuple" "str" = some false)) k
  · exact ck_is (C := CL K nn) (.frac _ T.ins_Frac) (.ty _) T.kit_Frac_str k
  · exact ck_is (.mls _) (.ty _) (kit_ty (by decide +kernel : kitB "list" "str" = some false)) k
theorem ck_fr (T : Tx K mg) {d : D} (kn : Kn d) (k : Q (.bl d.isFrac)) : CK (CL K nn) B (rIsU K) [d, .cls (He.ga K "Frac")] Q := by
  cases kn
  · exact ck_is (.non) (.cls _) T.tik_Frac_NoneType k
  · exact ck_is (.bl _) (.cls _) T.tik_Frac_bool k
  · exact ck_is (.int _) (.cls _) T.tik_Frac_int k
  · exact ck_is (.str _) (.cls _) T.tik_Frac_str k
  · exact ck_is (.lst _) (.cls _) T.tik_Frac_list k
  · exact ck_is (.tup _) (.cls _) T.tik_Frac_tuple k
  · exact ck_is (C := CL K nn) (.frac _ T.ins_Frac) (.cls _) T.kic_Frac_Frac k
  · exact ck_is (.mls _) (.cls _) T.tik_Frac_list k
theorem ck_lt (T : Tx K mg) {d : D} (kn : Kn d) (k : Q (.bl d.isSeq)) : CK (CL K nn) B (rIsU K) [d, .tup [.ty "list", .ty "tuple"]] Q := by
  have two : ∀ {t : Value} {b : Bool}, PySem.W.kitOne K t (.type "list") = some b → ∀ {c : Bool}, PySem.W.kitOne K t (.type "tuple") = some c → PySem.W.kitAny K t [.type "list", .type "tuple"] = some (b || c) := fun h1 c h2 =>
    kitAny_cons h1 (fun hb => by subst hb; exact kitAny_cons h2 (fun hc => by subst hc; exact kitAny_nil) (fun hc => by subst hc; rfl)) (fun hb => by subst hb; rfl)
  have cs : Paired ClsD [D.ty "list", D.ty "tuple"] [.type "list", .type "tuple"] := .cons (.ty _) (.cons (.ty _) .nil)
  cases kn
  · exact ck_isT (.non) cs (two (b := false) (c := false) (kit_ty (by decide +kernel)) (kit_ty (by decide +kernel))) k
  · exact ck_isT (.bl _) cs (two (b := false) (c := false) (kit_ty (by decide +kernel)) (kit_ty (by decide +kernel))) k
  · exact ck_isT (.int _) cs (two (b := false) (c := false) (kit_ty (by decide +kernel)) (kit_ty (by decide +kernel))) k
  · exact ck_isT (.str _) cs (two (b := false) (c := false) (kit_ty (by decide +kernel)) (kit_ty (by decide +kernel))) k
  · exact ck_isT (.lst _) cs (two (b := true) (c := false) (kit_ty (by decide +kernel)) (kit_ty (by decide +kernel))) k
  · exact ck_isT (.tup _) cs (two (b := false) (c := true) (kit_ty (by decide +kernel)) (kit_ty (by decide +kernel))) k
  · exact ck_isT (C := CL K nn) (.frac _ T.ins_Frac) cs (two T.kit_Frac_list T.kit_Frac_tuple) k
  · exact ck_isT (.mls _) cs (two (b := true) (c := false) (kit_ty (by decide +kernel)) (kit_ty (by decide +kernel))) k
theorem k_num (T : Tx K mg) {Γ : List Sl} {ta : TE} (h : EK (CL K nn) B Γ ta fun d => ∃ q, d = .frac q ∧ Q (.int q.num)) : EK (CL K nn) B Γ (tFld K ta "num") Q := ek_num (C := CL K nn) T.cl_Frac T.no_Frac_num h
theorem k_den (T : Tx K mg) {Γ : List Sl} {ta : TE} (h : EK (CL K nn) B Γ ta fun d => ∃ q, d = .frac q ∧ Q (.int q.den)) : EK (CL K nn) B Γ (tFld K ta "den") Q := ek_den (C := CL K nn) T.cl_Frac T.no_Frac_den h
theorem k_mk2 {Γ : List Sl} {S : List D → (List (Str × D) → Prop) → Prop} {ta : TA} (h : AK (CL K nn) B Γ ta fun l => S l fun fl => ∃ q : Rat, fl = fracL q ∧ Q (.frac q)) : EK (CL K nn) B Γ (tMake (He.ga K "Frac") (SpFamI (CL K) (He.ga K "Frac") S) [] E0 ta) Q :=
  ek_mkFF (F := CL K) (n := nn) rfl (dds := []) (fun _ => .nil) (by simpa using h)
theorem k_mk1 {Γ : List Sl} {S : List D → (List (Str × D) → Prop) → Prop} {ta : TA} (h : AK (CL K nn) B Γ ta fun l => S (l ++ [.int 1]) fun fl => ∃ q : Rat, fl = fracL q ∧ Q (.frac q)) : EK (CL K nn) B Γ (tMake (He.ga K "Frac") (SpFamI (CL K) (He.ga K "Frac") S) [.int 1] E0 ta) Q :=
  ek_mkFF (F := CL K) (n := nn) rfl (dds := [.int 1]) (fun _ => .cons (.int 1) .nil) h
theorem k_call {Γ : List Sl} {S : List D → (D → Prop) → Prop} {t : TA} (h : AK (CL K nn) B Γ t fun l => S l Q) : EK (CL K nn) B Γ (tCall (SpFam (CL K) S) [] E0 t) Q := ek_callF (F := CL K) (n := nn) h
theorem k_bel {Γ : List Sl} {S : List D → (D → Prop) → Prop} {ta : TE} {t : TA} (h : EK (CL K nn) B Γ ta fun d0 => ∃ q, d0 = .frac q ∧ AK (CL K nn) B Γ t fun l => S (.frac q :: l) Q) : EK (CL K nn) B Γ (tMeth (He.ga K "Frac") "is_below" (SpFam (CL K) S) [] E0 ta t) Q := ek_methFF (F := CL K) (n := nn) rfl (fun q => rfl) h
theorem k_own {S : List D → (D → Prop) → Prop} {p q : Rat} (h : S [.frac p, .frac q] Q) : RK (CL K nn) B (rOwn (He.ga K "Frac") (SpFam (CL K) S)) (.frac p) (.frac q) Q := rk_ownF (F := CL K) (n := nn) rfl h
theorem k_fldS (T : Tx K mg) {Γ : List Sl} {te : TE} {i : Nat} {fl : List (Str × D)} {f : Str} {nx bk ct : List Sl → Prop} {rt : List Sl → D → Prop} (hs : Γ[i]? = some (.ins (He.ga K "Frac") fl)) (hf : f = "num" ∨ f = "den") (hl0 : Nat.blt fl.length 1000 = true) (h : EK (CL K nn) B Γ te fun d => nx (Γ.set i (.ins (He.ga K "Frac") (putD f d fl)))) : SX (CL K nn) B Γ (sFld K (tVar i) te f) nx rt bk ct := by
  have hl : fl.length < 1000 := Nat.le_of_ble_eq_true hl0
  rcases hf with rfl | rfl
  · exact sx_fld hs T.cl_Frac T.no_Frac_num hl h
  · exact sx_fld hs T.cl_Frac T.no_Frac_den hl h
def rowD (r : ORow) : D := .tup (r.map fun p => .tup [.int p.1, .frac p.2])
def offD (rs : List ORow) : D := .obj 0 [("rows", .tup (rs.map rowD))]
theorem k_mkO {Γ : List Sl} {S : List D → (List (Str × D) → Prop) → Prop} {ta : TA} (h : AK (CL K nn) B Γ ta fun l => S l fun fl => Q (.obj 0 fl)) : EK (CL K nn) B Γ (tMake (He.ga K "Offers") (SpFamI (CL K) (He.ga K "Offers") S) [] E0 ta) Q :=
  ek_mkOF (F := CL K) (n := nn) (c := 0) rfl h
theorem k_rows (T : Tx K mg) {Γ : List Sl} {ta : TE} (h : EK (CL K nn) B Γ ta fun d => ∃ rs, d = offD rs ∧ Q (.tup (rs.map rowD))) : EK (CL K nn) B Γ (tFld K ta "rows") Q :=
  ek_fld (C := CL K nn) (h.mono fun d ⟨rs, e, k⟩ => ⟨0, _, _, e, T.cl_Offers, T.no_Offers_rows, rfl, k⟩)
theorem k_fldO (T : Tx K mg) {Γ : List Sl} {te : TE} {i : Nat} {fl : List (Str × D)} {nx bk ct : List Sl → Prop} {rt : List Sl → D → Prop} (hs : Γ[i]? = some (.ins (He.ga K "Offers") fl)) (hl0 : Nat.blt fl.length 1000 = true) (h : EK (CL K nn) B Γ te fun d => nx (Γ.set i (.ins (He.ga K "Offers") (putD "rows" d fl)))) : SX (CL K nn) B Γ (sFld K (tVar i) te "rows") nx rt bk ct :=
  sx_fld hs T.cl_Offers T.no_Offers_rows (Nat.le_of_ble_eq_true hl0) h
theorem x_off {rs : List ORow} {p : List ORow → Prop} (h : p rs) : ∃ rs', offD rs = offD rs' ∧ p rs' := ⟨rs, rfl, h⟩
end
section
local macro_rules | `(tactic| walk_at "e") => `(tactic| first
  | ((with_reducible refine' ek_var ?h1 ?_); (case h1 => exact rfl))
  | (with_reducible refine ek_int ?_)
  | (with_reducible refine ek_bl ?_)
  | (with_reducible refine ek_non ?_)
  | (with_reducible refine ek_str ?_)
  | (with_reducible refine ek_ty ?_)
  | (with_reducible refine ek_cls ?_)
  | (with_reducible refine ek_ix ?_)
  | (with_reducible refine ek_un ?_)
  | (with_reducible refine ek_tup ?_)
  | (with_reducible refine k_call ?_)
  | (with_reducible refine ek_len ?_)
  | (with_reducible refine ek_tuple ?_)
  | (with_reducible refine ek_sum ?_)
  | (with_reducible refine ek_all ?_)
  | (with_reducible refine ek_any ?_)
  | (with_reducible refine ek_chain ?_)
  | (with_reducible refine ek_andV ?_)
  | (with_reducible refine ek_orV ?_)
  | (with_reducible refine ek_notV ?_)
  | (with_reducible refine ek_if ?_)
  | (with_reducible refine ek_ef (ef_lst ?_))
  | (with_reducible refine ek_ef (ef_list ?_))
  | (with_reducible refine ek_ef (ef_cat ?_))
  | (with_reducible refine ek_ef (ef_rep ?_))
  | (with_reducible refine ek_ef (ef_slice ?_))
  | (with_reducible refine ek_ef (ef_rev ?_))
  | (with_reducible refine ek_ef (ef_lstRev ?_))
  | (with_reducible refine ek_ef (ef_map ?_))
  | (with_reducible refine ek_ef (ef_filt ?_))
  | (with_reducible refine ef_lst ?_)
  | (with_reducible refine ef_list ?_)
  | (with_reducible refine ef_cat ?_)
  | (with_reducible refine ef_rep ?_)
  | (with_reducible refine ef_slice ?_)
  | (with_reducible refine ef_rev ?_)
  | (with_reducible refine ef_lstRev ?_)
  | (with_reducible refine ef_map ?_)
  | (with_reducible refine ef_filt ?_)
  | ((with_reducible refine' el_var ?h1 ?_); (case h1 => exact rfl))
  | ((with_reducible refine' el_own ?h1 ?_); (case h1 => exact rfl))
  | (with_reducible refine el_ef (ef_lst ?_))
  | (with_reducible refine el_ef (ef_list ?_))
  | (with_reducible refine el_ef (ef_cat ?_))
  | (with_reducible refine el_ef (ef_rep ?_))
  | (with_reducible refine el_ef (ef_slice ?_))
  | (with_reducible refine el_ef (ef_rev ?_))
  | (with_reducible refine el_ef (ef_lstRev ?_))
  | (with_reducible refine el_ef (ef_map ?_))
  | (with_reducible refine el_ef (ef_filt ?_))
  | (with_reducible refine ek_op ?_)
  | (with_reducible refine ek_cb ?_)
  | (with_reducible refine el_ek ?_)
  | (with_reducible refine tk_test ?_)
  | (with_reducible refine tk_B ?_)
  | (with_reducible refine tk_and ?_)
  | (with_reducible refine tk_or ?_)
  | (with_reducible refine tk_not ?_)
  | (with_reducible refine tk_yes ?_)
  | (with_reducible refine ak_nil ?_)
  | (with_reducible refine ak_cons ?_)
  | (with_reducible refine k_num (‹Tx _ _›) ?_)
  | (with_reducible refine k_den (‹Tx _ _›) ?_)
  | (with_reducible refine k_mk2 ?_)
  | (with_reducible refine k_mkO ?_)
  | (with_reducible refine k_rows (‹Tx _ _›) ?_)
  | (with_reducible refine k_mk1 ?_)
  | (with_reducible refine k_bel ?_)
  | (with_reducible refine k_own ?_)
  | (with_reducible refine rk_U2 (k_own ?_))
  | (with_reducible refine rk_mul (Sz.mul (by assumption) (by assumption)) ?_)
  | (with_reducible refine rk_U1 (rk_mul (Sz.mul (by assumption) (by assumption)) ?_))
  | (with_reducible refine ek_dget ?_)
  | (with_reducible refine uk_neg ?_)
  | (with_reducible refine ek_disp ?_)
  | (with_reducible refine pk_cons ?_)
  | (with_reducible refine pk_nil ?_)
  | (with_reducible refine rk_mod (by assumption) ?_)
  | (with_reducible refine rk_add ?_)
  | (with_reducible refine rk_sub ?_)
  | (with_reducible refine rk_lt ?_)
  | (with_reducible refine rk_le ?_)
  | (with_reducible refine rk_gt ?_)
  | (with_reducible refine rk_ge ?_)
  | (with_reducible refine rk_eqI ?_)
  | (with_reducible refine rk_neI ?_)
  | (with_reducible refine rk_isN ?_)
  | (with_reducible refine rk_notN ?_)
  | (with_reducible refine rk_U1 (rk_add ?_))
  | (with_reducible refine rk_U1 (rk_sub ?_))
  | (with_reducible refine ck_gcd ?_)
  | (with_reducible refine ck_abs ?_)
  | (with_reducible refine ck_int ?_)
  | (with_reducible refine ik_seq ?_)
  | (with_reducible refine ik_range1 ?_)
  | (with_reducible refine ik_range2 ?_)
  | (with_reducible refine ik_enumA ?_)
  | (with_reducible refine ik_zip ?_)
  | (with_reducible refine ik_rev ?_)
  | ((with_reducible refine' cg_name ?_ ?h1 ?h2); (case h1 => exact rfl); (case h2 => decide))
  | ((with_reducible refine' cg_anyT ?h1 ?_); (case h1 => exact rfl))
  | ((with_reducible refine' cg_anyL ?h1 ?_); (case h1 => exact rfl))
  | ((with_reducible refine' cg_anyK ?h1 ?_); (case h1 => exact rfl))
  | ((with_reducible refine' cgs_cons ?_ ?h1 ?h2); (case h1 => exact rfl); (case h2 => decide))
  | (with_reducible refine cgs_nil ?_)
  | ((with_reducible refine' gk_name ?_ ?h1); (case h1 => exact rfl))
  | ((with_reducible refine' gk_anyT ?h1 ?_); (case h1 => exact rfl))
  | ((with_reducible refine' gk_anyL ?h1 ?_); (case h1 => exact rfl))
  | ((with_reducible refine' gk_anyK ?h1 ?_); (case h1 => exact rfl))
  | ((with_reducible refine' gks_cons ?_ ?h1); (case h1 => exact rfl))
  | ((with_reducible refine' gks_consA (n := 0) ?_ ?h1 ?h2); (case h1 => exact rfl); (case h2 => exact rfl))
  | ((with_reducible refine' gks_consB ?h0 ?_ ?h1 ?h2); (case h0 => exact rfl); (case h1 => exact rfl); (case h2 => exact rfl))
  | (with_reducible refine gks_nil ?_)
  | (with_reducible refine ok_none ?_)
  | (with_reducible refine ok_some ?_))
local macro_rules | `(tactic| walk_at "s") => `(tactic| first
  | (with_reducible refine sx_guard ?_ ?_)
  | (with_reducible refine sx_seq ?_)
  | (with_reducible refine sx_ret ?_)
  | (with_reducible refine sx_if ?_)
  | (with_reducible refine sx_next ?_)
  | (with_reducible refine sx_break ?_)
  | (with_reducible refine sx_cont ?_)
  | ((with_reducible refine' sx_append ?h1 ?_); (case h1 => exact rfl))
  | ((with_reducible refine' sx_setI ?h1 ?_); (case h1 => exact rfl))
  | ((with_reducible refine' sx_set ?h1 ?_); (case h1 => exact rfl))
  | (with_reducible refine sx_asg ?_)
  | ((with_reducible refine' sx_par ?h1 ?h2 ?_); (case h1 => exact rfl); (case h2 => exact rfl))
  | (with_reducible refine sx_drop ?_)
  | ((with_reducible refine' k_fldS (‹Tx _ _›) ?h1 ?h2 ?h3 ?_); (case h1 => exact rfl); (case h2 => decide); (case h3 => exact rfl))
  | ((with_reducible refine' k_fldO (‹Tx _ _›) ?h1 ?h3 ?_); (case h1 => exact rfl); (case h3 => exact rfl)))
/-! plain existentials that the rules leave -/
local macro_rules | `(tactic| walk_at "x") => `(tactic| first
  | (with_reducible refine x_bl ?_)
  | (with_reducible refine x_int ?_)
  | (with_reducible refine x_frac ?_)
  | (with_reducible refine x_lst ?_)
  | (with_reducible refine x_off ?_)
  | (with_reducible refine x_low ?_)
  | (with_reducible refine x_ownR ?_)
  | (with_reducible refine x_ownA ?_)
  | (with_reducible refine x_tup ?_)
  | (with_reducible refine x_kd ?_)
  | (with_reducible refine x_oneL ?_)
  | (with_reducible refine x_oneT ?_)
  | (with_reducible refine x_one ?_)
  | ((with_reducible refine' x_at ?h1 ?_); (case h1 => exact rfl))
  | ((with_reducible refine' x_dic ?h1 ?_); (case h1 => exact rfl))
  | (with_reducible refine (⟨rfl, ?_⟩ : Kd.l = Kd.l ∧ _))
  | ((with_reducible refine' x_len ?h1 ?_); (case h1 => exact rfl))
  | ((with_reducible refine' br_t ?h1 ?_); (case h1 => exact rfl))
  | ((with_reducible refine' br_f ?h1 ?_); (case h1 => exact rfl)))
local macro_rules | `(tactic| walk_at "f") => `(tactic| first
  | ((with_reducible refine' sx_forW ?h1 ?_); (case h1 => exact rfl))
  | (with_reducible refine sx_forGW ?_))
local macro_rules | `(tactic| walk_at "g") => `(tactic| repeat (first | walk_at "s" | walk_at "f" | walk_at "e" | walk_at "x"))
local macro_rules | `(tactic| walk_at "v") => `(tactic| repeat (first | walk_at "e" | walk_at "x"))
local macro_rules | `(tactic| walk_at "h") => `(tactic| repeat (first | walk_at "s" | walk_at "e" | walk_at "x"))
variable {P : Program} {w : World} {K : PySem.W.Frag} {mg : Str → Option Value} {base : Heap}

def S_is_integer : List D → (D → Prop) → Prop := fun l K => ∃ d, l = [d] ∧ Kn d ∧ K (.bl d.isInt)
theorem ok_is_integer (T : Tx K mg)  : Cal P w K mg base 1 "is_integer" ["value"] (SpFam (CL K) S_is_integer) := by
  refine cal_mkF (N := ["value"]) T.g_is_integer T.d_is_integer sc_is_integer (fun _ _ _ _ _ _ us hl => match us, hl with | [_], _ => rfl) (by intro l Q h; first | (obtain ⟨rfl, _⟩ := h; rfl) | (obtain ⟨_, rfl, _⟩ := h; rfl) | (obtain ⟨_, _, rfl, _⟩ := h; rfl) | (obtain ⟨_, _, _, rfl, _⟩ := h; rfl) | (obtain ⟨_, _, _, _, rfl, _⟩ := h; rfl) | (obtain ⟨_, _, _, _, _, rfl, _⟩ := h; rfl) | (obtain ⟨_, _, _, _, _, _, rfl, _⟩ := h; rfl) | (obtain ⟨_, _, _, _, _, _, _, rfl, _⟩ := h; rfl) | (obtain ⟨_, _, _, _, _, _, _, _, rfl, _⟩ := h; rfl) | (obtain ⟨_, _, _, _, _, _, _, _, _, rfl, _⟩ := h; rfl) | (obtain ⟨_, _, _, _, _, _, _, _, _, _, rfl, _⟩ := h; rfl) | (obtain ⟨_, _, _, _, _, _, _, _, _, _, _, rfl, _⟩ := h; rfl)) (fun f cdv A outer s H E hr => ⟨_, (pss_one (ps_ret (pe_and (pe_callB (cr_isK K rfl) (by rfl) T.b_isinstance (by decide +kernel) (pa_cons (pv 0) (pa_cons (pe_bltn (v := .ty "int") (by rfl) T.b_int (by decide +kernel) rfl) pa_nil))) (pe_one (pe_not (pe_callB (cr_isK K rfl) (by rfl) T.b_isinstance (by decide +kernel) (pa_cons (pv 0) (pa_cons (pe_bltn (v := .ty "bool") (by rfl) T.b_bool (by decide +kernel) rfl) pa_nil)))))))), ?_⟩)
  intro nn B l Q h
  obtain ⟨d, rfl, kn, h⟩ := h
  walk_at "g"
  refine ck_ty T kn (.inl rfl) ?_
  walk_at "x"
  refine ⟨fun hb => ?_, fun hb => ?_⟩
  · walk_at "g"
    refine ck_ty T kn (.inr (.inl rfl)) ?_
    walk_at "g"
    cases kn <;> first | exact h | cases hb
  · cases kn <;> first | exact h | cases hb

def S_is_between : List D → (D → Prop) → Prop := fun l K => ∃ d a b, l = [d, .int a, .int b] ∧ Kn d ∧ K (.bl (match d with | .int i => decide (a ≤ i ∧ i ≤ b) | _ => false))
theorem ok_is_between (T : Tx K mg) (c_is_integer : Cal P w K mg base 1 "is_integer" ["value"] (SpFam (CL K) S_is_integer)) : Cal P w K mg base 2 "is_between" ["value", "least", "most"] (SpFam (CL K) S_is_between) := by
  refine cal_mkF (N := ["value", "least", "most"]) T.g_is_between T.d_is_between sc_is_between (fun _ _ _ _ _ _ us hl => match us, hl with | [_, _, _], _ => rfl) (by intro l Q h; first | (obtain ⟨rfl, _⟩ := h; rfl) | (obtain ⟨_, rfl, _⟩ := h; rfl) | (obtain ⟨_, _, rfl, _⟩ := h; rfl) | (obtain ⟨_, _, _, rfl, _⟩ := h; rfl) | (obtain ⟨_, _, _, _, rfl, _⟩ := h; rfl) | (obtain ⟨_, _, _, _, _, rfl, _⟩ := h; rfl) | (obtain ⟨_, _, _, _, _, _, rfl, _⟩ := h; rfl) | (obtain ⟨_, _, _, _, _, _, _, rfl, _⟩ := h; rfl) | (obtain ⟨_, _, _, _, _, _, _, _, rfl, _⟩ := h; rfl) | (obtain ⟨_, _, _, _, _, _, _, _, _, rfl, _⟩ := h; rfl) | (obtain ⟨_, _, _, _, _, _, _, _, _, _, rfl, _⟩ := h; rfl) | (obtain ⟨_, _, _, _, _, _, _, _, _, _, _, rfl, _⟩ := h; rfl)) (fun f cdv A outer s H E hr => ⟨_, (pss_one (ps_ret (pe_and (pe_calC c_is_integer hr (by decide) (by rfl) (pa_cons (pv 0) pa_nil)) (pe_one (pe_chain op_leI op_leI (pv 1) (pv 0) (pv 2)))))), ?_⟩)
  intro nn B l Q h
  obtain ⟨d, a, b, rfl, kn, h⟩ := h
  walk_at "g"
  refine ⟨_, rfl, kn, ?_⟩
  walk_at "x"
  refine ⟨fun hb => ?_, fun hb => ?_⟩
  · cases kn <;> first | cases hb | skip
    walk_at "g"
    refine ⟨fun hb => ?_, fun hb => ?_⟩
    · have h1 : a ≤ _ := of_decide_eq_true hb
      walk_at "g"
      simpa [h1] using h
    · have h1 : ¬ a ≤ _ := of_decide_eq_false hb
      simpa [h1] using h
  · cases kn <;> first | exact h | cases hb

def S_is_sequence : List D → (D → Prop) → Prop := fun l K => ∃ d, l = [d] ∧ Kn d ∧ K (.bl d.isSeq)
theorem ok_is_sequence (T : Tx K mg)  : Cal P w K mg base 1 "is_sequence" ["value"] (SpFam (CL K) S_is_sequence) := by
  refine cal_mkF (N := ["value"]) T.g_is_sequence T.d_is_sequence sc_is_sequence (fun _ _ _ _ _ _ us hl => match us, hl with | [_], _ => rfl) (by intro l Q h; first | (obtain ⟨rfl, _⟩ := h; rfl) | (obtain ⟨_, rfl, _⟩ := h; rfl) | (obtain ⟨_, _, rfl, _⟩ := h; rfl) | (obtain ⟨_, _, _, rfl, _⟩ := h; rfl) | (obtain ⟨_, _, _, _, rfl, _⟩ := h; rfl) | (obtain ⟨_, _, _, _, _, rfl, _⟩ := h; rfl) | (obtain ⟨_, _, _, _, _, _, rfl, _⟩ := h; rfl) | (obtain ⟨_, _, _, _, _, _, _, rfl, _⟩ := h; rfl) | (obtain ⟨_, _, _, _, _, _, _, _, rfl, _⟩ := h; rfl) | (obtain ⟨_, _, _, _, _, _, _, _, _, rfl, _⟩ := h; rfl) | (obtain ⟨_, _, _, _, _, _, _, _, _, _, rfl, _⟩ := h; rfl) | (obtain ⟨_, _, _, _, _, _, _, _, _, _, _, rfl, _⟩ := h; rfl)) (fun f cdv A outer s H E hr => ⟨_, (pss_one (ps_ret (pe_callB (cr_isK K rfl) (by rfl) T.b_isinstance (by decide +kernel) (pa_cons (pv 0) (pa_cons (pe_tup (pa_cons (pe_bltn (v := .ty "list") (by rfl) T.b_list (by decide +kernel) rfl) (pa_cons (pe_bltn (v := .ty "tuple") (by rfl) T.b_tuple (by decide +kernel) rfl) pa_nil))) pa_nil))))), ?_⟩)
  intro nn B l Q h
  obtain ⟨d, rfl, kn, h⟩ := h
  walk_at "g"
  exact ck_lt T kn h

end

end K
end

section
set_option maxRecDepth 100000
set_option maxHeartbeats 4000000
namespace K
open PySem PySem.Spec PyProof.Rows L2 G

def seqOf : D → Option (List D)
  | .lst l => some l
  | .tup l => some l
  | .mls l => some l
  | _ => none
theorem seqOf_kd {k : Kd} {xs : List D} : seqOf (Kd.d k xs) = some xs := by cases k <;> rfl
theorem isSeq_ex : ∀ {d : D}, d.isSeq = true → ∃ k xs, d = Kd.d k xs
  | .lst l, _ => ⟨.l, l, rfl⟩
  | .tup l, _ => ⟨.t, l, rfl⟩
  | .mls l, _ => ⟨.m, l, rfl⟩
def arF (d : D) (n : Int) : Bool := match seqOf d with
  | some xs => decide ((xs.length : Int) = n) && xs.all D.isFrac
  | none => false
section
local macro_rules | `(tactic| walk_at "e") => `(tactic| first
  | ((with_reducible refine' ek_var ?h1 ?_); (case h1 => exact rfl))
  | (with_reducible refine ek_int ?_)
  | (with_reducible refine ek_bl ?_)
  | (with_reducible refine ek_non ?_)
  | (with_reducible refine ek_str ?_)
  | (with_reducible refine ek_ty ?_)
  | (with_reducible refine ek_cls ?_)
  | (with_reducible refine ek_ix ?_)
  | (with_reducible refine ek_un ?_)
  | (with_reducible refine ek_tup ?_)
  | (with_reducible refine k_call ?_)
  | (with_reducible refine ek_len ?_)
  | (with_reducible refine ek_tuple ?_)
  | (with_reducible refine ek_sum ?_)
  | (with_reducible refine ek_all ?_)
  | (with_reducible refine ek_any ?_)
  | (with_reducible refine ek_chain ?_)
  | (with_reducible refine ek_andV ?_)
  | (with_reducible refine ek_orV ?_)
  | (with_reducible refine ek_notV ?_)
  | (with_reducible refine ek_if ?_)
  | (with_reducible refine ek_ef (ef_lst ?_))
  | (with_reducible refine ek_ef (ef_list ?_))
  | (with_reducible refine ek_ef (ef_cat ?_))
  | (with_reducible refine ek_ef (ef_rep ?_))
  | (with_reducible refine ek_ef (ef_slice ?_))
  | (with_reducible refine ek_ef (ef_rev ?_))
  | (with_reducible refine ek_ef (ef_lstRev ?_))
  | (with_reducible refine ek_ef (ef_map ?_))
  | (with_reducible refine ek_ef (ef_filt ?_))
  | (with_reducible refine ef_lst ?_)
  | (with_reducible refine ef_list ?_)
  | (with_reducible refine ef_cat ?_)
  | (with_reducible refine ef_rep ?_)
  | (with_reducible refine ef_slice ?_)
  | (with_reducible refine ef_rev ?_)
  | (with_reducible refine ef_lstRev ?_)
  | (with_reducible refine ef_map ?_)
  | (with_reducible refine ef_filt ?_)
  | ((with_reducible refine' el_var ?h1 ?_); (case h1 => exact rfl))
  | ((with_reducible refine' el_own ?h1 ?_); (case h1 => exact rfl))
  | (with_reducible refine el_ef (ef_lst ?_))
  | (with_reducible refine el_ef (ef_list ?_))
  | (with_reducible refine el_ef (ef_cat ?_))
  | (with_reducible refine el_ef (ef_rep ?_))
  | (with_reducible refine el_ef (ef_slice ?_))
  | (with_reducible refine el_ef (ef_rev ?_))
  | (with_reducible refine el_ef (ef_lstRev ?_))
  | (with_reducible refine el_ef (ef_map ?_))
  | (with_reducible refine el_ef (ef_filt ?_))
  | (with_reducible refine ek_op ?_)
  | (with_reducible refine ek_cb ?_)
  | (with_reducible refine el_ek ?_)
  | (with_reducible refine tk_test ?_)
  | (with_reducible refine tk_B ?_)
  | (with_reducible refine tk_and ?_)
  | (with_reducible refine tk_or ?_)
  | (with_reducible refine tk_not ?_)
  | (with_reducible refine tk_yes ?_)
  | (with_reducible refine ak_nil ?_)
  | (with_reducible refine ak_cons ?_)
  | (with_reducible refine k_num (‹Tx _ _›) ?_)
  | (with_reducible refine k_den (‹Tx _ _›) ?_)
  | (with_reducible refine k_mk2 ?_)
  | (with_reducible refine k_mkO ?_)
  | (with_reducible refine k_rows (‹Tx _ _›) ?_)
  | (with_reducible refine k_mk1 ?_)
  | (with_reducible refine k_bel ?_)
  | (with_reducible refine k_own ?_)
  | (with_reducible refine rk_U2 (k_own ?_))
  | (with_reducible refine rk_mul (Sz.mul (by assumption) (by assumption)) ?_)
  | (with_reducible refine rk_U1 (rk_mul (Sz.mul (by assumption) (by assumption)) ?_))
  | (with_reducible refine ek_dget ?_)
  | (with_reducible refine uk_neg ?_)
  | (with_reducible refine ek_disp ?_)
  | (with_reducible refine pk_cons ?_)
  | (with_reducible refine pk_nil ?_)
  | (with_reducible refine rk_mod (by assumption) ?_)
  | (with_reducible refine rk_add ?_)
  | (with_reducible refine rk_sub ?_)
  | (with_reducible refine rk_lt ?_)
  | (with_reducible refine rk_le ?_)
  | (with_reducible refine rk_gt ?_)
  | (with_reducible refine rk_ge ?_)
  | (with_reducible refine rk_eqI ?_)
  | (with_reducible refine rk_neI ?_)
  | (with_reducible refine rk_isN ?_)
  | (with_reducible refine rk_notN ?_)
  | (with_reducible refine rk_U1 (rk_add ?_))
  | (with_reducible refine rk_U1 (rk_sub ?_))
  | (with_reducible refine ck_gcd ?_)
  | (with_reducible refine ck_abs ?_)
  | (with_reducible refine ck_int ?_)
  | (with_reducible refine ik_seq ?_)
  | (with_reducible refine ik_range1 ?_)
  | (with_reducible refine ik_range2 ?_)
  | (with_reducible refine ik_enumA ?_)
  | (with_reducible refine ik_zip ?_)
  | (with_reducible refine ik_rev ?_)
  | ((with_reducible refine' cg_name ?_ ?h1 ?h2); (case h1 => exact rfl); (case h2 => decide))
  | ((with_reducible refine' cg_anyT ?h1 ?_); (case h1 => exact rfl))
  | ((with_reducible refine' cg_anyL ?h1 ?_); (case h1 => exact rfl))
  | ((with_reducible refine' cg_anyK ?h1 ?_); (case h1 => exact rfl))
  | ((with_reducible refine' cgs_cons ?_ ?h1 ?h2); (case h1 => exact rfl); (case h2 => decide))
  | (with_reducible refine cgs_nil ?_)
  | ((with_reducible refine' gk_name ?_ ?h1); (case h1 => exact rfl))
  | ((with_reducible refine' gk_anyT ?h1 ?_); (case h1 => exact rfl))
  | ((with_reducible refine' gk_anyL ?h1 ?_); (case h1 => exact rfl))
  | ((with_reducible refine' gk_anyK ?h1 ?_); (case h1 => exact rfl))
  | ((with_reducible refine' gks_cons ?_ ?h1); (case h1 => exact rfl))
  | ((with_reducible refine' gks_consA (n := 0) ?_ ?h1 ?h2); (case h1 => exact rfl); (case h2 => exact rfl))
  | ((with_reducible refine' gks_consB ?h0 ?_ ?h1 ?h2); (case h0 => exact rfl); (case h1 => exact rfl); (case h2 => exact rfl))
  | (with_reducible refine gks_nil ?_)
  | (with_reducible refine ok_none ?_)
  | (with_reducible refine ok_some ?_))
local macro_rules | `(tactic| walk_at "s") => `(tactic| first
  | (with_reducible refine sx_guard ?_ ?_)
  | (with_reducible refine sx_seq ?_)
  | (with_reducible refine sx_ret ?_)
  | (with_reducible refine sx_if ?_)
  | (with_reducible refine sx_next ?_)
  | (with_reducible refine sx_break ?_)
  | (with_reducible refine sx_cont ?_)
  | ((with_reducible refine' sx_append ?h1 ?_); (case h1 => exact rfl))
  | ((with_reducible refine' sx_setI ?h1 ?_); (case h1 => exact rfl))
  | ((with_reducible refine' sx_set ?h1 ?_); (case h1 => exact rfl))
  | (with_reducible refine sx_asg ?_)
  | ((with_reducible refine' sx_par ?h1 ?h2 ?_); (case h1 => exact rfl); (case h2 => exact rfl))
  | (with_reducible refine sx_drop ?_)
  | ((with_reducible refine' k_fldS (‹Tx _ _›) ?h1 ?h2 ?h3 ?_); (case h1 => exact rfl); (case h2 => decide); (case h3 => exact rfl))
  | ((with_reducible refine' k_fldO (‹Tx _ _›) ?h1 ?h3 ?_); (case h1 => exact rfl); (case h3 => exact rfl)))
/-! plain existentials that the rules leave -/
local macro_rules | `(tactic| walk_at "x") => `(tactic| first
  | (with_reducible refine x_bl ?_)
  | (with_reducible refine x_int ?_)
  | (with_reducible refine x_frac ?_)
  | (with_reducible refine x_lst ?_)
  | (with_reducible refine x_off ?_)
  | (with_reducible refine x_low ?_)
  | (with_reducible refine x_ownR ?_)
  | (with_reducible refine x_ownA ?_)
  | (with_reducible refine x_tup ?_)
  | (with_reducible refine x_kd ?_)
  | (with_reducible refine x_oneL ?_)
  | (with_reducible refine x_oneT ?_)
  | (with_reducible refine x_one ?_)
  | ((with_reducible refine' x_at ?h1 ?_); (case h1 => exact rfl))
  | ((with_reducible refine' x_dic ?h1 ?_); (case h1 => exact rfl))
  | (with_reducible refine (⟨rfl, ?_⟩ : Kd.l = Kd.l ∧ _))
  | ((with_reducible refine' x_len ?h1 ?_); (case h1 => exact rfl))
  | ((with_reducible refine' br_t ?h1 ?_); (case h1 => exact rfl))
  | ((with_reducible refine' br_f ?h1 ?_); (case h1 => exact rfl)))
local macro_rules | `(tactic| walk_at "f") => `(tactic| first
  | ((with_reducible refine' sx_forW ?h1 ?_); (case h1 => exact rfl))
  | (with_reducible refine sx_forGW ?_))
local macro_rules | `(tactic| walk_at "g") => `(tactic| repeat (first | walk_at "s" | walk_at "f" | walk_at "e" | walk_at "x"))
local macro_rules | `(tactic| walk_at "v") => `(tactic| repeat (first | walk_at "e" | walk_at "x"))
local macro_rules | `(tactic| walk_at "h") => `(tactic| repeat (first | walk_at "s" | walk_at "e" | walk_at "x"))
variable {P : Program} {w : World} {K : PySem.W.Frag} {mg : Str → Option Value} {base : Heap}

theorem rat_add (p q : Rat) : Rat.divInt (p.num * q.den + q.num * p.den) (p.den * q.den) = p + q := by
  have := Rat.add_def' p q
  rw [this, ← Rat.divInt_ofNat]; push_cast; rfl
theorem rat_sub (p q : Rat) : Rat.divInt (p.num * q.den - q.num * p.den) (p.den * q.den) = p - q := by
  have := Rat.sub_def' p q
  rw [this, ← Rat.divInt_ofNat]; push_cast; rfl
theorem rat_mul (p q : Rat) : Rat.divInt (p.num * q.num) (p.den * q.den) = p * q := by
  have := Rat.mul_def' p q
  rw [this, ← Rat.divInt_ofNat]; push_cast; rfl
theorem den_pos (p : Rat) : (0 : Int) < p.den := by have := p.den_pos; omega
theorem den_mul (p q : Rat) : (0 : Int) < (p.den : Int) * q.den := Int.mul_pos (den_pos p) (den_pos q)
theorem den_big {p q : Rat} (h : Sz p.den) (k : Sz q.den) : ((p.den : Int) * q.den).natAbs < 2 ^ 9000 := Nat.lt_of_lt_of_le (Sz.prod h k) (Nat.pow_le_pow_right (by decide) (by decide))
def S_FracD_initD : List D → (List (Str × D) → Prop) → Prop := fun l K => ∃ n d : Int, l = [.int n, .int d] ∧ 0 < d ∧ d.natAbs < 2 ^ 9000 ∧ K (fracL (Rat.divInt n d))
theorem ok_FracD_initD (T : Tx K mg) (c_is_integer : Cal P w K mg base 1 "is_integer" ["value"] (SpFam (CL K) S_is_integer)) {fd : FuncData} (F : FunD K "__init__" "Frac.__init__" (defArgs s_FracD_initD) (defBody s_FracD_initD) (defScope s_FracD_initD) [.int 1] [] (He.ma K (He.ga K "Frac") "__init__") fd) : FnOk P w K mg base (L2.CX P w) 2 (He.ma K (He.ga K "Frac") "__init__") fd ["self", "num", "den"] (SpFamI (CL K) (He.ga K "Frac") S_FracD_initD) := by
  refine init_mkF (N := ["num", "den", "divisor"]) F sc_FracD_initD (by intro l Q h; first | (obtain ⟨rfl, _⟩ := h; rfl) | (obtain ⟨_, rfl, _⟩ := h; rfl) | (obtain ⟨_, _, rfl, _⟩ := h; rfl) | (obtain ⟨_, _, _, rfl, _⟩ := h; rfl) | (obtain ⟨_, _, _, _, rfl, _⟩ := h; rfl) | (obtain ⟨_, _, _, _, _, rfl, _⟩ := h; rfl) | (obtain ⟨_, _, _, _, _, _, rfl, _⟩ := h; rfl) | (obtain ⟨_, _, _, _, _, _, _, rfl, _⟩ := h; rfl) | (obtain ⟨_, _, _, _, _, _, _, _, rfl, _⟩ := h; rfl) | (obtain ⟨_, _, _, _, _, _, _, _, _, rfl, _⟩ := h; rfl) | (obtain ⟨_, _, _, _, _, _, _, _, _, _, rfl, _⟩ := h; rfl) | (obtain ⟨_, _, _, _, _, _, _, _, _, _, _, rfl, _⟩ := h; rfl)) (fun f cdv A outer s H E hr => ⟨_, (pss_cons (ps_if (PW.pt (pw_or (pt_not (pt_val (pe_calC c_is_integer hr (by decide) (by rfl) (pa_cons (pv 1) pa_nil)))) (pw_or (pt_not (pt_val (pe_calC c_is_integer hr (by decide) (by rfl) (pa_cons (pv 2) pa_nil)))) (pw_or1 (pt_cmpR op_eq (pv 2) pe_int (nomark _)))))) (pss_one ps_never) pss_nil) (pss_cons (ps_set (i := 3) sc_FracD_initD.nd rfl (by first | exact Or.inl rfl | exact Or.inr rfl) (pe_callBfun cr_gcd (by rfl) T.gcd (pa_cons (pv 1) (pa_cons (pv 2) pa_nil)))) (pss_cons (ps_if (pt_cmpR op_ltI (pv 2) pe_int (nomark _)) (pss_one (ps_set (i := 3) sc_FracD_initD.nd rfl (by first | exact Or.inl rfl | exact Or.inr rfl) (pe_un un_neg (pv 3)))) pss_nil) (pss_cons (ps_fldK K rfl (pv 0) (pe_op op_divI (pv 1) (pv 3)) rfl) (pss_one (ps_fldK K rfl (pv 0) (pe_op op_divI (pv 2) (pv 3)) rfl)))))), ?_⟩)
  intro nn B l Q h
  obtain ⟨n, d, rfl, h0, hs, h⟩ := h
  walk_at "g"
  · refine ⟨_, rfl, .int _, ?_⟩
    walk_at "g"
    refine ⟨_, rfl, .int _, ?_⟩
    walk_at "g"
    simp
    omega
  · walk_at "g"
    refine ⟨fun z => absurd (of_decide_eq_true z) (by omega), fun _ => ?_⟩
    walk_at "g"
    refine rk_div (cdiv_gcd h0 hs (by decide) (by decide)) ?_
    walk_at "g"
    refine rk_div (cdiv_gcd h0 hs (by decide) (by decide)) ?_
    walk_at "g"
    refine ⟨_, rfl, ?_⟩
    have e : fracL (Rat.divInt n d) = ([("num", .int (n / ((Nat.gcd n.natAbs d.natAbs : Nat) : Int))), ("den", .int (d / ((Nat.gcd n.natAbs d.natAbs : Nat) : Int)))] : List (Str × D)) := by
      unfold fracL; rw [divInt_num h0, divInt_den h0]
    rw [e] at h
    exact h

def S_FracD_addD : List D → (D → Prop) → Prop := fun l K => ∃ p q : Rat, l = [.frac p, .frac q] ∧ SzQ p ∧ SzQ q ∧ K (.frac (p + q))
theorem ok_FracD_addD (T : Tx K mg) (m_Frac2 : CalM P w K mg base 2 "Frac" [] (SpFamI (CL K) (He.ga K "Frac") S_FracD_initD)) : ∃ fd, FnOk P w K mg base (L2.CX P w) 4 (He.ma K (He.ga K "Frac") "__add__") fd ["self", "other"] (SpFam (CL K) S_FracD_addD) ∧ Binds K fd ["self", "other"] [] := by
  refine mth_mkF (N := ["self", "other"]) T.d_FracD_addD sc_FracD_addD (fun _ _ _ _ _ _ us hl => match us, hl with | [_, _], _ => rfl) (by intro l Q h; first | (obtain ⟨rfl, _⟩ := h; rfl) | (obtain ⟨_, rfl, _⟩ := h; rfl) | (obtain ⟨_, _, rfl, _⟩ := h; rfl) | (obtain ⟨_, _, _, rfl, _⟩ := h; rfl) | (obtain ⟨_, _, _, _, rfl, _⟩ := h; rfl) | (obtain ⟨_, _, _, _, _, rfl, _⟩ := h; rfl) | (obtain ⟨_, _, _, _, _, _, rfl, _⟩ := h; rfl) | (obtain ⟨_, _, _, _, _, _, _, rfl, _⟩ := h; rfl) | (obtain ⟨_, _, _, _, _, _, _, _, rfl, _⟩ := h; rfl) | (obtain ⟨_, _, _, _, _, _, _, _, _, rfl, _⟩ := h; rfl) | (obtain ⟨_, _, _, _, _, _, _, _, _, _, rfl, _⟩ := h; rfl) | (obtain ⟨_, _, _, _, _, _, _, _, _, _, _, rfl, _⟩ := h; rfl)) (fun f cdv A outer s H E hr => ⟨_, (pss_one (ps_ret (pe_mkK K rfl m_Frac2 hr (by decide) (by rfl) (pa_cons (pe_op op_addI (pe_op op_mulI (pe_fldK K rfl (pv 0) rfl) (pe_fldK K rfl (pv 1) rfl)) (pe_op op_mulI (pe_fldK K rfl (pv 1) rfl) (pe_fldK K rfl (pv 0) rfl))) (pa_cons (pe_op op_mulI (pe_fldK K rfl (pv 0) rfl) (pe_fldK K rfl (pv 1) rfl)) pa_nil))))), ?_⟩)
  intro nn B l Q h
  obtain ⟨p, q, rfl, ⟨hp, hp'⟩, ⟨hq, hq'⟩, h⟩ := h
  walk_at "g"
  exact ⟨_, _, rfl, den_mul p q, den_big hp' hq', _, rfl, by rw [rat_add]; exact h⟩

def S_FracD_subD : List D → (D → Prop) → Prop := fun l K => ∃ p q : Rat, l = [.frac p, .frac q] ∧ SzQ p ∧ SzQ q ∧ K (.frac (p - q))
theorem ok_FracD_subD (T : Tx K mg) (m_Frac2 : CalM P w K mg base 2 "Frac" [] (SpFamI (CL K) (He.ga K "Frac") S_FracD_initD)) : ∃ fd, FnOk P w K mg base (L2.CX P w) 4 (He.ma K (He.ga K "Frac") "__sub__") fd ["self", "other"] (SpFam (CL K) S_FracD_subD) ∧ Binds K fd ["self", "other"] [] := by
  refine mth_mkF (N := ["self", "other"]) T.d_FracD_subD sc_FracD_subD (fun _ _ _ _ _ _ us hl => match us, hl with | [_, _], _ => rfl) (by intro l Q h; first | (obtain ⟨rfl, _⟩ := h; rfl) | (obtain ⟨_, rfl, _⟩ := h; rfl) | (obtain ⟨_, _, rfl, _⟩ := h; rfl) | (obtain ⟨_, _, _, rfl, _⟩ := h; rfl) | (obtain ⟨_, _, _, _, rfl, _⟩ := h; rfl) | (obtain ⟨_, _, _, _, _, rfl, _⟩ := h; rfl) | (obtain ⟨_, _, _, _, _, _, rfl, _⟩ := h; rfl) | (obtain ⟨_, _, _, _, _, _, _, rfl, _⟩ := h; rfl) | (obtain ⟨_, _, _, _, _, _, _, _, rfl, _⟩ := h; rfl) | (obtain ⟨_, _, _, _, _, _, _, _, _, rfl, _⟩ := h; rfl) | (obtain ⟨_, _, _, _, _, _, _, _, _, _, rfl, _⟩ := h; rfl) | (obtain ⟨_, _, _, _, _, _, _, _, _, _, _, rfl, _⟩ := h; rfl)) (fun f cdv A outer s H E hr => ⟨_, (pss_one (ps_ret (pe_mkK K rfl m_Frac2 hr (by decide) (by rfl) (pa_cons (pe_op op_subI (pe_op op_mulI (pe_fldK K rfl (pv 0) rfl) (pe_fldK K rfl (pv 1) rfl)) (pe_op op_mulI (pe_fldK K rfl (pv 1) rfl) (pe_fldK K rfl (pv 0) rfl))) (pa_cons (pe_op op_mulI (pe_fldK K rfl (pv 0) rfl) (pe_fldK K rfl (pv 1) rfl)) pa_nil))))), ?_⟩)
  intro nn B l Q h
  obtain ⟨p, q, rfl, ⟨hp, hp'⟩, ⟨hq, hq'⟩, h⟩ := h
  walk_at "g"
  exact ⟨_, _, rfl, den_mul p q, den_big hp' hq', _, rfl, by rw [rat_sub]; exact h⟩

def S_FracD_mulD : List D → (D → Prop) → Prop := fun l K => ∃ p q : Rat, l = [.frac p, .frac q] ∧ SzQ p ∧ SzQ q ∧ K (.frac (p * q))
theorem ok_FracD_mulD (T : Tx K mg) (m_Frac2 : CalM P w K mg base 2 "Frac" [] (SpFamI (CL K) (He.ga K "Frac") S_FracD_initD)) : ∃ fd, FnOk P w K mg base (L2.CX P w) 4 (He.ma K (He.ga K "Frac") "__mul__") fd ["self", "other"] (SpFam (CL K) S_FracD_mulD) ∧ Binds K fd ["self", "other"] [] := by
  refine mth_mkF (N := ["self", "other"]) T.d_FracD_mulD sc_FracD_mulD (fun _ _ _ _ _ _ us hl => match us, hl with | [_, _], _ => rfl) (by intro l Q h; first | (obtain ⟨rfl, _⟩ := h; rfl) | (obtain ⟨_, rfl, _⟩ := h; rfl) | (obtain ⟨_, _, rfl, _⟩ := h; rfl) | (obtain ⟨_, _, _, rfl, _⟩ := h; rfl) | (obtain ⟨_, _, _, _, rfl, _⟩ := h; rfl) | (obtain ⟨_, _, _, _, _, rfl, _⟩ := h; rfl) | (obtain ⟨_, _, _, _, _, _, rfl, _⟩ := h; rfl) | (obtain ⟨_, _, _, _, _, _, _, rfl, _⟩ := h; rfl) | (obtain ⟨_, _, _, _, _, _, _, _, rfl, _⟩ := h; rfl) | (obtain ⟨_, _, _, _, _, _, _, _, _, rfl, _⟩ := h; rfl) | (obtain ⟨_, _, _, _, _, _, _, _, _, _, rfl, _⟩ := h; rfl) | (obtain ⟨_, _, _, _, _, _, _, _, _, _, _, rfl, _⟩ := h; rfl)) (fun f cdv A outer s H E hr => ⟨_, (pss_one (ps_ret (pe_mkK K rfl m_Frac2 hr (by decide) (by rfl) (pa_cons (pe_op op_mulI (pe_fldK K rfl (pv 0) rfl) (pe_fldK K rfl (pv 1) rfl)) (pa_cons (pe_op op_mulI (pe_fldK K rfl (pv 0) rfl) (pe_fldK K rfl (pv 1) rfl)) pa_nil))))), ?_⟩)
  intro nn B l Q h
  obtain ⟨p, q, rfl, ⟨hp, hp'⟩, ⟨hq, hq'⟩, h⟩ := h
  walk_at "g"
  exact ⟨_, _, rfl, den_mul p q, den_big hp' hq', _, rfl, by rw [rat_mul]; exact h⟩

def S_Frac_is_below : List D → (D → Prop) → Prop := fun l K => ∃ p q : Rat, l = [.frac p, .frac q] ∧ SzQ p ∧ SzQ q ∧ K (.bl (decide (p < q)))
theorem ok_Frac_is_below (T : Tx K mg)  : ∃ fd, FnOk P w K mg base (L2.CX P w) 1 (He.ma K (He.ga K "Frac") "is_below") fd ["self", "other"] (SpFam (CL K) S_Frac_is_below) ∧ Binds K fd ["self", "other"] [] := by
  refine mth_mkF (N := ["self", "other"]) T.d_Frac_is_below sc_Frac_is_below (fun _ _ _ _ _ _ us hl => match us, hl with | [_, _], _ => rfl) (by intro l Q h; first | (obtain ⟨rfl, _⟩ := h; rfl) | (obtain ⟨_, rfl, _⟩ := h; rfl) | (obtain ⟨_, _, rfl, _⟩ := h; rfl) | (obtain ⟨_, _, _, rfl, _⟩ := h; rfl) | (obtain ⟨_, _, _, _, rfl, _⟩ := h; rfl) | (obtain ⟨_, _, _, _, _, rfl, _⟩ := h; rfl) | (obtain ⟨_, _, _, _, _, _, rfl, _⟩ := h; rfl) | (obtain ⟨_, _, _, _, _, _, _, rfl, _⟩ := h; rfl) | (obtain ⟨_, _, _, _, _, _, _, _, rfl, _⟩ := h; rfl) | (obtain ⟨_, _, _, _, _, _, _, _, _, rfl, _⟩ := h; rfl) | (obtain ⟨_, _, _, _, _, _, _, _, _, _, rfl, _⟩ := h; rfl) | (obtain ⟨_, _, _, _, _, _, _, _, _, _, _, rfl, _⟩ := h; rfl)) (fun f cdv A outer s H E hr => ⟨_, (pss_one (ps_ret (pe_cmpR op_ltI (pe_op op_mulI (pe_fldK K rfl (pv 0) rfl) (pe_fldK K rfl (pv 1) rfl)) (pe_op op_mulI (pe_fldK K rfl (pv 1) rfl) (pe_fldK K rfl (pv 0) rfl)) (nomark _)))), ?_⟩)
  intro nn B l Q h
  obtain ⟨p, q, rfl, ⟨hp, hp'⟩, ⟨hq, hq'⟩, h⟩ := h
  walk_at "g"
  rw [show (decide (p.num * q.den < q.num * p.den)) = decide (p < q) from decide_eq_decide.mpr (by rw [Rat.lt_iff])]
  exact h

def S_as_frac : List D → (D → Prop) → Prop := fun l K => ∃ d q, l = [d] ∧ AmtD d q ∧ K (.frac q)
theorem ok_as_frac (T : Tx K mg) (c_is_integer : Cal P w K mg base 1 "is_integer" ["value"] (SpFam (CL K) S_is_integer)) (m_Frac1 : CalM P w K mg base 2 "Frac" [.int 1] (SpFamI (CL K) (He.ga K "Frac") S_FracD_initD)) : Cal P w K mg base 4 "as_frac" ["value"] (SpFam (CL K) S_as_frac) := by
  refine cal_mkF (N := ["value"]) T.g_as_frac T.d_as_frac sc_as_frac (fun _ _ _ _ _ _ us hl => match us, hl with | [_], _ => rfl) (by intro l Q h; first | (obtain ⟨rfl, _⟩ := h; rfl) | (obtain ⟨_, rfl, _⟩ := h; rfl) | (obtain ⟨_, _, rfl, _⟩ := h; rfl) | (obtain ⟨_, _, _, rfl, _⟩ := h; rfl) | (obtain ⟨_, _, _, _, rfl, _⟩ := h; rfl) | (obtain ⟨_, _, _, _, _, rfl, _⟩ := h; rfl) | (obtain ⟨_, _, _, _, _, _, rfl, _⟩ := h; rfl) | (obtain ⟨_, _, _, _, _, _, _, rfl, _⟩ := h; rfl) | (obtain ⟨_, _, _, _, _, _, _, _, rfl, _⟩ := h; rfl) | (obtain ⟨_, _, _, _, _, _, _, _, _, rfl, _⟩ := h; rfl) | (obtain ⟨_, _, _, _, _, _, _, _, _, _, rfl, _⟩ := h; rfl) | (obtain ⟨_, _, _, _, _, _, _, _, _, _, _, rfl, _⟩ := h; rfl)) (fun f cdv A outer s H E hr => ⟨_, (pss_cons (ps_if (pt_val (pe_callB (cr_isK K rfl) (by rfl) T.b_isinstance (by decide +kernel) (pa_cons (pv 0) (pa_cons (pe_gcls T.g_Frac (by rfl)) pa_nil)))) (pss_one (ps_ret (pv 0))) pss_nil) (pss_cons (ps_if (pt_not (pt_val (pe_calC c_is_integer hr (by decide) (by rfl) (pa_cons (pv 0) pa_nil)))) (pss_one ps_never) pss_nil) (pss_one (ps_ret (pe_mkK K rfl m_Frac1 hr (by decide) (by rfl) (pa_cons (pv 0) pa_nil)))))), ?_⟩)
  intro nn B l Q h
  obtain ⟨d, q, rfl, ha, h⟩ := h
  walk_at "g"
  rcases ha with ⟨i, rfl, rfl⟩ | rfl
  · refine ck_fr T (.int i) ?_
    walk_at "g"
    · exact ⟨_, rfl, .int _, _, rfl, rfl⟩
    · walk_at "g"
      exact ⟨_, _, rfl, by decide, by decide, _, rfl, by rw [show Rat.divInt i 1 = (i : Rat) from Rat.num_divInt_den (i : Rat)]; exact h⟩
  · refine ck_fr T (.frac q) ?_
    walk_at "g"
    exact h

def S_is_amount : List D → (D → Prop) → Prop := fun l K => ∃ d q, l = [d] ∧ AmtD d q ∧ -9999 ≤ q.num ∧ q.num ≤ 9999 ∧ q.den ≤ 99 ∧ K (.bl true)
theorem ok_is_amount (T : Tx K mg) (c_is_integer : Cal P w K mg base 1 "is_integer" ["value"] (SpFam (CL K) S_is_integer)) (c_as_frac : Cal P w K mg base 4 "as_frac" ["value"] (SpFam (CL K) S_as_frac)) : Cal P w K mg base 5 "is_amount" ["value"] (SpFam (CL K) S_is_amount) := by
  refine cal_mkF (N := ["value", "frac"]) T.g_is_amount T.d_is_amount sc_is_amount (fun _ _ _ _ _ _ us hl => match us, hl with | [_], _ => rfl) (by intro l Q h; first | (obtain ⟨rfl, _⟩ := h; rfl) | (obtain ⟨_, rfl, _⟩ := h; rfl) | (obtain ⟨_, _, rfl, _⟩ := h; rfl) | (obtain ⟨_, _, _, rfl, _⟩ := h; rfl) | (obtain ⟨_, _, _, _, rfl, _⟩ := h; rfl) | (obtain ⟨_, _, _, _, _, rfl, _⟩ := h; rfl) | (obtain ⟨_, _, _, _, _, _, rfl, _⟩ := h; rfl) | (obtain ⟨_, _, _, _, _, _, _, rfl, _⟩ := h; rfl) | (obtain ⟨_, _, _, _, _, _, _, _, rfl, _⟩ := h; rfl) | (obtain ⟨_, _, _, _, _, _, _, _, _, rfl, _⟩ := h; rfl) | (obtain ⟨_, _, _, _, _, _, _, _, _, _, rfl, _⟩ := h; rfl) | (obtain ⟨_, _, _, _, _, _, _, _, _, _, _, rfl, _⟩ := h; rfl)) (fun f cdv A outer s H E hr => ⟨_, (pss_cons (ps_if (PW.pt (pw_and (pt_not (pt_val (pe_calC c_is_integer hr (by decide) (by rfl) (pa_cons (pv 0) pa_nil)))) (pw_and1 (pt_not (pt_val (pe_callB (cr_isK K rfl) (by rfl) T.b_isinstance (by decide +kernel) (pa_cons (pv 0) (pa_cons (pe_gcls T.g_Frac (by rfl)) pa_nil)))))))) (pss_one (ps_ret pe_bl)) pss_nil) (pss_cons (ps_set (i := 1) sc_is_amount.nd rfl (by first | exact Or.inl rfl | exact Or.inr rfl) (pe_calC c_as_frac hr (by decide) (by rfl) (pa_cons (pv 0) pa_nil))) (pss_one (ps_ret (pe_and (pe_chain op_leI op_leI (pe_un un_neg (pe_gint T.i_MOST_OVER (by rfl))) (pe_fldK K rfl (pv 1) rfl) (pe_gint T.i_MOST_OVER (by rfl))) (pe_one (pe_cmpR op_leI (pe_fldK K rfl (pv 1) rfl) (pe_gint T.i_MOST_UNDER (by rfl)) (nomark _)))))))), ?_⟩)
  intro nn B l Q h
  obtain ⟨d, q, rfl, ha, h1, h2, h3, h⟩ := h
  refine sx_skip ?_ ?_
  · walk_at "g"
    refine ⟨_, rfl, ha.kn, ?_⟩
    rcases ha with ⟨i, rfl, rfl⟩ | rfl
    · walk_at "g"
      rfl
    · walk_at "g"
      exact ck_fr T (.frac q) (by walk_at "g"; rfl)
  · walk_at "g"
    refine ⟨_, _, rfl, ha, ?_⟩
    walk_at "g"
    refine br_p (fun _ => ?_) (fun z => absurd h1 z)
    walk_at "g"
    refine br_p (fun _ => ?_) (fun z => absurd h2 z)
    walk_at "g"
    rw [show decide ((q.den : Int) ≤ 99) = true from decide_eq_true (by omega)]
    exact h

def S_FracD_eqD : List D → (D → Prop) → Prop := S_eqF
theorem ok_FracD_eqD (T : Tx K mg)  : ∃ fd, FnOk P w K mg base (L2.CX P w) 1 (He.ma K (He.ga K "Frac") "__eq__") fd ["self", "other"] (SpFam (CL K) S_FracD_eqD) ∧ Binds K fd ["self", "other"] [] := by
  refine mth_mkF (N := ["self", "other"]) T.d_FracD_eqD sc_FracD_eqD (fun _ _ _ _ _ _ us hl => match us, hl with | [_, _], _ => rfl) (by intro l Q h; first | (obtain ⟨rfl, _⟩ := h; rfl) | (obtain ⟨_, rfl, _⟩ := h; rfl) | (obtain ⟨_, _, rfl, _⟩ := h; rfl) | (obtain ⟨_, _, _, rfl, _⟩ := h; rfl) | (obtain ⟨_, _, _, _, rfl, _⟩ := h; rfl) | (obtain ⟨_, _, _, _, _, rfl, _⟩ := h; rfl) | (obtain ⟨_, _, _, _, _, _, rfl, _⟩ := h; rfl) | (obtain ⟨_, _, _, _, _, _, _, rfl, _⟩ := h; rfl) | (obtain ⟨_, _, _, _, _, _, _, _, rfl, _⟩ := h; rfl) | (obtain ⟨_, _, _, _, _, _, _, _, _, rfl, _⟩ := h; rfl) | (obtain ⟨_, _, _, _, _, _, _, _, _, _, rfl, _⟩ := h; rfl) | (obtain ⟨_, _, _, _, _, _, _, _, _, _, _, rfl, _⟩ := h; rfl)) (fun f cdv A outer s H E hr => ⟨_, (pss_one (ps_ret (pe_and (pe_callB (cr_isK K rfl) (by rfl) T.b_isinstance (by decide +kernel) (pa_cons (pv 1) (pa_cons (pe_gcls T.g_Frac (by rfl)) pa_nil))) (pe_and (pe_cmpR op_eq (pe_fldK K rfl (pv 0) rfl) (pe_fldK K rfl (pv 1) rfl) (nomark _)) (pe_one (pe_cmpR op_eq (pe_fldK K rfl (pv 0) rfl) (pe_fldK K rfl (pv 1) rfl) (nomark _))))))), ?_⟩)
  intro nn B l Q h
  obtain ⟨p, q, rfl, h⟩ := h
  walk_at "g"
  refine ck_fr T (.frac q) ?_
  walk_at "g"
  refine br_p (fun h1 => ?_) (fun h1 => ?_)
  · walk_at "g"
    have e : decide (((p.den : Nat) : Int) = ((q.den : Nat) : Int)) = decide (p = q) := by
      refine decide_eq_decide.mpr ⟨fun z => Rat.ext h1 (by exact_mod_cast z), fun z => by rw [z]⟩
    rw [e]
    exact h
  · walk_at "g"
    rw [decide_eq_false (show ¬ p = q from fun z => h1 (by rw [z]))] at h
    exact h

def S_are_fracs : List D → (D → Prop) → Prop := fun l K => ∃ (d : D) (n : Int), l = [d, .int n] ∧ Kn d ∧ (∀ xs, seqOf d = some xs → (∀ x ∈ xs, Kn x) ∧ xs.length ≤ 1000) ∧ K (.bl (arF d n))
theorem ok_are_fracs (T : Tx K mg) (c_is_sequence : Cal P w K mg base 1 "is_sequence" ["value"] (SpFam (CL K) S_is_sequence)) : Cal P w K mg base 2 "are_fracs" ["value", "many"] (SpFam (CL K) S_are_fracs) := by
  refine cal_mkF (N := ["value", "many", "one"]) T.g_are_fracs T.d_are_fracs sc_are_fracs (fun _ _ _ _ _ _ us hl => match us, hl with | [_, _], _ => rfl) (by intro l Q h; first | (obtain ⟨rfl, _⟩ := h; rfl) | (obtain ⟨_, rfl, _⟩ := h; rfl) | (obtain ⟨_, _, rfl, _⟩ := h; rfl) | (obtain ⟨_, _, _, rfl, _⟩ := h; rfl) | (obtain ⟨_, _, _, _, rfl, _⟩ := h; rfl) | (obtain ⟨_, _, _, _, _, rfl, _⟩ := h; rfl) | (obtain ⟨_, _, _, _, _, _, rfl, _⟩ := h; rfl) | (obtain ⟨_, _, _, _, _, _, _, rfl, _⟩ := h; rfl) | (obtain ⟨_, _, _, _, _, _, _, _, rfl, _⟩ := h; rfl) | (obtain ⟨_, _, _, _, _, _, _, _, _, rfl, _⟩ := h; rfl) | (obtain ⟨_, _, _, _, _, _, _, _, _, _, rfl, _⟩ := h; rfl) | (obtain ⟨_, _, _, _, _, _, _, _, _, _, _, rfl, _⟩ := h; rfl)) (fun f cdv A outer s H E hr => ⟨_, (pss_one (ps_ret (pe_and (pe_calC c_is_sequence hr (by decide) (by rfl) (pa_cons (pv 0) pa_nil)) (pe_and (pe_cmpR op_eq (pe_callB (cr_lenK K rfl) (by rfl) T.b_len PySem.boot_len (pa_cons (pv 0) pa_nil)) (pv 1) (nomark _)) (pe_one (pe_callB (cr_allK K rfl rfl) (by rfl) T.b_all (by decide +kernel) (pa_cons (pe_lc (own := [("one", 2)]) (g := gName 2) (tt := tYes) rfl sc_are_fracs.nd (pi_seqK K rfl (pv 0)) (blkOk_by (own := [("one", 2)]) (N := ["value", "many", "one"]) (sc := defScope s_are_fracs) (by decide +kernel)) (fun _ _ _ _ _ => (pg_name (i := 2) sc_are_fracs.nd rfl (by first | exact Or.inl rfl | exact Or.inr rfl))) (fun _ _ _ _ _ => pts_nil) (fun _ _ _ _ _ => (pe_callB (cr_isK K rfl) (by rfl) T.b_isinstance (by decide +kernel) (pa_cons (pv 2) (pa_cons (pe_gcls T.g_Frac (by rfl)) pa_nil))))) pa_nil))))))), ?_⟩)
  intro nn B l Q h
  obtain ⟨d, n, rfl, kn, hx, h⟩ := h
  walk_at "g"
  refine ⟨_, rfl, kn, ?_⟩
  walk_at "x"
  refine ⟨fun hs => ?_, fun hs => ?_⟩
  · obtain ⟨k, xs, rfl⟩ := isSeq_ex hs
    obtain ⟨hk, hl⟩ := hx xs seqOf_kd
    have e : arF (Kd.d k xs) n = (decide ((xs.length : Int) = n) && xs.all D.isFrac) := by unfold arF; rw [seqOf_kd]
    rw [e] at h
    walk_at "g"
    refine br_p (fun h1 => ?_) (fun h1 => ?_)
    · rw [decide_eq_true h1, Bool.true_and] at h
      walk_at "g"
      refine ⟨D, xs, id, fun x => .bl x.isFrac, by simp, Nat.le_trans hl (by decide), fun W1 x hx => ?_, ?_⟩
      · walk_at "g"
        exact ck_fr T (hk x hx) rfl
      · refine ⟨rfl, xs.map D.isFrac, by rw [List.map_map]; rfl, ?_⟩
        rw [List.all_map]
        exact h
    · rw [decide_eq_false h1, Bool.false_and] at h
      exact h
  · have e : arF d n = false := by cases kn <;> first | rfl | cases hs
    rw [e] at h
    exact h

end

end K
end

section
set_option maxRecDepth 100000
set_option maxHeartbeats 4000000
namespace K
open PySem PySem.Spec PyProof.Rows L2 G

def prO : D → D
  | .frac q => lowD q
  | _ => .non
theorem prO_non {d : D} (kn : Kn d) (h : d.isFrac = false) : prO d = .non := by cases kn <;> first | rfl | cases h
def pdO : D → PyData
  | .frac q => .tuple [.int q.num, .int (q.den : Nat)]
  | _ => .none
section
variable {C : Cl} {B : Bs} {Γ : List Sl} {KK : PySem.W.Frag}
theorem dp_prO {P : Option Addr} {W H : Hp} (s : Same W H) : ∀ {ps : List D} {vs : List V}, (∀ d ∈ ps, Kn d) → RepL C P W vs (ps.map prO) → DpAll KK H vs (ps.map pdO)
  | [], _, _, r => by cases r; exact .nil
  | p :: ps, _, kn, r => by
    cases r with
    | cons r rr =>
      refine .cons ?_ (dp_prO s (fun d hd => kn d (List.mem_cons_of_mem _ hd)) rr)
      cases kn p List.mem_cons_self with
      | frac q =>
        cases r with
        | tup ha r =>
          cases r with
          | cons r1 r2 =>
            cases r2 with
            | cons r2 r3 =>
              cases r1; cases r2; cases r3
              exact .tup (SqT.of (s _ _ ha)) (.cons (.int _) (.cons (.int _) .nil))
      | _ => cases r; exact .non
theorem shaped_prO : ∀ (ps : List D), PyData.canLayAll0 (ps.map pdO) = true ∧ PyData.depthAll (ps.map pdO) ≤ 2
  | [] => ⟨by simp [PyData.canLayAll0], by simp [PyData.depthAll]⟩
  | p :: ps => by
    obtain ⟨h1, h2⟩ := shaped_prO ps
    cases p with
    | frac q =>
      refine ⟨by simp [pdO, PyData.canLayAll0, PyData.canLay0, h1], ?_⟩
      simp only [List.map_cons, pdO, PyData.depthAll, PyData.depth]
      omega
    | _ =>
      refine ⟨by simp [pdO, PyData.canLayAll0, PyData.canLay0, h1], ?_⟩
      simp only [List.map_cons, pdO, PyData.depthAll, PyData.depth]
      omega
theorem any_prO : ∀ (ps : List D), (∀ d ∈ ps, Kn d) → (ps.map pdO).any (fun z => PyData.eqv z .none) = ps.any fun d => !d.isFrac
  | [], _ => rfl
  | p :: ps, kn => by
    rw [List.map_cons, List.any_cons, List.any_cons, any_prO ps fun d hd => kn d (List.mem_cons_of_mem _ hd)]
    congr 1
    cases kn p List.mem_cons_self <;> simp [pdO, PyData.eqv, D.isFrac]
theorem rk_nonInO {ps : List D} {K : D → Prop} (kn : ∀ d ∈ ps, Kn d) (k : K (.bl (ps.any fun d => !d.isFrac))) : RK C B (rInD KK) .non (.lst (ps.map prO)) K := fun W H hw pl v1 v2 r1 r2 Q q => by
  cases r1
  cases r2 with
  | lst ha r =>
    obtain ⟨h1, h2⟩ := shaped_prO ps
    refine ⟨.none, ps.map pdO, .non, .lst (SqL.of (hw _ _ ha)) (dp_prO hw kn r), by simp [SeqAt.shaped, PyData.canLay0, PyData.depth], ?_, ?_⟩
    · simp only [SeqAt.shaped, PyData.canLay0, PyData.depth, h1, Bool.true_and]
      exact decide_eq_true (by omega)
    · rw [any_prO ps kn]
      exact q _ _ W H (.refl hw) (.bl _) k
end
section
local macro_rules | `(tactic| walk_at "e") => `(tactic| first
  | ((with_reducible refine' ek_var ?h1 ?_); (case h1 => exact rfl))
  | (with_reducible refine ek_int ?_)
  | (with_reducible refine ek_bl ?_)
  | (with_reducible refine ek_non ?_)
  | (with_reducible refine ek_str ?_)
  | (with_reducible refine ek_ty ?_)
  | (with_reducible refine ek_cls ?_)
  | (with_reducible refine ek_ix ?_)
  | (with_reducible refine ek_un ?_)
  | (with_reducible refine ek_tup ?_)
  | (with_reducible refine k_call ?_)
  | (with_reducible refine ek_len ?_)
  | (with_reducible refine ek_tuple ?_)
  | (with_reducible refine ek_sum ?_)
  | (with_reducible refine ek_all ?_)
  | (with_reducible refine ek_any ?_)
  | (with_reducible refine ek_chain ?_)
  | (with_reducible refine ek_andV ?_)
  | (with_reducible refine ek_orV ?_)
  | (with_reducible refine ek_notV ?_)
  | (with_reducible refine ek_if ?_)
  | (with_reducible refine ek_ef (ef_lst ?_))
  | (with_reducible refine ek_ef (ef_list ?_))
  | (with_reducible refine ek_ef (ef_cat ?_))
  | (with_reducible refine ek_ef (ef_rep ?_))
  | (with_reducible refine ek_ef (ef_slice ?_))
  | (with_reducible refine ek_ef (ef_rev ?_))
  | (with_reducible refine ek_ef (ef_lstRev ?_))
  | (with_reducible refine ek_ef (ef_map ?_))
  | (with_reducible refine ek_ef (ef_filt ?_))
  | (with_reducible refine ef_lst ?_)
  | (with_reducible refine ef_list ?_)
  | (with_reducible refine ef_cat ?_)
  | (with_reducible refine ef_rep ?_)
  | (with_reducible refine ef_slice ?_)
  | (with_reducible refine ef_rev ?_)
  | (with_reducible refine ef_lstRev ?_)
  | (with_reducible refine ef_map ?_)
  | (with_reducible refine ef_filt ?_)
  | ((with_reducible refine' el_var ?h1 ?_); (case h1 => exact rfl))
  | ((with_reducible refine' el_own ?h1 ?_); (case h1 => exact rfl))
  | (with_reducible refine el_ef (ef_lst ?_))
  | (with_reducible refine el_ef (ef_list ?_))
  | (with_reducible refine el_ef (ef_cat ?_))
  | (with_reducible refine el_ef (ef_rep ?_))
  | (with_reducible refine el_ef (ef_slice ?_))
  | (with_reducible refine el_ef (ef_rev ?_))
  | (with_reducible refine el_ef (ef_lstRev ?_))
  | (with_reducible refine el_ef (ef_map ?_))
  | (with_reducible refine el_ef (ef_filt ?_))
  | (with_reducible refine ek_op ?_)
  | (with_reducible refine ek_cb ?_)
  | (with_reducible refine el_ek ?_)
  | (with_reducible refine tk_test ?_)
  | (with_reducible refine tk_B ?_)
  | (with_reducible refine tk_and ?_)
  | (with_reducible refine tk_or ?_)
  | (with_reducible refine tk_not ?_)
  | (with_reducible refine tk_yes ?_)
  | (with_reducible refine ak_nil ?_)
  | (with_reducible refine ak_cons ?_)
  | (with_reducible refine k_num (‹Tx _ _›) ?_)
  | (with_reducible refine k_den (‹Tx _ _›) ?_)
  | (with_reducible refine k_mk2 ?_)
  | (with_reducible refine k_mkO ?_)
  | (with_reducible refine k_rows (‹Tx _ _›) ?_)
  | (with_reducible refine k_mk1 ?_)
  | (with_reducible refine k_bel ?_)
  | (with_reducible refine k_own ?_)
  | (with_reducible refine rk_U2 (k_own ?_))
  | (with_reducible refine rk_mul (Sz.mul (by assumption) (by assumption)) ?_)
  | (with_reducible refine rk_U1 (rk_mul (Sz.mul (by assumption) (by assumption)) ?_))
  | (with_reducible refine ek_dget ?_)
  | (with_reducible refine uk_neg ?_)
  | (with_reducible refine ek_disp ?_)
  | (with_reducible refine pk_cons ?_)
  | (with_reducible refine pk_nil ?_)
  | (with_reducible refine rk_mod (by assumption) ?_)
  | (with_reducible refine rk_add ?_)
  | (with_reducible refine rk_sub ?_)
  | (with_reducible refine rk_lt ?_)
  | (with_reducible refine rk_le ?_)
  | (with_reducible refine rk_gt ?_)
  | (with_reducible refine rk_ge ?_)
  | (with_reducible refine rk_eqI ?_)
  | (with_reducible refine rk_neI ?_)
  | (with_reducible refine rk_isN ?_)
  | (with_reducible refine rk_notN ?_)
  | (with_reducible refine rk_U1 (rk_add ?_))
  | (with_reducible refine rk_U1 (rk_sub ?_))
  | (with_reducible refine ck_gcd ?_)
  | (with_reducible refine ck_abs ?_)
  | (with_reducible refine ck_int ?_)
  | (with_reducible refine ik_seq ?_)
  | (with_reducible refine ik_range1 ?_)
  | (with_reducible refine ik_range2 ?_)
  | (with_reducible refine ik_enumA ?_)
  | (with_reducible refine ik_zip ?_)
  | (with_reducible refine ik_rev ?_)
  | ((with_reducible refine' cg_name ?_ ?h1 ?h2); (case h1 => exact rfl); (case h2 => decide))
  | ((with_reducible refine' cg_anyT ?h1 ?_); (case h1 => exact rfl))
  | ((with_reducible refine' cg_anyL ?h1 ?_); (case h1 => exact rfl))
  | ((with_reducible refine' cg_anyK ?h1 ?_); (case h1 => exact rfl))
  | ((with_reducible refine' cgs_cons ?_ ?h1 ?h2); (case h1 => exact rfl); (case h2 => decide))
  | (with_reducible refine cgs_nil ?_)
  | ((with_reducible refine' gk_name ?_ ?h1); (case h1 => exact rfl))
  | ((with_reducible refine' gk_anyT ?h1 ?_); (case h1 => exact rfl))
  | ((with_reducible refine' gk_anyL ?h1 ?_); (case h1 => exact rfl))
  | ((with_reducible refine' gk_anyK ?h1 ?_); (case h1 => exact rfl))
  | ((with_reducible refine' gks_cons ?_ ?h1); (case h1 => exact rfl))
  | ((with_reducible refine' gks_consA (n := 0) ?_ ?h1 ?h2); (case h1 => exact rfl); (case h2 => exact rfl))
  | ((with_reducible refine' gks_consB ?h0 ?_ ?h1 ?h2); (case h0 => exact rfl); (case h1 => exact rfl); (case h2 => exact rfl))
  | (with_reducible refine gks_nil ?_)
  | (with_reducible refine ok_none ?_)
  | (with_reducible refine ok_some ?_))
local macro_rules | `(tactic| walk_at "s") => `(tactic| first
  | (with_reducible refine sx_guard ?_ ?_)
  | (with_reducible refine sx_seq ?_)
  | (with_reducible refine sx_ret ?_)
  | (with_reducible refine sx_if ?_)
  | (with_reducible refine sx_next ?_)
  | (with_reducible refine sx_break ?_)
  | (with_reducible refine sx_cont ?_)
  | ((with_reducible refine' sx_append ?h1 ?_); (case h1 => exact rfl))
  | ((with_reducible refine' sx_setI ?h1 ?_); (case h1 => exact rfl))
  | ((with_reducible refine' sx_set ?h1 ?_); (case h1 => exact rfl))
  | (with_reducible refine sx_asg ?_)
  | ((with_reducible refine' sx_par ?h1 ?h2 ?_); (case h1 => exact rfl); (case h2 => exact rfl))
  | (with_reducible refine sx_drop ?_)
  | ((with_reducible refine' k_fldS (‹Tx _ _›) ?h1 ?h2 ?h3 ?_); (case h1 => exact rfl); (case h2 => decide); (case h3 => exact rfl))
  | ((with_reducible refine' k_fldO (‹Tx _ _›) ?h1 ?h3 ?_); (case h1 => exact rfl); (case h3 => exact rfl)))
/-! plain existentials that the rules leave -/
local macro_rules | `(tactic| walk_at "x") => `(tactic| first
  | (with_reducible refine x_bl ?_)
  | (with_reducible refine x_int ?_)
  | (with_reducible refine x_frac ?_)
  | (with_reducible refine x_lst ?_)
  | (with_reducible refine x_off ?_)
  | (with_reducible refine x_low ?_)
  | (with_reducible refine x_ownR ?_)
  | (with_reducible refine x_ownA ?_)
  | (with_reducible refine x_tup ?_)
  | (with_reducible refine x_kd ?_)
  | (with_reducible refine x_oneL ?_)
  | (with_reducible refine x_oneT ?_)
  | (with_reducible refine x_one ?_)
  | ((with_reducible refine' x_at ?h1 ?_); (case h1 => exact rfl))
  | ((with_reducible refine' x_dic ?h1 ?_); (case h1 => exact rfl))
  | (with_reducible refine (⟨rfl, ?_⟩ : Kd.l = Kd.l ∧ _))
  | ((with_reducible refine' x_len ?h1 ?_); (case h1 => exact rfl))
  | ((with_reducible refine' br_t ?h1 ?_); (case h1 => exact rfl))
  | ((with_reducible refine' br_f ?h1 ?_); (case h1 => exact rfl)))
local macro_rules | `(tactic| walk_at "f") => `(tactic| first
  | ((with_reducible refine' sx_forW ?h1 ?_); (case h1 => exact rfl))
  | (with_reducible refine sx_forGW ?_))
local macro_rules | `(tactic| walk_at "g") => `(tactic| repeat (first | walk_at "s" | walk_at "f" | walk_at "e" | walk_at "x"))
local macro_rules | `(tactic| walk_at "v") => `(tactic| repeat (first | walk_at "e" | walk_at "x"))
local macro_rules | `(tactic| walk_at "h") => `(tactic| repeat (first | walk_at "s" | walk_at "e" | walk_at "x"))
variable {P : Program} {w : World} {K : PySem.W.Frag} {mg : Str → Option Value} {base : Heap}

theorem sz_of {i : Int} {b : Nat} (h : i.natAbs < 2 ^ b) (hb : b ≤ 4000) : Sz i := Nat.lt_of_lt_of_le h (Nat.pow_le_pow_right (by decide) hb)
theorem _root_.G.LR.lowS {q : Rat} (h : SzQ q) : LR 4000 q (lowD q) :=
  ⟨q.num, q.den, rfl, by have := q.den_pos; omega, num_mul q, h.1, h.2⟩
def S__law_gcd : List D → (D → Prop) → Prop := fun l K => ∃ a b : Int, l = [.int a, .int b] ∧ K (.int ((Nat.gcd a.natAbs b.natAbs : Nat) : Int))
theorem ok__law_gcd (T : Tx K mg)  : Cal P w K mg base 1 "_law_gcd" ["one", "two"] (SpFam (CL K) S__law_gcd) := by
  refine cal_mkF (N := ["one", "two", "rest"]) T.g__law_gcd T.d__law_gcd sc__law_gcd (fun _ _ _ _ _ _ us hl => match us, hl with | [_, _], _ => rfl) (by intro l Q h; first | (obtain ⟨rfl, _⟩ := h; rfl) | (obtain ⟨_, rfl, _⟩ := h; rfl) | (obtain ⟨_, _, rfl, _⟩ := h; rfl) | (obtain ⟨_, _, _, rfl, _⟩ := h; rfl) | (obtain ⟨_, _, _, _, rfl, _⟩ := h; rfl) | (obtain ⟨_, _, _, _, _, rfl, _⟩ := h; rfl) | (obtain ⟨_, _, _, _, _, _, rfl, _⟩ := h; rfl) | (obtain ⟨_, _, _, _, _, _, _, rfl, _⟩ := h; rfl) | (obtain ⟨_, _, _, _, _, _, _, _, rfl, _⟩ := h; rfl) | (obtain ⟨_, _, _, _, _, _, _, _, _, rfl, _⟩ := h; rfl) | (obtain ⟨_, _, _, _, _, _, _, _, _, _, rfl, _⟩ := h; rfl) | (obtain ⟨_, _, _, _, _, _, _, _, _, _, _, rfl, _⟩ := h; rfl)) (fun f cdv A outer s H E hr => ⟨_, (pss_cons (ps_set (i := 0) sc__law_gcd.nd rfl (by first | exact Or.inl rfl | exact Or.inr rfl) (pe_callB cr_abs (by rfl) T.b_abs (by decide +kernel) (pa_cons (pv 0) pa_nil))) (pss_cons (ps_set (i := 1) sc__law_gcd.nd rfl (by first | exact Or.inl rfl | exact Or.inr rfl) (pe_callB cr_abs (by rfl) T.b_abs (by decide +kernel) (pa_cons (pv 1) pa_nil))) (pss_cons (ps_while PassesOwn.never (pt_cmpR op_gtI (pv 1) pe_int (nomark _)) (pss_cons (ps_set (i := 2) sc__law_gcd.nd rfl (by first | exact Or.inl rfl | exact Or.inr rfl) (pe_op op_modI (pe_callTy cr_int1 (by rfl) T.b_int (by decide +kernel) (pa_cons (pv 0) pa_nil)) (pv 1))) (pss_cons (ps_set (i := 0) sc__law_gcd.nd rfl (by first | exact Or.inl rfl | exact Or.inr rfl) (pv 1)) (pss_one (ps_set (i := 1) sc__law_gcd.nd rfl (by first | exact Or.inl rfl | exact Or.inr rfl) (pv 2)))))) (pss_one (ps_ret (pv 0)))))), ?_⟩)
  intro nn B l Q h
  obtain ⟨a, b, rfl, h⟩ := h
  walk_at "g"
  refine sx_whileW (τ := Int × Int) (fun p => [.d (.int p.1), .d (.int p.2), .no]) (fun p => 0 ≤ p.1 ∧ 0 ≤ p.2 ∧ Nat.gcd p.1.natAbs p.2.natAbs = Nat.gcd a.natAbs b.natAbs) (fun p => p.2.toNat) ⟨(if a < 0 then -a else a, if b < 0 then -b else b), ⟨?_, ?_, ?_⟩, Wk.refl⟩ ?_
  · dsimp only; split <;> omega
  · dsimp only; split <;> omega
  · dsimp only
    rw [show (if a < 0 then -a else a).natAbs = a.natAbs by split <;> omega, show (if b < 0 then -b else b).natAbs = b.natAbs by split <;> omega]
  · rintro ⟨x, y⟩ ⟨hx, hy, hg⟩
    dsimp only at hx hy hg ⊢
    walk_at "g"
    refine br_p (fun hp => ?_) (fun hn => ?_)
    · have hp : 0 < y := hp
      walk_at "g"
      refine ⟨(y, x % y), ?_, ⟨hy, Int.emod_nonneg _ (by omega), ?_⟩, .same (.same (.no .nil))⟩
      · have := Int.emod_lt_of_pos x hp
        have := Int.emod_nonneg x (show y ≠ 0 by omega)
        dsimp only
        omega
      · rw [← hg, Int.natAbs_emod_of_nonneg hx, Nat.gcd_comm x.natAbs y.natAbs, Nat.gcd_rec y.natAbs x.natAbs, Nat.gcd_comm]
    · intro Γ' w
      refine sx_weak w ?_
      walk_at "g"
      have : y = 0 := by omega
      subst this
      rw [show Nat.gcd x.natAbs (0 : Int).natAbs = x.natAbs from Nat.gcd_zero_right _] at hg
      rw [← hg, Int.natAbs_of_nonneg hx] at h
      exact h

def S__law_low : List D → (D → Prop) → Prop := fun l K => ∃ d q b, l = [d] ∧ LR b q d ∧ b ≤ 9000 ∧ K (lowD q)
theorem ok__law_low (T : Tx K mg) (c__law_gcd : Cal P w K mg base 1 "_law_gcd" ["one", "two"] (SpFam (CL K) S__law_gcd)) : Cal P w K mg base 2 "_law_low" ["x"] (SpFam (CL K) S__law_low) := by
  refine cal_mkF (N := ["x", "by"]) T.g__law_low T.d__law_low sc__law_low (fun _ _ _ _ _ _ us hl => match us, hl with | [_], _ => rfl) (by intro l Q h; first | (obtain ⟨rfl, _⟩ := h; rfl) | (obtain ⟨_, rfl, _⟩ := h; rfl) | (obtain ⟨_, _, rfl, _⟩ := h; rfl) | (obtain ⟨_, _, _, rfl, _⟩ := h; rfl) | (obtain ⟨_, _, _, _, rfl, _⟩ := h; rfl) | (obtain ⟨_, _, _, _, _, rfl, _⟩ := h; rfl) | (obtain ⟨_, _, _, _, _, _, rfl, _⟩ := h; rfl) | (obtain ⟨_, _, _, _, _, _, _, rfl, _⟩ := h; rfl) | (obtain ⟨_, _, _, _, _, _, _, _, rfl, _⟩ := h; rfl) | (obtain ⟨_, _, _, _, _, _, _, _, _, rfl, _⟩ := h; rfl) | (obtain ⟨_, _, _, _, _, _, _, _, _, _, rfl, _⟩ := h; rfl) | (obtain ⟨_, _, _, _, _, _, _, _, _, _, _, rfl, _⟩ := h; rfl)) (fun f cdv A outer s H E hr => ⟨_, (pss_cons (ps_set (i := 1) sc__law_low.nd rfl (by first | exact Or.inl rfl | exact Or.inr rfl) (pe_calC c__law_gcd hr (by decide) (by rfl) (pa_cons (pe_ix (ix_seqK K rfl) (pv 0) pe_int (fun _ _ => rfl)) (pa_cons (pe_ix (ix_seqK K rfl) (pv 0) pe_int (fun _ _ => rfl)) pa_nil)))) (pss_cons (ps_if (pt_cmpR op_ltI (pe_ix (ix_seqK K rfl) (pv 0) pe_int (fun _ _ => rfl)) pe_int (nomark _)) (pss_one (ps_set (i := 1) sc__law_low.nd rfl (by first | exact Or.inl rfl | exact Or.inr rfl) (pe_op op_subI pe_int (pv 1)))) pss_nil) (pss_one (ps_ret (pe_tup (pa_cons (pe_op op_divI (pe_ix (ix_seqK K rfl) (pv 0) pe_int (fun _ _ => rfl)) (pv 1)) (pa_cons (pe_op op_divI (pe_ix (ix_seqK K rfl) (pv 0) pe_int (fun _ _ => rfl)) (pv 1)) pa_nil))))))), ?_⟩)
  intro nn B l Q h
  obtain ⟨d, q, b, rfl, ⟨n, m, rfl, hm, he, hn, hb⟩, hB, h⟩ := h
  walk_at "g"
  refine ⟨_, _, rfl, ?_⟩
  walk_at "g"
  refine br_p (fun z => absurd hm (by omega)) (fun _ => ?_)
  walk_at "g"
  have hp : 0 < b := by
    rcases Nat.eq_zero_or_pos b with z | z
    · subst z; have : m.natAbs < 1 := hb; omega
    · exact z
  refine rk_div (cdiv_gcd hm hb hp hB) ?_
  walk_at "g"
  refine rk_div (cdiv_gcd hm hb hp hB) ?_
  walk_at "g"
  have e := pair_div hm he
  rw [← divInt_num hm, ← divInt_den hm, e]
  exact h

def S__law_plus : List D → (D → Prop) → Prop := fun l K => ∃ x y p q b c, l = [x, y] ∧ LR b p x ∧ LR c q y ∧ b ≤ 4000 ∧ c ≤ 4000 ∧ ∀ z, LR (b + c + 1) (p + q) z → K z
theorem ok__law_plus (T : Tx K mg)  : Cal P w K mg base 1 "_law_plus" ["x", "y"] (SpFam (CL K) S__law_plus) := by
  refine cal_mkF (N := ["x", "y"]) T.g__law_plus T.d__law_plus sc__law_plus (fun _ _ _ _ _ _ us hl => match us, hl with | [_, _], _ => rfl) (by intro l Q h; first | (obtain ⟨rfl, _⟩ := h; rfl) | (obtain ⟨_, rfl, _⟩ := h; rfl) | (obtain ⟨_, _, rfl, _⟩ := h; rfl) | (obtain ⟨_, _, _, rfl, _⟩ := h; rfl) | (obtain ⟨_, _, _, _, rfl, _⟩ := h; rfl) | (obtain ⟨_, _, _, _, _, rfl, _⟩ := h; rfl) | (obtain ⟨_, _, _, _, _, _, rfl, _⟩ := h; rfl) | (obtain ⟨_, _, _, _, _, _, _, rfl, _⟩ := h; rfl) | (obtain ⟨_, _, _, _, _, _, _, _, rfl, _⟩ := h; rfl) | (obtain ⟨_, _, _, _, _, _, _, _, _, rfl, _⟩ := h; rfl) | (obtain ⟨_, _, _, _, _, _, _, _, _, _, rfl, _⟩ := h; rfl) | (obtain ⟨_, _, _, _, _, _, _, _, _, _, _, rfl, _⟩ := h; rfl)) (fun f cdv A outer s H E hr => ⟨_, (pss_one (ps_ret (pe_tup (pa_cons (pe_op op_addI (pe_op op_mulI (pe_ix (ix_seqK K rfl) (pv 0) pe_int (fun _ _ => rfl)) (pe_ix (ix_seqK K rfl) (pv 1) pe_int (fun _ _ => rfl))) (pe_op op_mulI (pe_ix (ix_seqK K rfl) (pv 1) pe_int (fun _ _ => rfl)) (pe_ix (ix_seqK K rfl) (pv 0) pe_int (fun _ _ => rfl)))) (pa_cons (pe_op op_mulI (pe_ix (ix_seqK K rfl) (pv 0) pe_int (fun _ _ => rfl)) (pe_ix (ix_seqK K rfl) (pv 1) pe_int (fun _ _ => rfl))) pa_nil))))), ?_⟩)
  intro nn B l Q h
  obtain ⟨x, y, p, q, b, c, rfl, ⟨n, m, rfl, hm, he, hn, hb⟩, ⟨i, j, rfl, hj, he', hi, hc⟩, hB, hC, h⟩ := h
  have s1 := sz_of hn hB
  have s2 := sz_of hb hB
  have s3 := sz_of hi hC
  have s4 := sz_of hc hC
  walk_at "g"
  refine h _ ⟨_, _, rfl, Int.mul_pos hm hj, ?_, ?_, ?_⟩
  · push_cast; rw [he, he']; grind
  · exact lt_sum (lt_prod hn hc) (by rw [Nat.add_comm]; exact lt_prod hi hb)
  · exact Nat.lt_trans (lt_prod hb hc) (Nat.pow_lt_pow_right (by decide) (by omega))

def S__law_times : List D → (D → Prop) → Prop := fun l K => ∃ x y p q b c, l = [x, y] ∧ LR b p x ∧ LR c q y ∧ b ≤ 4000 ∧ c ≤ 4000 ∧ ∀ z, LR (b + c) (p * q) z → K z
theorem ok__law_times (T : Tx K mg)  : Cal P w K mg base 1 "_law_times" ["x", "y"] (SpFam (CL K) S__law_times) := by
  refine cal_mkF (N := ["x", "y"]) T.g__law_times T.d__law_times sc__law_times (fun _ _ _ _ _ _ us hl => match us, hl with | [_, _], _ => rfl) (by intro l Q h; first | (obtain ⟨rfl, _⟩ := h; rfl) | (obtain ⟨_, rfl, _⟩ := h; rfl) | (obtain ⟨_, _, rfl, _⟩ := h; rfl) | (obtain ⟨_, _, _, rfl, _⟩ := h; rfl) | (obtain ⟨_, _, _, _, rfl, _⟩ := h; rfl) | (obtain ⟨_, _, _, _, _, rfl, _⟩ := h; rfl) | (obtain ⟨_, _, _, _, _, _, rfl, _⟩ := h; rfl) | (obtain ⟨_, _, _, _, _, _, _, rfl, _⟩ := h; rfl) | (obtain ⟨_, _, _, _, _, _, _, _, rfl, _⟩ := h; rfl) | (obtain ⟨_, _, _, _, _, _, _, _, _, rfl, _⟩ := h; rfl) | (obtain ⟨_, _, _, _, _, _, _, _, _, _, rfl, _⟩ := h; rfl) | (obtain ⟨_, _, _, _, _, _, _, _, _, _, _, rfl, _⟩ := h; rfl)) (fun f cdv A outer s H E hr => ⟨_, (pss_one (ps_ret (pe_tup (pa_cons (pe_op op_mulI (pe_ix (ix_seqK K rfl) (pv 0) pe_int (fun _ _ => rfl)) (pe_ix (ix_seqK K rfl) (pv 1) pe_int (fun _ _ => rfl))) (pa_cons (pe_op op_mulI (pe_ix (ix_seqK K rfl) (pv 0) pe_int (fun _ _ => rfl)) (pe_ix (ix_seqK K rfl) (pv 1) pe_int (fun _ _ => rfl))) pa_nil))))), ?_⟩)
  intro nn B l Q h
  obtain ⟨x, y, p, q, b, c, rfl, ⟨n, m, rfl, hm, he, hn, hb⟩, ⟨i, j, rfl, hj, he', hi, hc⟩, hB, hC, h⟩ := h
  have s1 := sz_of hn hB
  have s2 := sz_of hb hB
  have s3 := sz_of hi hC
  have s4 := sz_of hc hC
  walk_at "g"
  refine h _ ⟨_, _, rfl, Int.mul_pos hm hj, ?_, ?_, ?_⟩
  · push_cast; rw [he, he']; grind
  · exact lt_prod hn hi
  · exact lt_prod hb hc

def S__law_below : List D → (D → Prop) → Prop := fun l K => ∃ x y p q b c, l = [x, y] ∧ LR b p x ∧ LR c q y ∧ b ≤ 4000 ∧ c ≤ 4000 ∧ K (.bl (decide (p < q)))
theorem ok__law_below (T : Tx K mg)  : Cal P w K mg base 1 "_law_below" ["x", "y"] (SpFam (CL K) S__law_below) := by
  refine cal_mkF (N := ["x", "y"]) T.g__law_below T.d__law_below sc__law_below (fun _ _ _ _ _ _ us hl => match us, hl with | [_, _], _ => rfl) (by intro l Q h; first | (obtain ⟨rfl, _⟩ := h; rfl) | (obtain ⟨_, rfl, _⟩ := h; rfl) | (obtain ⟨_, _, rfl, _⟩ := h; rfl) | (obtain ⟨_, _, _, rfl, _⟩ := h; rfl) | (obtain ⟨_, _, _, _, rfl, _⟩ := h; rfl) | (obtain ⟨_, _, _, _, _, rfl, _⟩ := h; rfl) | (obtain ⟨_, _, _, _, _, _, rfl, _⟩ := h; rfl) | (obtain ⟨_, _, _, _, _, _, _, rfl, _⟩ := h; rfl) | (obtain ⟨_, _, _, _, _, _, _, _, rfl, _⟩ := h; rfl) | (obtain ⟨_, _, _, _, _, _, _, _, _, rfl, _⟩ := h; rfl) | (obtain ⟨_, _, _, _, _, _, _, _, _, _, rfl, _⟩ := h; rfl) | (obtain ⟨_, _, _, _, _, _, _, _, _, _, _, rfl, _⟩ := h; rfl)) (fun f cdv A outer s H E hr => ⟨_, (pss_one (ps_ret (pe_cmpR op_ltI (pe_op op_mulI (pe_ix (ix_seqK K rfl) (pv 0) pe_int (fun _ _ => rfl)) (pe_ix (ix_seqK K rfl) (pv 1) pe_int (fun _ _ => rfl))) (pe_op op_mulI (pe_ix (ix_seqK K rfl) (pv 1) pe_int (fun _ _ => rfl)) (pe_ix (ix_seqK K rfl) (pv 0) pe_int (fun _ _ => rfl))) (nomark _)))), ?_⟩)
  intro nn B l Q h
  obtain ⟨x, y, p, q, b, c, rfl, ⟨n, m, rfl, hm, he, hn, hb⟩, ⟨i, j, rfl, hj, he', hi, hc⟩, hB, hC, h⟩ := h
  have s1 := sz_of hn hB
  have s2 := sz_of hb hB
  have s3 := sz_of hi hC
  have s4 := sz_of hc hC
  walk_at "g"
  rw [decide_eq_decide.mpr (pair_lt hm hj he he')]
  exact h

def S__law_equal : List D → (D → Prop) → Prop := fun l K => ∃ x y p q b c, l = [x, y] ∧ LR b p x ∧ LR c q y ∧ b ≤ 4000 ∧ c ≤ 4000 ∧ K (.bl (decide (p = q)))
theorem ok__law_equal (T : Tx K mg)  : Cal P w K mg base 1 "_law_equal" ["x", "y"] (SpFam (CL K) S__law_equal) := by
  refine cal_mkF (N := ["x", "y"]) T.g__law_equal T.d__law_equal sc__law_equal (fun _ _ _ _ _ _ us hl => match us, hl with | [_, _], _ => rfl) (by intro l Q h; first | (obtain ⟨rfl, _⟩ := h; rfl) | (obtain ⟨_, rfl, _⟩ := h; rfl) | (obtain ⟨_, _, rfl, _⟩ := h; rfl) | (obtain ⟨_, _, _, rfl, _⟩ := h; rfl) | (obtain ⟨_, _, _, _, rfl, _⟩ := h; rfl) | (obtain ⟨_, _, _, _, _, rfl, _⟩ := h; rfl) | (obtain ⟨_, _, _, _, _, _, rfl, _⟩ := h; rfl) | (obtain ⟨_, _, _, _, _, _, _, rfl, _⟩ := h; rfl) | (obtain ⟨_, _, _, _, _, _, _, _, rfl, _⟩ := h; rfl) | (obtain ⟨_, _, _, _, _, _, _, _, _, rfl, _⟩ := h; rfl) | (obtain ⟨_, _, _, _, _, _, _, _, _, _, rfl, _⟩ := h; rfl) | (obtain ⟨_, _, _, _, _, _, _, _, _, _, _, rfl, _⟩ := h; rfl)) (fun f cdv A outer s H E hr => ⟨_, (pss_one (ps_ret (pe_cmpR op_eq (pe_op op_mulI (pe_ix (ix_seqK K rfl) (pv 0) pe_int (fun _ _ => rfl)) (pe_ix (ix_seqK K rfl) (pv 1) pe_int (fun _ _ => rfl))) (pe_op op_mulI (pe_ix (ix_seqK K rfl) (pv 1) pe_int (fun _ _ => rfl)) (pe_ix (ix_seqK K rfl) (pv 0) pe_int (fun _ _ => rfl))) (nomark _)))), ?_⟩)
  intro nn B l Q h
  obtain ⟨x, y, p, q, b, c, rfl, ⟨n, m, rfl, hm, he, hn, hb⟩, ⟨i, j, rfl, hj, he', hi, hc⟩, hB, hC, h⟩ := h
  have s1 := sz_of hn hB
  have s2 := sz_of hb hB
  have s3 := sz_of hi hC
  have s4 := sz_of hc hC
  walk_at "g"
  rw [decide_eq_decide.mpr (pair_eq hm hj he he')]
  exact h

def S__law_greater : List D → (D → Prop) → Prop := fun l K => ∃ x y p q b c, l = [x, y] ∧ LR b p x ∧ LR c q y ∧ b ≤ 4000 ∧ c ≤ 4000 ∧ ∀ z, LR (max b c) (rmax p q) z → K z
theorem ok__law_greater (T : Tx K mg) (c__law_below : Cal P w K mg base 1 "_law_below" ["x", "y"] (SpFam (CL K) S__law_below)) : Cal P w K mg base 2 "_law_greater" ["x", "y"] (SpFam (CL K) S__law_greater) := by
  refine cal_mkF (N := ["x", "y"]) T.g__law_greater T.d__law_greater sc__law_greater (fun _ _ _ _ _ _ us hl => match us, hl with | [_, _], _ => rfl) (by intro l Q h; first | (obtain ⟨rfl, _⟩ := h; rfl) | (obtain ⟨_, rfl, _⟩ := h; rfl) | (obtain ⟨_, _, rfl, _⟩ := h; rfl) | (obtain ⟨_, _, _, rfl, _⟩ := h; rfl) | (obtain ⟨_, _, _, _, rfl, _⟩ := h; rfl) | (obtain ⟨_, _, _, _, _, rfl, _⟩ := h; rfl) | (obtain ⟨_, _, _, _, _, _, rfl, _⟩ := h; rfl) | (obtain ⟨_, _, _, _, _, _, _, rfl, _⟩ := h; rfl) | (obtain ⟨_, _, _, _, _, _, _, _, rfl, _⟩ := h; rfl) | (obtain ⟨_, _, _, _, _, _, _, _, _, rfl, _⟩ := h; rfl) | (obtain ⟨_, _, _, _, _, _, _, _, _, _, rfl, _⟩ := h; rfl) | (obtain ⟨_, _, _, _, _, _, _, _, _, _, _, rfl, _⟩ := h; rfl)) (fun f cdv A outer s H E hr => ⟨_, (pss_cons (ps_if (pt_val (pe_calC c__law_below hr (by decide) (by rfl) (pa_cons (pv 0) (pa_cons (pv 1) pa_nil)))) (pss_one (ps_ret (pv 1))) pss_nil) (pss_one (ps_ret (pv 0)))), ?_⟩)
  intro nn B l Q h
  obtain ⟨x, y, p, q, b, c, rfl, hx, hy, hB, hC, h⟩ := h
  walk_at "g"
  refine ⟨_, _, _, _, _, _, rfl, hx, hy, hB, hC, ?_⟩
  walk_at "g"
  refine br_p (fun hp => ?_) (fun hp => ?_)
  · walk_at "g"
    refine h _ ?_
    unfold rmax; rw [if_pos hp]
    exact hy.mono (Nat.le_max_right _ _)
  · walk_at "g"
    refine h _ ?_
    unfold rmax; rw [if_neg hp]
    exact hx.mono (Nat.le_max_left _ _)

def S__law_pair : List D → (D → Prop) → Prop := fun l K => ∃ d : D, l = [d] ∧ Kn d ∧ K (prO d)
theorem ok__law_pair (T : Tx K mg) (c__law_gcd : Cal P w K mg base 1 "_law_gcd" ["one", "two"] (SpFam (CL K) S__law_gcd)) : Cal P w K mg base 2 "_law_pair" ["value"] (SpFam (CL K) S__law_pair) := by
  refine cal_mkF (N := ["value"]) T.g__law_pair T.d__law_pair sc__law_pair (fun _ _ _ _ _ _ us hl => match us, hl with | [_], _ => rfl) (by intro l Q h; first | (obtain ⟨rfl, _⟩ := h; rfl) | (obtain ⟨_, rfl, _⟩ := h; rfl) | (obtain ⟨_, _, rfl, _⟩ := h; rfl) | (obtain ⟨_, _, _, rfl, _⟩ := h; rfl) | (obtain ⟨_, _, _, _, rfl, _⟩ := h; rfl) | (obtain ⟨_, _, _, _, _, rfl, _⟩ := h; rfl) | (obtain ⟨_, _, _, _, _, _, rfl, _⟩ := h; rfl) | (obtain ⟨_, _, _, _, _, _, _, rfl, _⟩ := h; rfl) | (obtain ⟨_, _, _, _, _, _, _, _, rfl, _⟩ := h; rfl) | (obtain ⟨_, _, _, _, _, _, _, _, _, rfl, _⟩ := h; rfl) | (obtain ⟨_, _, _, _, _, _, _, _, _, _, rfl, _⟩ := h; rfl) | (obtain ⟨_, _, _, _, _, _, _, _, _, _, _, rfl, _⟩ := h; rfl)) (fun f cdv A outer s H E hr => ⟨_, (pss_cons (ps_if (PW.pt (pw_or (pt_not (pt_val (pe_callB (cr_isK K rfl) (by rfl) T.b_isinstance (by decide +kernel) (pa_cons (pv 0) (pa_cons (pe_gcls T.g_Frac (by rfl)) pa_nil))))) (pw_or (pt_val (pe_callB (cr_isK K rfl) (by rfl) T.b_isinstance (by decide +kernel) (pa_cons (pe_fldK K rfl (pv 0) rfl) (pa_cons (pe_bltn (v := .ty "bool") (by rfl) T.b_bool (by decide +kernel) rfl) pa_nil)))) (pw_or1 (pt_val (pe_callB (cr_isK K rfl) (by rfl) T.b_isinstance (by decide +kernel) (pa_cons (pe_fldK K rfl (pv 0) rfl) (pa_cons (pe_bltn (v := .ty "bool") (by rfl) T.b_bool (by decide +kernel) rfl) pa_nil)))))))) (pss_one (ps_ret pe_non)) pss_nil) (pss_cons (ps_if (PW.pt (pw_or (pt_not (pt_val (pe_callB (cr_isK K rfl) (by rfl) T.b_isinstance (by decide +kernel) (pa_cons (pe_fldK K rfl (pv 0) rfl) (pa_cons (pe_bltn (v := .ty "int") (by rfl) T.b_int (by decide +kernel) rfl) pa_nil))))) (pw_or (pt_not (pt_val (pe_callB (cr_isK K rfl) (by rfl) T.b_isinstance (by decide +kernel) (pa_cons (pe_fldK K rfl (pv 0) rfl) (pa_cons (pe_bltn (v := .ty "int") (by rfl) T.b_int (by decide +kernel) rfl) pa_nil))))) (pw_or1 (pt_cmpR op_ltI (pe_fldK K rfl (pv 0) rfl) pe_int (nomark _)))))) (pss_one (ps_ret pe_non)) pss_nil) (pss_cons (ps_if (pt_cmpR op_ne (pe_calC c__law_gcd hr (by decide) (by rfl) (pa_cons (pe_fldK K rfl (pv 0) rfl) (pa_cons (pe_fldK K rfl (pv 0) rfl) pa_nil))) pe_int (nomark _)) (pss_one (ps_ret pe_non)) pss_nil) (pss_one (ps_ret (pe_tup (pa_cons (pe_fldK K rfl (pv 0) rfl) (pa_cons (pe_fldK K rfl (pv 0) rfl) pa_nil)))))))), ?_⟩)
  intro nn B l Q h
  obtain ⟨d, rfl, kn, h⟩ := h
  cases hf : d.isFrac with
  | false =>
    walk_at "g"
    refine ck_fr T kn ?_
    rw [hf]
    walk_at "g"
    rw [prO_non kn hf] at h
    exact h
  | true =>
    obtain ⟨q, rfl⟩ := isFrac_ex hf
    refine sx_skip ?_ ?_
    · walk_at "g"
      refine ck_fr T (.frac q) ?_
      walk_at "g"
      refine ck_ty T (.int _) (.inr (.inl rfl)) ?_
      walk_at "g"
      refine ck_ty T (.int _) (.inr (.inl rfl)) ?_
      walk_at "g"
      rfl
    refine sx_skip ?_ ?_
    · walk_at "g"
      refine ck_ty T (.int _) (.inl rfl) ?_
      walk_at "g"
      refine ck_ty T (.int _) (.inl rfl) ?_
      walk_at "g"
      have := q.den_pos
      exact decide_eq_false (by omega)
    refine sx_skip ?_ ?_
    · walk_at "g"
      refine ⟨_, _, rfl, ?_⟩
      walk_at "g"
      have e : Nat.gcd q.num.natAbs ((q.den : Nat) : Int).natAbs = 1 := q.reduced
      rw [e]; rfl
    walk_at "g"
    exact h

def S__law_pairs : List D → (D → Prop) → Prop := fun l K => ∃ (ds : List D) (n : Int), l = [.tup ds, .int n] ∧ (∀ d ∈ ds, Kn d) ∧ ds.length ≤ 1000 ∧ K (if (ds.length : Int) = n ∧ ds.all D.isFrac = true then .lst (ds.map prO) else .non)
theorem ok__law_pairs (T : Tx K mg) (c__law_pair : Cal P w K mg base 2 "_law_pair" ["value"] (SpFam (CL K) S__law_pair)) : Cal P w K mg base 3 "_law_pairs" ["values", "many"] (SpFam (CL K) S__law_pairs) := by
  refine cal_mkF (N := ["values", "many", "found", "value"]) T.g__law_pairs T.d__law_pairs sc__law_pairs (fun _ _ _ _ _ _ us hl => match us, hl with | [_, _], _ => rfl) (by intro l Q h; first | (obtain ⟨rfl, _⟩ := h; rfl) | (obtain ⟨_, rfl, _⟩ := h; rfl) | (obtain ⟨_, _, rfl, _⟩ := h; rfl) | (obtain ⟨_, _, _, rfl, _⟩ := h; rfl) | (obtain ⟨_, _, _, _, rfl, _⟩ := h; rfl) | (obtain ⟨_, _, _, _, _, rfl, _⟩ := h; rfl) | (obtain ⟨_, _, _, _, _, _, rfl, _⟩ := h; rfl) | (obtain ⟨_, _, _, _, _, _, _, rfl, _⟩ := h; rfl) | (obtain ⟨_, _, _, _, _, _, _, _, rfl, _⟩ := h; rfl) | (obtain ⟨_, _, _, _, _, _, _, _, _, rfl, _⟩ := h; rfl) | (obtain ⟨_, _, _, _, _, _, _, _, _, _, rfl, _⟩ := h; rfl) | (obtain ⟨_, _, _, _, _, _, _, _, _, _, _, rfl, _⟩ := h; rfl)) (fun f cdv A outer s H E hr => ⟨_, (pss_cons (ps_if (PW.pt (pw_or (pt_not (pt_val (pe_callB (cr_isK K rfl) (by rfl) T.b_isinstance (by decide +kernel) (pa_cons (pv 0) (pa_cons (pe_bltn (v := .ty "tuple") (by rfl) T.b_tuple (by decide +kernel) rfl) pa_nil))))) (pw_or1 (pt_cmpR op_ne (pe_callB (cr_lenK K rfl) (by rfl) T.b_len PySem.boot_len (pa_cons (pv 0) pa_nil)) (pv 1) (nomark _))))) (pss_one (ps_ret pe_non)) pss_nil) (pss_cons (ps_setLc (i := 2) (own := [("value", 3)]) (g := gName 3) (tt := tYes) rfl sc__law_pairs.nd rfl rfl (sw_true rfl rfl rfl (by decide +kernel)) (pi_seqK K rfl (pv 0)) (blkOk_by (own := [("value", 3)]) (N := ["values", "many", "found", "value"]) (sc := defScope s__law_pairs) (by decide +kernel)) (fun _ _ _ _ _ => (pg_name (i := 3) sc__law_pairs.nd rfl (by first | exact Or.inl rfl | exact Or.inr rfl))) (fun _ _ _ _ _ => pts_nil) (fun _ _ _ _ _ => (pe_calC c__law_pair hr (by decide) (by rfl) (pa_cons (pv 3) pa_nil)))) (pss_cons (ps_if (pt_cmpR (op_nonIn (KK := K) rfl hr) pe_non (pv 2) (by rfl)) (pss_one (ps_ret pe_non)) pss_nil) (pss_one (ps_ret (pv 2)))))), ?_⟩)
  intro nn B l Q h
  obtain ⟨ds, n, rfl, kn, hl, h⟩ := h
  walk_at "g"
  refine ck_ty T (.tup _) (.inr (.inr (.inr (.inl rfl)))) ?_
  walk_at "g"
  refine br_n (fun h1 => ?_) (fun h1 => ?_)
  · walk_at "g"
    rw [if_neg (fun z => h1 z.1)] at h
    exact h
  · walk_at "g"
    refine ⟨D, ds, id, prO, by simp, Nat.le_of_lt (small1000 hl), fun W1 q hq => ?_, ?_⟩
    · walk_at "g"
      exact ⟨_, rfl, kn q hq, rfl⟩
    · walk_at "g"
      refine rk_nonInO kn ?_
      walk_at "g"
      cases ha : ds.all D.isFrac with
      | true =>
        have hn : (ds.any fun d => !d.isFrac) = false := by
          rw [List.any_eq_false]; intro x hx
          have := List.all_eq_true.mp ha x hx
          simp [this]
        rw [hn]
        walk_at "g"
        rw [if_pos ⟨h1, ha⟩] at h
        exact h
      | false =>
        have hn : (ds.any fun d => !d.isFrac) = true := by
          rw [List.all_eq_false] at ha
          obtain ⟨x, hx, hy⟩ := ha
          exact List.any_eq_true.mpr ⟨x, hx, by simpa using hy⟩
        rw [hn]
        walk_at "g"
        rw [if_neg (fun z => by rw [ha] at z; exact Bool.noConfusion z.2)] at h
        exact h

def S__law_is : List D → (D → Prop) → Prop := fun l K => ∃ q d r c, l = [.frac q, d] ∧ SzQ q ∧ LR c r d ∧ c ≤ 4000 ∧ K (.bl (decide (q = r)))
theorem ok__law_is (T : Tx K mg) (c__law_pair : Cal P w K mg base 2 "_law_pair" ["value"] (SpFam (CL K) S__law_pair)) (c__law_equal : Cal P w K mg base 1 "_law_equal" ["x", "y"] (SpFam (CL K) S__law_equal)) : Cal P w K mg base 3 "_law_is" ["value", "due"] (SpFam (CL K) S__law_is) := by
  refine cal_mkF (N := ["value", "due", "found"]) T.g__law_is T.d__law_is sc__law_is (fun _ _ _ _ _ _ us hl => match us, hl with | [_, _], _ => rfl) (by intro l Q h; first | (obtain ⟨rfl, _⟩ := h; rfl) | (obtain ⟨_, rfl, _⟩ := h; rfl) | (obtain ⟨_, _, rfl, _⟩ := h; rfl) | (obtain ⟨_, _, _, rfl, _⟩ := h; rfl) | (obtain ⟨_, _, _, _, rfl, _⟩ := h; rfl) | (obtain ⟨_, _, _, _, _, rfl, _⟩ := h; rfl) | (obtain ⟨_, _, _, _, _, _, rfl, _⟩ := h; rfl) | (obtain ⟨_, _, _, _, _, _, _, rfl, _⟩ := h; rfl) | (obtain ⟨_, _, _, _, _, _, _, _, rfl, _⟩ := h; rfl) | (obtain ⟨_, _, _, _, _, _, _, _, _, rfl, _⟩ := h; rfl) | (obtain ⟨_, _, _, _, _, _, _, _, _, _, rfl, _⟩ := h; rfl) | (obtain ⟨_, _, _, _, _, _, _, _, _, _, _, rfl, _⟩ := h; rfl)) (fun f cdv A outer s H E hr => ⟨_, (pss_cons (ps_set (i := 2) sc__law_is.nd rfl (by first | exact Or.inl rfl | exact Or.inr rfl) (pe_calC c__law_pair hr (by decide) (by rfl) (pa_cons (pv 0) pa_nil))) (pss_one (ps_ret (pe_and (pe_cmpR op_notNon (pv 2) pe_non (nomark _)) (pe_one (pe_calC c__law_equal hr (by decide) (by rfl) (pa_cons (pv 2) (pa_cons (pv 1) pa_nil)))))))), ?_⟩)
  intro nn B l Q h
  obtain ⟨q, d, r, c, rfl, hq, hd, hc, h⟩ := h
  walk_at "g"
  refine ⟨_, rfl, .frac q, ?_⟩
  walk_at "g"
  refine ⟨_, _, _, _, _, _, rfl, LR.lowS hq, hd, Nat.le_refl _, hc, ?_⟩
  exact h

end

end K
end

section
set_option maxRecDepth 100000
set_option maxHeartbeats 4000000
namespace K
open PySem PySem.Spec PyProof.Rows L2 G

/-- a cell of an offer as given, w its weight, q its worth -/
structure Cell where
  k : Kd
  x : D
  w : Int
  q : Rat
@[reducible] def Cell.d (c : Cell) : D := Kd.d c.k [.int c.w, c.x]
structure Cell.Ok (c : Cell) : Prop where
  a : AmtD c.x c.q
  w1 : 1 ≤ c.w
  w2 : c.w ≤ 99
  n0 : 0 ≤ c.q.num
  n1 : c.q.num ≤ 9999
  d1 : c.q.den ≤ 99
theorem rmax_pos {p q : Rat} (h : p < q) : rmax p q = q := if_pos h
theorem rmax_neg {p q : Rat} (h : ¬ p < q) : rmax p q = p := if_neg h
theorem kn_kd {k : Kd} {l : List D} : Kn (Kd.d k l) := by cases k <;> constructor
theorem isSeq_kd {k : Kd} {l : List D} : (Kd.d k l).isSeq = true := by cases k <;> rfl
theorem sum_take {xs : List Rat} {j : Nat} {x : Rat} (h : xs[j]? = some x) : (xs.take (j + 1)).sum = (xs.take j).sum + x := by
  rw [List.take_succ, h, List.sum_append]; simp [Rat.add_zero]
theorem nice_take {xs : List Rat} {k j : Nat} (h : ∀ x ∈ xs, Nice k x) (hl : xs.length ≤ 32) : Nice (k + 1) (xs.take j).sum :=
  Nice.sum (fun x hx => h x (List.mem_of_mem_take hx)) (Nat.le_trans (by rw [List.length_take]; omega) hl)
section
local macro_rules | `(tactic| walk_at "e") => `(tactic| first
  | ((with_reducible refine' ek_var ?h1 ?_); (case h1 => exact rfl))
  | (with_reducible refine ek_int ?_)
  | (with_reducible refine ek_bl ?_)
  | (with_reducible refine ek_non ?_)
  | (with_reducible refine ek_str ?_)
  | (with_reducible refine ek_ty ?_)
  | (with_reducible refine ek_cls ?_)
  | (with_reducible refine ek_ix ?_)
  | (with_reducible refine ek_un ?_)
  | (with_reducible refine ek_tup ?_)
  | (with_reducible refine k_call ?_)
  | (with_reducible refine ek_len ?_)
  | (with_reducible refine ek_tuple ?_)
  | (with_reducible refine ek_sum ?_)
  | (with_reducible refine ek_all ?_)
  | (with_reducible refine ek_any ?_)
  | (with_reducible refine ek_chain ?_)
  | (with_reducible refine ek_andV ?_)
  | (with_reducible refine ek_orV ?_)
  | (with_reducible refine ek_notV ?_)
  | (with_reducible refine ek_if ?_)
  | (with_reducible refine ek_ef (ef_lst ?_))
  | (with_reducible refine ek_ef (ef_list ?_))
  | (with_reducible refine ek_ef (ef_cat ?_))
  | (with_reducible refine ek_ef (ef_rep ?_))
  | (with_reducible refine ek_ef (ef_slice ?_))
  | (with_reducible refine ek_ef (ef_rev ?_))
  | (with_reducible refine ek_ef (ef_lstRev ?_))
  | (with_reducible refine ek_ef (ef_map ?_))
  | (with_reducible refine ek_ef (ef_filt ?_))
  | (with_reducible refine ef_lst ?_)
  | (with_reducible refine ef_list ?_)
  | (with_reducible refine ef_cat ?_)
  | (with_reducible refine ef_rep ?_)
  | (with_reducible refine ef_slice ?_)
  | (with_reducible refine ef_rev ?_)
  | (with_reducible refine ef_lstRev ?_)
  | (with_reducible refine ef_map ?_)
  | (with_reducible refine ef_filt ?_)
  | ((with_reducible refine' el_var ?h1 ?_); (case h1 => exact rfl))
  | ((with_reducible refine' el_own ?h1 ?_); (case h1 => exact rfl))
  | (with_reducible refine el_ef (ef_lst ?_))
  | (with_reducible refine el_ef (ef_list ?_))
  | (with_reducible refine el_ef (ef_cat ?_))
  | (with_reducible refine el_ef (ef_rep ?_))
  | (with_reducible refine el_ef (ef_slice ?_))
  | (with_reducible refine el_ef (ef_rev ?_))
  | (with_reducible refine el_ef (ef_lstRev ?_))
  | (with_reducible refine el_ef (ef_map ?_))
  | (with_reducible refine el_ef (ef_filt ?_))
  | (with_reducible refine ek_op ?_)
  | (with_reducible refine ek_cb ?_)
  | (with_reducible refine el_ek ?_)
  | (with_reducible refine tk_test ?_)
  | (with_reducible refine tk_B ?_)
  | (with_reducible refine tk_and ?_)
  | (with_reducible refine tk_or ?_)
  | (with_reducible refine tk_not ?_)
  | (with_reducible refine tk_yes ?_)
  | (with_reducible refine ak_nil ?_)
  | (with_reducible refine ak_cons ?_)
  | (with_reducible refine k_num (‹Tx _ _›) ?_)
  | (with_reducible refine k_den (‹Tx _ _›) ?_)
  | (with_reducible refine k_mk2 ?_)
  | (with_reducible refine k_mkO ?_)
  | (with_reducible refine k_rows (‹Tx _ _›) ?_)
  | (with_reducible refine k_mk1 ?_)
  | (with_reducible refine k_bel ?_)
  | (with_reducible refine k_own ?_)
  | (with_reducible refine rk_U2 (k_own ?_))
  | (with_reducible refine rk_mul (Sz.mul (by assumption) (by assumption)) ?_)
  | (with_reducible refine rk_U1 (rk_mul (Sz.mul (by assumption) (by assumption)) ?_))
  | (with_reducible refine ek_dget ?_)
  | (with_reducible refine uk_neg ?_)
  | (with_reducible refine ek_disp ?_)
  | (with_reducible refine pk_cons ?_)
  | (with_reducible refine pk_nil ?_)
  | (with_reducible refine rk_mod (by assumption) ?_)
  | (with_reducible refine rk_add ?_)
  | (with_reducible refine rk_sub ?_)
  | (with_reducible refine rk_lt ?_)
  | (with_reducible refine rk_le ?_)
  | (with_reducible refine rk_gt ?_)
  | (with_reducible refine rk_ge ?_)
  | (with_reducible refine rk_eqI ?_)
  | (with_reducible refine rk_neI ?_)
  | (with_reducible refine rk_isN ?_)
  | (with_reducible refine rk_notN ?_)
  | (with_reducible refine rk_U1 (rk_add ?_))
  | (with_reducible refine rk_U1 (rk_sub ?_))
  | (with_reducible refine ck_gcd ?_)
  | (with_reducible refine ck_abs ?_)
  | (with_reducible refine ck_int ?_)
  | (with_reducible refine ik_seq ?_)
  | (with_reducible refine ik_range1 ?_)
  | (with_reducible refine ik_range2 ?_)
  | (with_reducible refine ik_enumA ?_)
  | (with_reducible refine ik_zip ?_)
  | (with_reducible refine ik_rev ?_)
  | ((with_reducible refine' cg_name ?_ ?h1 ?h2); (case h1 => exact rfl); (case h2 => decide))
  | ((with_reducible refine' cg_anyT ?h1 ?_); (case h1 => exact rfl))
  | ((with_reducible refine' cg_anyL ?h1 ?_); (case h1 => exact rfl))
  | ((with_reducible refine' cg_anyK ?h1 ?_); (case h1 => exact rfl))
  | ((with_reducible refine' cgs_cons ?_ ?h1 ?h2); (case h1 => exact rfl); (case h2 => decide))
  | (with_reducible refine cgs_nil ?_)
  | ((with_reducible refine' gk_name ?_ ?h1); (case h1 => exact rfl))
  | ((with_reducible refine' gk_anyT ?h1 ?_); (case h1 => exact rfl))
  | ((with_reducible refine' gk_anyL ?h1 ?_); (case h1 => exact rfl))
  | ((with_reducible refine' gk_anyK ?h1 ?_); (case h1 => exact rfl))
  | ((with_reducible refine' gks_cons ?_ ?h1); (case h1 => exact rfl))
  | ((with_reducible refine' gks_consA (n := 0) ?_ ?h1 ?h2); (case h1 => exact rfl); (case h2 => exact rfl))
  | ((with_reducible refine' gks_consB ?h0 ?_ ?h1 ?h2); (case h0 => exact rfl); (case h1 => exact rfl); (case h2 => exact rfl))
  | (with_reducible refine gks_nil ?_)
  | (with_reducible refine ok_none ?_)
  | (with_reducible refine ok_some ?_))
local macro_rules | `(tactic| walk_at "s") => `(tactic| first
  | (with_reducible refine sx_guard ?_ ?_)
  | (with_reducible refine sx_seq ?_)
  | (with_reducible refine sx_ret ?_)
  | (with_reducible refine sx_if ?_)
  | (with_reducible refine sx_next ?_)
  | (with_reducible refine sx_break ?_)
  | (with_reducible refine sx_cont ?_)
  | ((with_reducible refine' sx_append ?h1 ?_); (case h1 => exact rfl))
  | ((with_reducible refine' sx_setI ?h1 ?_); (case h1 => exact rfl))
  | ((with_reducible refine' sx_set ?h1 ?_); (case h1 => exact rfl))
  | (with_reducible refine sx_asg ?_)
  | ((with_reducible refine' sx_par ?h1 ?h2 ?_); (case h1 => exact rfl); (case h2 => exact rfl))
  | (with_reducible refine sx_drop ?_)
  | ((with_reducible refine' k_fldS (‹Tx _ _›) ?h1 ?h2 ?h3 ?_); (case h1 => exact rfl); (case h2 => decide); (case h3 => exact rfl))
  | ((with_reducible refine' k_fldO (‹Tx _ _›) ?h1 ?h3 ?_); (case h1 => exact rfl); (case h3 => exact rfl)))
/-! plain existentials that the rules leave -/
local macro_rules | `(tactic| walk_at "x") => `(tactic| first
  | (with_reducible refine x_bl ?_)
  | (with_reducible refine x_int ?_)
  | (with_reducible refine x_frac ?_)
  | (with_reducible refine x_lst ?_)
  | (with_reducible refine x_off ?_)
  | (with_reducible refine x_low ?_)
  | (with_reducible refine x_ownR ?_)
  | (with_reducible refine x_ownA ?_)
  | (with_reducible refine x_tup ?_)
  | (with_reducible refine x_kd ?_)
  | (with_reducible refine x_oneL ?_)
  | (with_reducible refine x_oneT ?_)
  | (with_reducible refine x_one ?_)
  | ((with_reducible refine' x_at ?h1 ?_); (case h1 => exact rfl))
  | ((with_reducible refine' x_dic ?h1 ?_); (case h1 => exact rfl))
  | (with_reducible refine (⟨rfl, ?_⟩ : Kd.l = Kd.l ∧ _))
  | ((with_reducible refine' x_len ?h1 ?_); (case h1 => exact rfl))
  | ((with_reducible refine' br_t ?h1 ?_); (case h1 => exact rfl))
  | ((with_reducible refine' br_f ?h1 ?_); (case h1 => exact rfl)))
local macro_rules | `(tactic| walk_at "f") => `(tactic| first
  | ((with_reducible refine' sx_forW ?h1 ?_); (case h1 => exact rfl))
  | (with_reducible refine sx_forGW ?_))
local macro_rules | `(tactic| walk_at "g") => `(tactic| repeat (first | walk_at "s" | walk_at "f" | walk_at "e" | walk_at "x"))
local macro_rules | `(tactic| walk_at "v") => `(tactic| repeat (first | walk_at "e" | walk_at "x"))
local macro_rules | `(tactic| walk_at "h") => `(tactic| repeat (first | walk_at "s" | walk_at "e" | walk_at "x"))
variable {P : Program} {w : World} {K : PySem.W.Frag} {mg : Str → Option Value} {base : Heap}

def S_greatest_of : List D → (D → Prop) → Prop := fun l K => ∃ p ps, l = [.lst ((p :: ps).map .frac)] ∧ (∀ q ∈ p :: ps, SzQ q) ∧ K (.frac ((p :: ps).foldl rmax p))
theorem ok_greatest_of (T : Tx K mg) (c_Frac_is_below : CalT P w K mg base 1 (He.ga K "Frac") "is_below" (SpFam (CL K) S_Frac_is_below)) : Cal P w K mg base 2 "greatest_of" ["fracs"] (SpFam (CL K) S_greatest_of) := by
  refine cal_mkF (N := ["fracs", "found", "one"]) T.g_greatest_of T.d_greatest_of sc_greatest_of (fun _ _ _ _ _ _ us hl => match us, hl with | [_], _ => rfl) (by intro l Q h; first | (obtain ⟨rfl, _⟩ := h; rfl) | (obtain ⟨_, rfl, _⟩ := h; rfl) | (obtain ⟨_, _, rfl, _⟩ := h; rfl) | (obtain ⟨_, _, _, rfl, _⟩ := h; rfl) | (obtain ⟨_, _, _, _, rfl, _⟩ := h; rfl) | (obtain ⟨_, _, _, _, _, rfl, _⟩ := h; rfl) | (obtain ⟨_, _, _, _, _, _, rfl, _⟩ := h; rfl) | (obtain ⟨_, _, _, _, _, _, _, rfl, _⟩ := h; rfl) | (obtain ⟨_, _, _, _, _, _, _, _, rfl, _⟩ := h; rfl) | (obtain ⟨_, _, _, _, _, _, _, _, _, rfl, _⟩ := h; rfl) | (obtain ⟨_, _, _, _, _, _, _, _, _, _, rfl, _⟩ := h; rfl) | (obtain ⟨_, _, _, _, _, _, _, _, _, _, _, rfl, _⟩ := h; rfl)) (fun f cdv A outer s H E hr => ⟨_, (pss_cons (ps_set (i := 1) sc_greatest_of.nd rfl (by first | exact Or.inl rfl | exact Or.inr rfl) (pe_ix (ix_seqK K rfl) (pv 0) pe_int (fun _ _ => rfl))) (pss_cons (ps_for PassesOwn.never rfl (pi_seqK K rfl (pv 0)) (pg_name (i := 2) sc_greatest_of.nd rfl (by first | exact Or.inl rfl | exact Or.inr rfl)) (pss_one (ps_if (pt_val (pe_mtC c_Frac_is_below hr (by decide) (pv 1) (pa_cons (pv 2) pa_nil))) (pss_one (ps_set (i := 1) sc_greatest_of.nd rfl (by first | exact Or.inl rfl | exact Or.inr rfl) (pv 2))) pss_nil))) (pss_one (ps_ret (pv 1))))), ?_⟩)
  intro nn B l Q h
  obtain ⟨p, ps, rfl, hs, h⟩ := h
  walk_at "g"
  refine x_at (x := .frac p) (atI_nat (i := 0) rfl) ?_
  walk_at "g"
  have key : ∀ j, SzQ (((p :: ps).take j).foldl rmax p) := by
    have : ∀ (xs : List Rat) (a : Rat), SzQ a → (∀ x ∈ xs, SzQ x) → SzQ (xs.foldl rmax a) := by
      intro xs
      induction xs with
      | nil => intro a h _; exact h
      | cons x xs ih => intro a h h2; exact ih _ (by unfold rmax; split; exact h2 x (List.mem_cons_self ..); exact h) fun y hy => h2 y (List.mem_cons_of_mem _ hy)
    intro j
    exact this _ _ (hs p List.mem_cons_self) fun x hx => hs x (List.mem_of_mem_take hx)
  refine ⟨Rat, p :: ps, .frac, fun j => [.d (.lst ((p :: ps).map .frac)), .d (.frac (((p :: ps).take j).foldl rmax p)), .no], rfl, Wk.refl, fun j => rfl, fun B' j x hx => ?_, fun Γ' w => sx_weak w ?_⟩
  · have e : ((p :: ps).take (j + 1)).foldl rmax p = rmax (((p :: ps).take j).foldl rmax p) x := by
      rw [List.take_succ, hx, List.foldl_append]; rfl
    walk_at "g"
    refine ⟨_, _, rfl, key j, hs x (List.mem_of_getElem? hx), ?_⟩
    walk_at "g"
    refine br_p (fun z => ?_) (fun z => ?_) <;> walk_at "g" <;> show Wk _ [_, .d (.frac (((p :: ps).take (j + 1)).foldl rmax p)), .no] <;> rw [e]
    · rw [rmax_pos z]; exact .same (.same (.no .nil))
    · rw [rmax_neg z]; exact .same (.same (.no .nil))
  · walk_at "g"
    rw [List.take_length]; exact h

def S_total : List D → (D → Prop) → Prop := fun l K => ∃ (xs : List Rat) (k : Nat), l = [.lst (xs.map .frac)] ∧ (∀ x ∈ xs, Bd k x) ∧ 1 + xs.length * (k + 1) ≤ 4000 ∧ k ≤ 4000 ∧ K (.frac xs.sum)
theorem ok_total (T : Tx K mg) (m_Frac1 : CalM P w K mg base 2 "Frac" [.int 1] (SpFamI (CL K) (He.ga K "Frac") S_FracD_initD)) (o_add : CalO P w K mg base 4 (He.ga K "Frac") .Add (SpFam (CL K) S_FracD_addD)) : Cal P w K mg base 5 "total" ["fracs"] (SpFam (CL K) S_total) := by
  refine cal_mkF (N := ["fracs", "found", "one"]) T.g_total T.d_total sc_total (fun _ _ _ _ _ _ us hl => match us, hl with | [_], _ => rfl) (by intro l Q h; first | (obtain ⟨rfl, _⟩ := h; rfl) | (obtain ⟨_, rfl, _⟩ := h; rfl) | (obtain ⟨_, _, rfl, _⟩ := h; rfl) | (obtain ⟨_, _, _, rfl, _⟩ := h; rfl) | (obtain ⟨_, _, _, _, rfl, _⟩ := h; rfl) | (obtain ⟨_, _, _, _, _, rfl, _⟩ := h; rfl) | (obtain ⟨_, _, _, _, _, _, rfl, _⟩ := h; rfl) | (obtain ⟨_, _, _, _, _, _, _, rfl, _⟩ := h; rfl) | (obtain ⟨_, _, _, _, _, _, _, _, rfl, _⟩ := h; rfl) | (obtain ⟨_, _, _, _, _, _, _, _, _, rfl, _⟩ := h; rfl) | (obtain ⟨_, _, _, _, _, _, _, _, _, _, rfl, _⟩ := h; rfl) | (obtain ⟨_, _, _, _, _, _, _, _, _, _, _, rfl, _⟩ := h; rfl)) (fun f cdv A outer s H E hr => ⟨_, (pss_cons (ps_set (i := 1) sc_total.nd rfl (by first | exact Or.inl rfl | exact Or.inr rfl) (pe_mkK K rfl m_Frac1 hr (by decide) (by rfl) (pa_cons pe_int pa_nil))) (pss_cons (ps_for PassesOwn.never rfl (pi_seqK K rfl (pv 0)) (pg_name (i := 2) sc_total.nd rfl (by first | exact Or.inl rfl | exact Or.inr rfl)) (pss_one (ps_set (i := 1) sc_total.nd rfl (by first | exact Or.inl rfl | exact Or.inr rfl) (pe_op (op_U op_addI (o_add.op hr (by decide))) (pv 1) (pv 2))))) (pss_one (ps_ret (pv 1))))), ?_⟩)
  intro nn B l Q h
  obtain ⟨xs, k, rfl, hs, hl, hk, h⟩ := h
  walk_at "g"
  refine ⟨_, _, rfl, by decide, by decide, 0, rfl, ?_⟩
  walk_at "g"
  refine ⟨Rat, xs, .frac, fun j => [.d (.lst (xs.map .frac)), .d (.frac (xs.take j).sum), .no], rfl, Wk.refl, fun j => rfl, fun B' j x hx => ?_, fun Γ' w => sx_weak w ?_⟩
  · walk_at "g"
    have hb : Bd 4000 (xs.take j).sum := by
      have := Bd.sum (xs := xs.take j) (k := k) fun y hy => hs y (List.mem_of_mem_take hy)
      refine this.mono ?_
      have : (xs.take j).length * (k + 1) ≤ xs.length * (k + 1) := Nat.mul_le_mul (by rw [List.length_take]; omega) (Nat.le_refl _)
      omega
    refine ⟨_, _, rfl, hb.sz (by omega), (hs x (List.mem_of_getElem? hx)).sz hk, ?_⟩
    walk_at "g"
    show Wk _ [_, .d (.frac (xs.take (j + 1)).sum), .no]
    rw [sum_take hx]
    exact .same (.same (.no .nil))
  · walk_at "g"
    rw [List.take_length]; exact h

def S_is_shown : List D → (D → Prop) → Prop := fun l K => ∃ c : Cell, l = [c.d] ∧ c.Ok ∧ K (.bl true)
theorem ok_is_shown (T : Tx K mg) (c_is_sequence : Cal P w K mg base 1 "is_sequence" ["value"] (SpFam (CL K) S_is_sequence)) (c_is_between : Cal P w K mg base 2 "is_between" ["value", "least", "most"] (SpFam (CL K) S_is_between)) (c_is_amount : Cal P w K mg base 5 "is_amount" ["value"] (SpFam (CL K) S_is_amount)) (c_as_frac : Cal P w K mg base 4 "as_frac" ["value"] (SpFam (CL K) S_as_frac)) : Cal P w K mg base 6 "is_shown" ["value"] (SpFam (CL K) S_is_shown) := by
  refine cal_mkF (N := ["value"]) T.g_is_shown T.d_is_shown sc_is_shown (fun _ _ _ _ _ _ us hl => match us, hl with | [_], _ => rfl) (by intro l Q h; first | (obtain ⟨rfl, _⟩ := h; rfl) | (obtain ⟨_, rfl, _⟩ := h; rfl) | (obtain ⟨_, _, rfl, _⟩ := h; rfl) | (obtain ⟨_, _, _, rfl, _⟩ := h; rfl) | (obtain ⟨_, _, _, _, rfl, _⟩ := h; rfl) | (obtain ⟨_, _, _, _, _, rfl, _⟩ := h; rfl) | (obtain ⟨_, _, _, _, _, _, rfl, _⟩ := h; rfl) | (obtain ⟨_, _, _, _, _, _, _, rfl, _⟩ := h; rfl) | (obtain ⟨_, _, _, _, _, _, _, _, rfl, _⟩ := h; rfl) | (obtain ⟨_, _, _, _, _, _, _, _, _, rfl, _⟩ := h; rfl) | (obtain ⟨_, _, _, _, _, _, _, _, _, _, rfl, _⟩ := h; rfl) | (obtain ⟨_, _, _, _, _, _, _, _, _, _, _, rfl, _⟩ := h; rfl)) (fun f cdv A outer s H E hr => ⟨_, (pss_cons (ps_if (PW.pt (pw_or (pt_not (pt_val (pe_calC c_is_sequence hr (by decide) (by rfl) (pa_cons (pv 0) pa_nil)))) (pw_or (pt_cmpR op_ne (pe_callB (cr_lenK K rfl) (by rfl) T.b_len PySem.boot_len (pa_cons (pv 0) pa_nil)) pe_int (nomark _)) (pw_or1 (pt_not (pt_val (pe_calC c_is_between hr (by decide) (by rfl) (pa_cons (pe_ix (ix_seqK K rfl) (pv 0) pe_int (fun _ _ => rfl)) (pa_cons pe_int (pa_cons (pe_gint T.i_MOST_SHOWN_WEIGHT (by rfl)) pa_nil)))))))))) (pss_one (ps_ret pe_bl)) pss_nil) (pss_one (ps_ret (pe_and (pe_calC c_is_amount hr (by decide) (by rfl) (pa_cons (pe_ix (ix_seqK K rfl) (pv 0) pe_int (fun _ _ => rfl)) pa_nil)) (pe_one (pe_cmpR op_geI (pe_fldK K rfl (pe_calC c_as_frac hr (by decide) (by rfl) (pa_cons (pe_ix (ix_seqK K rfl) (pv 0) pe_int (fun _ _ => rfl)) pa_nil)) rfl) pe_int (nomark _))))))), ?_⟩)
  intro nn B l Q h
  obtain ⟨⟨k, x, w, q⟩, rfl, ok, h⟩ := h
  have hx : AmtD x q := ok.a
  have h1 : 1 ≤ w := ok.w1
  have h2 : w ≤ 99 := ok.w2
  have h3 : 0 ≤ q.num := ok.n0
  refine sx_skip ?_ ?_
  · walk_at "g"
    refine ⟨_, rfl, kn_kd, ?_⟩
    walk_at "g"
    rw [isSeq_kd]
    walk_at "g"
    refine ⟨_, _, _, rfl, .int _, ?_⟩
    walk_at "g"
    simp [h1, h2]
  · walk_at "g"
    refine ⟨_, _, rfl, hx, by have := ok.n0; omega, ok.n1, ok.d1, ?_⟩
    walk_at "g"
    refine ⟨_, _, rfl, hx, ?_⟩
    walk_at "g"
    rw [decide_eq_true h3]
    exact h

def S_is_offer : List D → (D → Prop) → Prop := fun l K => ∃ (k : Kd) (cs : List Cell), l = [Kd.d k (cs.map Cell.d)] ∧ 1 ≤ cs.length ∧ cs.length ≤ 6 ∧ (∀ c ∈ cs, c.Ok) ∧ K (.bl true)
theorem ok_is_offer (T : Tx K mg) (c_is_sequence : Cal P w K mg base 1 "is_sequence" ["value"] (SpFam (CL K) S_is_sequence)) (c_is_shown : Cal P w K mg base 6 "is_shown" ["value"] (SpFam (CL K) S_is_shown)) : Cal P w K mg base 7 "is_offer" ["value"] (SpFam (CL K) S_is_offer) := by
  refine cal_mkF (N := ["value", "one"]) T.g_is_offer T.d_is_offer sc_is_offer (fun _ _ _ _ _ _ us hl => match us, hl with | [_], _ => rfl) (by intro l Q h; first | (obtain ⟨rfl, _⟩ := h; rfl) | (obtain ⟨_, rfl, _⟩ := h; rfl) | (obtain ⟨_, _, rfl, _⟩ := h; rfl) | (obtain ⟨_, _, _, rfl, _⟩ := h; rfl) | (obtain ⟨_, _, _, _, rfl, _⟩ := h; rfl) | (obtain ⟨_, _, _, _, _, rfl, _⟩ := h; rfl) | (obtain ⟨_, _, _, _, _, _, rfl, _⟩ := h; rfl) | (obtain ⟨_, _, _, _, _, _, _, rfl, _⟩ := h; rfl) | (obtain ⟨_, _, _, _, _, _, _, _, rfl, _⟩ := h; rfl) | (obtain ⟨_, _, _, _, _, _, _, _, _, rfl, _⟩ := h; rfl) | (obtain ⟨_, _, _, _, _, _, _, _, _, _, rfl, _⟩ := h; rfl) | (obtain ⟨_, _, _, _, _, _, _, _, _, _, _, rfl, _⟩ := h; rfl)) (fun f cdv A outer s H E hr => ⟨_, (pss_one (ps_ret (pe_and (pe_calC c_is_sequence hr (by decide) (by rfl) (pa_cons (pv 0) pa_nil)) (pe_and (pe_chain op_leI op_leI pe_int (pe_callB (cr_lenK K rfl) (by rfl) T.b_len PySem.boot_len (pa_cons (pv 0) pa_nil)) (pe_gint T.i_MOST_SHOWN (by rfl))) (pe_one (pe_callB (cr_allK K rfl rfl) (by rfl) T.b_all (by decide +kernel) (pa_cons (pe_lc (own := [("one", 1)]) (g := gName 1) (tt := tYes) rfl sc_is_offer.nd (pi_seqK K rfl (pv 0)) (blkOk_by (own := [("one", 1)]) (N := ["value", "one"]) (sc := defScope s_is_offer) (by decide +kernel)) (fun _ _ _ _ _ => (pg_name (i := 1) sc_is_offer.nd rfl (by first | exact Or.inl rfl | exact Or.inr rfl))) (fun _ _ _ _ _ => pts_nil) (fun _ _ _ _ _ => (pe_calC c_is_shown hr (by decide) (by rfl) (pa_cons (pv 1) pa_nil)))) pa_nil))))))), ?_⟩)
  intro nn B l Q h
  obtain ⟨k, cs, rfl, h1, h2, hs, h⟩ := h
  walk_at "g"
  refine ⟨_, rfl, kn_kd, ?_⟩
  walk_at "g"
  rw [isSeq_kd]
  walk_at "g"
  refine br_p (fun _ => ?_) (fun z => absurd (by rw [List.length_map]; omega) z)
  walk_at "g"
  refine br_p (fun _ => ?_) (fun z => absurd (by rw [List.length_map]; omega) z)
  walk_at "g"
  refine ⟨Cell, cs, Cell.d, fun _ => .bl true, rfl, Nat.le_of_lt (small1000 (by omega)), fun W1 c hc => ?_, ?_⟩
  · walk_at "g"
    exact ⟨c, rfl, hs c hc, rfl⟩
  · refine ⟨rfl, cs.map fun _ => true, by rw [List.map_map]; rfl, ?_⟩
    rw [show (cs.map fun _ => true).all id = true by simp]
    exact h

end

end K
end

section
set_option maxRecDepth 100000
set_option maxHeartbeats 4000000
namespace K
open PySem PySem.Spec PyProof.Rows L2 G

/-- an offer as given -/
structure Raw where
  k : Kd
  cs : List Cell
@[reducible] def Raw.d (r : Raw) : D := Kd.d r.k (r.cs.map Cell.d)
def Raw.row (r : Raw) : ORow := r.cs.map fun c => (c.w, c.q)
structure Raw.Ok (r : Raw) : Prop where
  l1 : 1 ≤ r.cs.length
  l2 : r.cs.length ≤ 6
  ok : ∀ c ∈ r.cs, c.Ok
def cellT (p : Int × Rat) : D := .tup [.int p.1, .frac p.2]
theorem zipIdx_get {α : Type} {xs : List α} {j : Nat} {p : α × Nat} (h : xs.zipIdx[j]? = some p) : xs[j]? = some p.1 ∧ p.2 = j := by
  rw [List.getElem?_zipIdx] at h
  cases hx : xs[j]? with
  | none => rw [hx] at h; cases h
  | some x =>
    rw [hx] at h
    simp at h
    subst h
    exact ⟨rfl, rfl⟩
theorem atV {g : Nat → Rat} {n i : Nat} {z : Int} (hz : z = (i : Nat)) (h : i < n) : atI (vec g n) z = some (.frac (g i)) := by rw [hz]; exact atI_nat (vec_at h)
theorem rng2 {i j : Int} {n : Nat} (hj : j = i + (n : Nat)) : rangeD i (j - i).toNat = (List.range n).map fun (k : Nat) => .int (i + (k : Int)) := by
  rw [show (j - i).toNat = n by omega]; rfl
theorem rng1 {n : Nat} : rangeD 0 ((n : Nat) : Int).toNat = (List.range n).map fun (k : Nat) => .int (k : Int) := by
  rw [show ((n : Nat) : Int).toNat = n by omega]
  unfold rangeD; congr 1; funext k; rw [Int.zero_add]
theorem rng_get {n j x : Nat} (h : (List.range n)[j]? = some x) : x = j ∧ j < n := by
  have h1 := List.getElem?_eq_some_iff.mp h
  obtain ⟨h1, h2⟩ := h1
  rw [List.length_range] at h1
  rw [List.getElem_range] at h2
  exact ⟨h2.symm, h1⟩
theorem foldl_two {p q : Rat} : [p, q].foldl rmax p = rmax p q := by
  show rmax (rmax p p) q = rmax p q
  rw [show rmax p p = p by unfold rmax; split <;> rfl]
section
local macro_rules | `(tactic| walk_at "e") => `(tactic| first
  | ((with_reducible refine' ek_var ?h1 ?_); (case h1 => exact rfl))
  | (with_reducible refine ek_int ?_)
  | (with_reducible refine ek_bl ?_)
  | (with_reducible refine ek_non ?_)
  | (with_reducible refine ek_str ?_)
  | (with_reducible refine ek_ty ?_)
  | (with_reducible refine ek_cls ?_)
  | (with_reducible refine ek_ix ?_)
  | (with_reducible refine ek_un ?_)
  | (with_reducible refine ek_tup ?_)
  | (with_reducible refine k_call ?_)
  | (with_reducible refine ek_len ?_)
  | (with_reducible refine ek_tuple ?_)
  | (with_reducible refine ek_sum ?_)
  | (with_reducible refine ek_all ?_)
  | (with_reducible refine ek_any ?_)
  | (with_reducible refine ek_chain ?_)
  | (with_reducible refine ek_andV ?_)
  | (with_reducible refine ek_orV ?_)
  | (with_reducible refine ek_notV ?_)
  | (with_reducible refine ek_if ?_)
  | (with_reducible refine ek_ef (ef_lst ?_))
  | (with_reducible refine ek_ef (ef_list ?_))
  | (with_reducible refine ek_ef (ef_cat ?_))
  | (with_reducible refine ek_ef (ef_rep ?_))
  | (with_reducible refine ek_ef (ef_slice ?_))
  | (with_reducible refine ek_ef (ef_rev ?_))
  | (with_reducible refine ek_ef (ef_lstRev ?_))
  | (with_reducible refine ek_ef (ef_map ?_))
  | (with_reducible refine ek_ef (ef_filt ?_))
  | (with_reducible refine ef_lst ?_)
  | (with_reducible refine ef_list ?_)
  | (with_reducible refine ef_cat ?_)
  | (with_reducible refine ef_rep ?_)
  | (with_reducible refine ef_slice ?_)
  | (with_reducible refine ef_rev ?_)
  | (with_reducible refine ef_lstRev ?_)
  | (with_reducible refine ef_map ?_)
  | (with_reducible refine ef_filt ?_)
  | ((with_reducible refine' el_var ?h1 ?_); (case h1 => exact rfl))
  | ((with_reducible refine' el_own ?h1 ?_); (case h1 => exact rfl))
  | (with_reducible refine el_ef (ef_lst ?_))
  | (with_reducible refine el_ef (ef_list ?_))
  | (with_reducible refine el_ef (ef_cat ?_))
  | (with_reducible refine el_ef (ef_rep ?_))
  | (with_reducible refine el_ef (ef_slice ?_))
  | (with_reducible refine el_ef (ef_rev ?_))
  | (with_reducible refine el_ef (ef_lstRev ?_))
  | (with_reducible refine el_ef (ef_map ?_))
  | (with_reducible refine el_ef (ef_filt ?_))
  | (with_reducible refine ek_op ?_)
  | (with_reducible refine ek_cb ?_)
  | (with_reducible refine el_ek ?_)
  | (with_reducible refine tk_test ?_)
  | (with_reducible refine tk_B ?_)
  | (with_reducible refine tk_and ?_)
  | (with_reducible refine tk_or ?_)
  | (with_reducible refine tk_not ?_)
  | (with_reducible refine tk_yes ?_)
  | (with_reducible refine ak_nil ?_)
  | (with_reducible refine ak_cons ?_)
  | (with_reducible refine k_num (‹Tx _ _›) ?_)
  | (with_reducible refine k_den (‹Tx _ _›) ?_)
  | (with_reducible refine k_mk2 ?_)
  | (with_reducible refine k_mkO ?_)
  | (with_reducible refine k_rows (‹Tx _ _›) ?_)
  | (with_reducible refine k_mk1 ?_)
  | (with_reducible refine k_bel ?_)
  | (with_reducible refine k_own ?_)
  | (with_reducible refine rk_U2 (k_own ?_))
  | (with_reducible refine rk_mul (Sz.mul (by assumption) (by assumption)) ?_)
  | (with_reducible refine rk_U1 (rk_mul (Sz.mul (by assumption) (by assumption)) ?_))
  | (with_reducible refine ek_dget ?_)
  | (with_reducible refine uk_neg ?_)
  | (with_reducible refine ek_disp ?_)
  | (with_reducible refine pk_cons ?_)
  | (with_reducible refine pk_nil ?_)
  | (with_reducible refine rk_mod (by assumption) ?_)
  | (with_reducible refine rk_add ?_)
  | (with_reducible refine rk_sub ?_)
  | (with_reducible refine rk_lt ?_)
  | (with_reducible refine rk_le ?_)
  | (with_reducible refine rk_gt ?_)
  | (with_reducible refine rk_ge ?_)
  | (with_reducible refine rk_eqI ?_)
  | (with_reducible refine rk_neI ?_)
  | (with_reducible refine rk_isN ?_)
  | (with_reducible refine rk_notN ?_)
  | (with_reducible refine rk_U1 (rk_add ?_))
  | (with_reducible refine rk_U1 (rk_sub ?_))
  | (with_reducible refine ck_gcd ?_)
  | (with_reducible refine ck_abs ?_)
  | (with_reducible refine ck_int ?_)
  | (with_reducible refine ik_seq ?_)
  | (with_reducible refine ik_range1 ?_)
  | (with_reducible refine ik_range2 ?_)
  | (with_reducible refine ik_enumA ?_)
  | (with_reducible refine ik_zip ?_)
  | (with_reducible refine ik_rev ?_)
  | ((with_reducible refine' cg_name ?_ ?h1 ?h2); (case h1 => exact rfl); (case h2 => decide))
  | ((with_reducible refine' cg_anyT ?h1 ?_); (case h1 => exact rfl))
  | ((with_reducible refine' cg_anyL ?h1 ?_); (case h1 => exact rfl))
  | ((with_reducible refine' cg_anyK ?h1 ?_); (case h1 => exact rfl))
  | ((with_reducible refine' cgs_cons ?_ ?h1 ?h2); (case h1 => exact rfl); (case h2 => decide))
  | (with_reducible refine cgs_nil ?_)
  | ((with_reducible refine' gk_name ?_ ?h1); (case h1 => exact rfl))
  | ((with_reducible refine' gk_anyT ?h1 ?_); (case h1 => exact rfl))
  | ((with_reducible refine' gk_anyL ?h1 ?_); (case h1 => exact rfl))
  | ((with_reducible refine' gk_anyK ?h1 ?_); (case h1 => exact rfl))
  | ((with_reducible refine' gks_cons ?_ ?h1); (case h1 => exact rfl))
  | ((with_reducible refine' gks_consA (n := 0) ?_ ?h1 ?h2); (case h1 => exact rfl); (case h2 => exact rfl))
  | ((with_reducible refine' gks_consB ?h0 ?_ ?h1 ?h2); (case h0 => exact rfl); (case h1 => exact rfl); (case h2 => exact rfl))
  | (with_reducible refine gks_nil ?_)
  | (with_reducible refine ok_none ?_)
  | (with_reducible refine ok_some ?_))
local macro_rules | `(tactic| walk_at "s") => `(tactic| first
  | (with_reducible refine sx_guard ?_ ?_)
  | (with_reducible refine sx_seq ?_)
  | (with_reducible refine sx_ret ?_)
  | (with_reducible refine sx_if ?_)
  | (with_reducible refine sx_next ?_)
  | (with_reducible refine sx_break ?_)
  | (with_reducible refine sx_cont ?_)
  | ((with_reducible refine' sx_append ?h1 ?_); (case h1 => exact rfl))
  | ((with_reducible refine' sx_setI ?h1 ?_); (case h1 => exact rfl))
  | ((with_reducible refine' sx_set ?h1 ?_); (case h1 => exact rfl))
  | (with_reducible refine sx_asg ?_)
  | ((with_reducible refine' sx_par ?h1 ?h2 ?_); (case h1 => exact rfl); (case h2 => exact rfl))
  | (with_reducible refine sx_drop ?_)
  | ((with_reducible refine' k_fldS (‹Tx _ _›) ?h1 ?h2 ?h3 ?_); (case h1 => exact rfl); (case h2 => decide); (case h3 => exact rfl))
  | ((with_reducible refine' k_fldO (‹Tx _ _›) ?h1 ?h3 ?_); (case h1 => exact rfl); (case h3 => exact rfl)))
/-! plain existentials that the rules leave -/
local macro_rules | `(tactic| walk_at "x") => `(tactic| first
  | (with_reducible refine x_bl ?_)
  | (with_reducible refine x_int ?_)
  | (with_reducible refine x_frac ?_)
  | (with_reducible refine x_lst ?_)
  | (with_reducible refine x_off ?_)
  | (with_reducible refine x_low ?_)
  | (with_reducible refine x_ownR ?_)
  | (with_reducible refine x_ownA ?_)
  | (with_reducible refine x_tup ?_)
  | (with_reducible refine x_kd ?_)
  | (with_reducible refine x_oneL ?_)
  | (with_reducible refine x_oneT ?_)
  | (with_reducible refine x_one ?_)
  | ((with_reducible refine' x_at ?h1 ?_); (case h1 => exact rfl))
  | ((with_reducible refine' x_dic ?h1 ?_); (case h1 => exact rfl))
  | (with_reducible refine (⟨rfl, ?_⟩ : Kd.l = Kd.l ∧ _))
  | ((with_reducible refine' x_len ?h1 ?_); (case h1 => exact rfl))
  | ((with_reducible refine' br_t ?h1 ?_); (case h1 => exact rfl))
  | ((with_reducible refine' br_f ?h1 ?_); (case h1 => exact rfl)))
local macro_rules | `(tactic| walk_at "f") => `(tactic| first
  | ((with_reducible refine' sx_forW ?h1 ?_); (case h1 => exact rfl))
  | (with_reducible refine sx_forGW ?_))
local macro_rules | `(tactic| walk_at "g") => `(tactic| repeat (first | walk_at "s" | walk_at "f" | walk_at "e" | walk_at "x"))
local macro_rules | `(tactic| walk_at "v") => `(tactic| repeat (first | walk_at "e" | walk_at "x"))
local macro_rules | `(tactic| walk_at "h") => `(tactic| repeat (first | walk_at "s" | walk_at "e" | walk_at "x"))
variable {P : Program} {w : World} {K : PySem.W.Frag} {mg : Str → Option Value} {base : Heap}

def S_OffersD_initD : List D → (List (Str × D) → Prop) → Prop := fun l K => ∃ (k : Kd) (rws : List Raw), l = [Kd.d k (rws.map Raw.d)] ∧ 1 ≤ rws.length ∧ rws.length ≤ 8 ∧ (∀ r ∈ rws, r.Ok) ∧ K [("rows", .tup ((rws.map Raw.row).map rowD))]
theorem ok_OffersD_initD (T : Tx K mg) (c_is_sequence : Cal P w K mg base 1 "is_sequence" ["value"] (SpFam (CL K) S_is_sequence)) (c_is_offer : Cal P w K mg base 7 "is_offer" ["value"] (SpFam (CL K) S_is_offer)) (c_as_frac : Cal P w K mg base 4 "as_frac" ["value"] (SpFam (CL K) S_as_frac)) {fd : FuncData} (F : FunD K "__init__" "Offers.__init__" (defArgs s_OffersD_initD) (defBody s_OffersD_initD) (defScope s_OffersD_initD) [] [] (He.ma K (He.ga K "Offers") "__init__") fd) : FnOk P w K mg base (L2.CX P w) 8 (He.ma K (He.ga K "Offers") "__init__") fd ["self", "rows"] (SpFamI (CL K) (He.ga K "Offers") S_OffersD_initD) := by
  refine init_mkF (N := ["rows", "kept", "at", "row", "weight", "worth"]) F sc_OffersD_initD (by intro l Q h; first | (obtain ⟨rfl, _⟩ := h; rfl) | (obtain ⟨_, rfl, _⟩ := h; rfl) | (obtain ⟨_, _, rfl, _⟩ := h; rfl) | (obtain ⟨_, _, _, rfl, _⟩ := h; rfl) | (obtain ⟨_, _, _, _, rfl, _⟩ := h; rfl) | (obtain ⟨_, _, _, _, _, rfl, _⟩ := h; rfl) | (obtain ⟨_, _, _, _, _, _, rfl, _⟩ := h; rfl) | (obtain ⟨_, _, _, _, _, _, _, rfl, _⟩ := h; rfl) | (obtain ⟨_, _, _, _, _, _, _, _, rfl, _⟩ := h; rfl) | (obtain ⟨_, _, _, _, _, _, _, _, _, rfl, _⟩ := h; rfl) | (obtain ⟨_, _, _, _, _, _, _, _, _, _, rfl, _⟩ := h; rfl) | (obtain ⟨_, _, _, _, _, _, _, _, _, _, _, rfl, _⟩ := h; rfl)) (fun f cdv A outer s H E hr => ⟨_, (pss_cons (ps_if (pt_not (pt_val (pe_calC c_is_sequence hr (by decide) (by rfl) (pa_cons (pv 1) pa_nil)))) (pss_one ps_never) pss_nil) (pss_cons (ps_if (pt_not (pt_chain op_leI op_leI pe_int (pe_callB (cr_lenK K rfl) (by rfl) T.b_len PySem.boot_len (pa_cons (pv 1) pa_nil)) (pe_gint T.i_MOST_OFFERS (by rfl)))) (pss_one ps_never) pss_nil) (pss_cons (ps_set (i := 2) sc_OffersD_initD.nd rfl (by first | exact Or.inl rfl | exact Or.inr rfl) (pe_lst pa_nil)) (pss_cons (ps_for PassesOwn.never rfl (GEn.pi_enumA K rfl (by rfl) T.b_enumerate (pa_cons (pv 1) pa_nil)) (pg_anyK K rfl rfl (pgs_cons (pg_name (i := 3) sc_OffersD_initD.nd rfl (by first | exact Or.inl rfl | exact Or.inr rfl)) (pgs_cons (pg_name (i := 4) sc_OffersD_initD.nd rfl (by first | exact Or.inl rfl | exact Or.inr rfl)) pgs_nil))) (pss_cons (ps_if (pt_not (pt_val (pe_calC c_is_offer hr (by decide) (by rfl) (pa_cons (pv 4) pa_nil)))) (pss_one ps_never) pss_nil) (pss_one (ps_expr (pe_bm PySem.F.plainAttrs_list PySem.F.slot_list_append PySem.F.type_list_append mt_append (pv 2) (pa_cons (pe_callTy (cr_tupK K rfl) (by rfl) T.b_tuple (by decide +kernel) (pa_cons (pe_lc (own := [("weight", 5), ("worth", 6)]) (g := gAny K 2 (gCons (gName 5) (gCons (gName 6) gNil))) (tt := tYes) rfl sc_OffersD_initD.nd (pi_seqK K rfl (pv 4)) (blkOk_by (own := [("weight", 5), ("worth", 6)]) (N := ["self", "rows", "kept", "at", "row", "weight", "worth"]) (sc := defScope s_OffersD_initD) (by decide +kernel)) (fun _ _ _ _ _ => (pg_anyK K rfl rfl (pgs_cons (pg_name (i := 5) sc_OffersD_initD.nd rfl (by first | exact Or.inl rfl | exact Or.inr rfl)) (pgs_cons (pg_name (i := 6) sc_OffersD_initD.nd rfl (by first | exact Or.inl rfl | exact Or.inr rfl)) pgs_nil)))) (fun _ _ _ _ _ => pts_nil) (fun _ _ _ _ _ => (pe_tup (pa_cons (pv 5) (pa_cons (pe_calC c_as_frac hr (by decide) (by rfl) (pa_cons (pv 6) pa_nil)) pa_nil))))) pa_nil)) pa_nil)))))) (pss_one (ps_fldK K rfl (pv 0) (pe_callTy (cr_tupK K rfl) (by rfl) T.b_tuple (by decide +kernel) (pa_cons (pv 2) pa_nil)) rfl)))))), ?_⟩)
  intro nn B l Q h
  obtain ⟨k, rws, rfl, h1, h2, hs, h⟩ := h
  refine sx_guard ?_ ?_
  · walk_at "g"
    refine ⟨_, rfl, kn_kd, ?_⟩
    walk_at "g"
    rw [isSeq_kd]
    walk_at "g"
    rfl
  refine sx_guard ?_ ?_
  · walk_at "g"
    refine br_p (fun _ => ?_) (fun z => absurd (by rw [List.length_map]; omega) z)
    walk_at "g"
    rw [decide_eq_true (show ((rws.map Raw.d).length : Int) ≤ 8 by rw [List.length_map]; omega)]
    rfl
  refine sx_seq ?_
  refine' sx_setO ?h1 ?_
  case h1 => exact rfl
  walk_at "g"
  refine ⟨Raw × Nat, rws.zipIdx, fun p => .tup [.int (p.2 : Nat), p.1.d], fun j => [.ins (He.ga K "Offers") [], .d (Kd.d k (rws.map Raw.d)), .own (((rws.take j).map Raw.row).map rowD), .no, .no, .no, .no], by rw [enumD_map], Wk.refl, fun B' j x hx => ?_, fun Γ' w => sx_weak w ?_⟩
  · obtain ⟨hx, hj⟩ := zipIdx_get hx
    have ok := hs x.1 (List.mem_of_getElem? hx)
    walk_at "g"
    · exact ⟨_, _, rfl, ok.l1, ok.l2, ok.ok, _, rfl, rfl⟩
    · walk_at "g"
      refine ⟨Cell, x.1.cs, Cell.d, fun c => cellT (c.w, c.q), rfl, Nat.le_of_lt (small1000 (by have := ok.l2; omega)), fun W1 c hc => ?_, ?_⟩
      · walk_at "g"
        refine ⟨_, _, rfl, (ok.ok c hc).a, ?_⟩
        walk_at "g"
        rfl
      · have hlt : j < rws.length := (List.getElem?_eq_some_iff.mp hx).1
        refine ⟨small1000 (by simp; omega), ?_⟩
        walk_at "g"
        show Wk _ [_, _, .own (((rws.take (j + 1)).map Raw.row).map rowD), .no, .no, .no, .no]
        rw [List.take_succ, hx]
        simp only [List.map_append, Option.toList, List.map_cons, List.map_nil]
        have e : rowD x.1.row = .tup (x.1.cs.map fun c => cellT (c.w, c.q)) := by unfold rowD Raw.row; rw [List.map_map]; rfl
        rw [e]
        exact .same (.same (.same (.no (.no (.no (.no .nil))))))
  · rw [List.length_zipIdx]
    dsimp only
    rw [List.take_length]
    walk_at "g"
    exact ⟨_, rfl, h⟩

def S_shown_shares : List D → (D → Prop) → Prop := fun l K => ∃ r : ORow, l = [rowD r] ∧ RowOk r ∧ K (.lst (r.map fun p => .tup [.frac (share r p.1), .frac p.2]))
theorem ok_shown_shares (T : Tx K mg) (m_Frac2 : CalM P w K mg base 2 "Frac" [] (SpFamI (CL K) (He.ga K "Frac") S_FracD_initD)) : Cal P w K mg base 4 "shown_shares" ["row"] (SpFam (CL K) S_shown_shares) := by
  refine cal_mkF (N := ["row", "whole", "weight", "worth", "_"]) T.g_shown_shares T.d_shown_shares sc_shown_shares (fun _ _ _ _ _ _ us hl => match us, hl with | [_], _ => rfl) (by intro l Q h; first | (obtain ⟨rfl, _⟩ := h; rfl) | (obtain ⟨_, rfl, _⟩ := h; rfl) | (obtain ⟨_, _, rfl, _⟩ := h; rfl) | (obtain ⟨_, _, _, rfl, _⟩ := h; rfl) | (obtain ⟨_, _, _, _, rfl, _⟩ := h; rfl) | (obtain ⟨_, _, _, _, _, rfl, _⟩ := h; rfl) | (obtain ⟨_, _, _, _, _, _, rfl, _⟩ := h; rfl) | (obtain ⟨_, _, _, _, _, _, _, rfl, _⟩ := h; rfl) | (obtain ⟨_, _, _, _, _, _, _, _, rfl, _⟩ := h; rfl) | (obtain ⟨_, _, _, _, _, _, _, _, _, rfl, _⟩ := h; rfl) | (obtain ⟨_, _, _, _, _, _, _, _, _, _, rfl, _⟩ := h; rfl) | (obtain ⟨_, _, _, _, _, _, _, _, _, _, _, rfl, _⟩ := h; rfl)) (fun f cdv A outer s H E hr => ⟨_, (pss_cons (ps_set (i := 1) sc_shown_shares.nd rfl (by first | exact Or.inl rfl | exact Or.inr rfl) (pe_callB (cr_sumK K rfl rfl) (by rfl) T.b_sum (by decide +kernel) (pa_cons (pe_lc (own := [("weight", 2), ("_", 4)]) (g := gAny K 2 (gCons (gName 2) (gCons (gName 4) gNil))) (tt := tYes) rfl sc_shown_shares.nd (pi_seqK K rfl (pv 0)) (blkOk_by (own := [("weight", 2), ("_", 4)]) (N := ["row", "whole", "weight", "worth", "_"]) (sc := defScope s_shown_shares) (by decide +kernel)) (fun _ _ _ _ _ => (pg_anyK K rfl rfl (pgs_cons (pg_name (i := 2) sc_shown_shares.nd rfl (by first | exact Or.inl rfl | exact Or.inr rfl)) (pgs_cons (pg_name (i := 4) sc_shown_shares.nd rfl (by first | exact Or.inl rfl | exact Or.inr rfl)) pgs_nil)))) (fun _ _ _ _ _ => pts_nil) (fun _ _ _ _ _ => (pv 2))) pa_nil))) (pss_one (ps_ret (pe_lc (own := [("weight", 2), ("worth", 3)]) (g := gAny K 2 (gCons (gName 2) (gCons (gName 3) gNil))) (tt := tYes) rfl sc_shown_shares.nd (pi_seqK K rfl (pv 0)) (blkOk_by (own := [("weight", 2), ("worth", 3)]) (N := ["row", "whole", "weight", "worth", "_"]) (sc := defScope s_shown_shares) (by decide +kernel)) (fun _ _ _ _ _ => (pg_anyK K rfl rfl (pgs_cons (pg_name (i := 2) sc_shown_shares.nd rfl (by first | exact Or.inl rfl | exact Or.inr rfl)) (pgs_cons (pg_name (i := 3) sc_shown_shares.nd rfl (by first | exact Or.inl rfl | exact Or.inr rfl)) pgs_nil)))) (fun _ _ _ _ _ => pts_nil) (fun _ _ _ _ _ => (pe_tup (pa_cons (pe_mkK K rfl m_Frac2 hr (by decide) (by rfl) (pa_cons (pv 2) (pa_cons (pv 1) pa_nil))) (pa_cons (pv 3) pa_nil)))))))), ?_⟩)
  intro nn B l Q h
  obtain ⟨r, rfl, ok, h⟩ := h
  unfold rowD
  walk_at "g"
  refine ⟨Int × Rat, r, cellT, fun p => .int p.1, rfl, Nat.le_of_lt (small1000 (by have := ok.len; omega)), fun W1 c hc => ?_, ?_⟩
  · unfold cellT
    walk_at "g"
    rfl
  · refine ⟨rfl, r.map (·.1), by rw [List.map_map]; rfl, ?_⟩
    walk_at "g"
    refine ⟨Int × Rat, r, cellT, fun p => .tup [.frac (share r p.1), .frac p.2], rfl, Nat.le_of_lt (small1000 (by have := ok.len; omega)), fun W1 c hc => ?_, h⟩
    unfold cellT
    walk_at "g"
    have h1 := ok.whole_pos
    have h2 := ok.whole_le
    refine ⟨_, _, rfl, h1, Nat.lt_of_le_of_lt (show (whole r).natAbs ≤ 594 by omega) (Nat.lt_of_lt_of_le (by decide : 594 < 2 ^ 10) (Nat.pow_le_pow_right (by decide) (by decide))), _, rfl, ?_⟩
    walk_at "g"
    rfl

def S_row_before : List D → (D → Prop) → Prop := fun l K => ∃ (r : ORow) (g : Nat → Rat) (n b : Nat) (kd : Kd), l = [rowD r, Kd.d kd (vec g (n + 1)), .int (n : Nat)] ∧ RowOk r ∧ n ≤ 31 ∧ b ≤ 500 ∧ (∀ i, Bd b (g i)) ∧ K (.lst (vec (rowB r g) (n + 1)))
theorem ok_row_before (T : Tx K mg) (m_Frac1 : CalM P w K mg base 2 "Frac" [.int 1] (SpFamI (CL K) (He.ga K "Frac") S_FracD_initD)) (o_add : CalO P w K mg base 4 (He.ga K "Frac") .Add (SpFam (CL K) S_FracD_addD)) (c_shown_shares : Cal P w K mg base 4 "shown_shares" ["row"] (SpFam (CL K) S_shown_shares)) (o_mul : CalO P w K mg base 4 (He.ga K "Frac") .Mult (SpFam (CL K) S_FracD_mulD)) (c_greatest_of : Cal P w K mg base 2 "greatest_of" ["fracs"] (SpFam (CL K) S_greatest_of)) (c_total : Cal P w K mg base 5 "total" ["fracs"] (SpFam (CL K) S_total)) : Cal P w K mg base 6 "row_before" ["row", "later", "many"] (SpFam (CL K) S_row_before) := by
  refine cal_mkF (N := ["row", "later", "many", "found", "left", "parts", "share", "worth"]) T.g_row_before T.d_row_before sc_row_before (fun _ _ _ _ _ _ us hl => match us, hl with | [_, _, _], _ => rfl) (by intro l Q h; first | (obtain ⟨rfl, _⟩ := h; rfl) | (obtain ⟨_, rfl, _⟩ := h; rfl) | (obtain ⟨_, _, rfl, _⟩ := h; rfl) | (obtain ⟨_, _, _, rfl, _⟩ := h; rfl) | (obtain ⟨_, _, _, _, rfl, _⟩ := h; rfl) | (obtain ⟨_, _, _, _, _, rfl, _⟩ := h; rfl) | (obtain ⟨_, _, _, _, _, _, rfl, _⟩ := h; rfl) | (obtain ⟨_, _, _, _, _, _, _, rfl, _⟩ := h; rfl) | (obtain ⟨_, _, _, _, _, _, _, _, rfl, _⟩ := h; rfl) | (obtain ⟨_, _, _, _, _, _, _, _, _, rfl, _⟩ := h; rfl) | (obtain ⟨_, _, _, _, _, _, _, _, _, _, rfl, _⟩ := h; rfl) | (obtain ⟨_, _, _, _, _, _, _, _, _, _, _, rfl, _⟩ := h; rfl)) (fun f cdv A outer s H E hr => ⟨_, (pss_cons (ps_set (i := 3) sc_row_before.nd rfl (by first | exact Or.inl rfl | exact Or.inr rfl) (pe_lst (pa_cons (pe_mkK K rfl m_Frac1 hr (by decide) (by rfl) (pa_cons pe_int pa_nil)) pa_nil))) (pss_cons (ps_for PassesOwn.never rfl (pi_range2 (by rfl) T.b_range (pa_cons pe_int (pa_cons (pe_op (op_U op_addI (o_add.op hr (by decide))) (pv 2) pe_int) pa_nil))) (pg_name (i := 4) sc_row_before.nd rfl (by first | exact Or.inl rfl | exact Or.inr rfl)) (pss_cons (ps_set (i := 5) sc_row_before.nd rfl (by first | exact Or.inl rfl | exact Or.inr rfl) (pe_lst pa_nil)) (pss_cons (ps_for PassesOwn.never rfl (pi_seqK K rfl (pe_calC c_shown_shares hr (by decide) (by rfl) (pa_cons (pv 0) pa_nil))) (pg_anyK K rfl rfl (pgs_cons (pg_name (i := 6) sc_row_before.nd rfl (by first | exact Or.inl rfl | exact Or.inr rfl)) (pgs_cons (pg_name (i := 7) sc_row_before.nd rfl (by first | exact Or.inl rfl | exact Or.inr rfl)) pgs_nil))) (pss_one (ps_expr (pe_bm PySem.F.plainAttrs_list PySem.F.slot_list_append PySem.F.type_list_append mt_append (pv 5) (pa_cons (pe_op (op_U op_mulI (o_mul.op hr (by decide))) (pv 6) (pe_calC c_greatest_of hr (by decide) (by rfl) (pa_cons (pe_lst (pa_cons (pe_op (op_U op_addI (o_add.op hr (by decide))) (pv 7) (pe_ix (ix_seqK K rfl) (pv 1) (pe_op op_subI (pv 4) pe_int) (fun _ _ => rfl))) (pa_cons (pe_ix (ix_seqK K rfl) (pv 1) (pv 4) (fun _ _ => rfl)) pa_nil))) pa_nil))) pa_nil))))) (pss_one (ps_expr (pe_bm PySem.F.plainAttrs_list PySem.F.slot_list_append PySem.F.type_list_append mt_append (pv 3) (pa_cons (pe_calC c_total hr (by decide) (by rfl) (pa_cons (pv 5) pa_nil)) pa_nil))))))) (pss_one (ps_ret (pv 3))))), ?_⟩)
  intro nn B l Q h
  obtain ⟨r, g, n, b, kd, rfl, ok, hn, hb, hg, h⟩ := h
  refine sx_seq ?_
  refine' sx_setO ?h1 ?_
  case h1 => exact rfl
  walk_at "g"
  refine ⟨_, _, rfl, by decide, by decide, 0, rfl, ?_⟩
  walk_at "g"
  refine ⟨1, (n : Int) + 1, rfl, ⟨by decide, by decide, by omega, by omega⟩, ?_⟩
  refine ⟨Nat, List.range n, _, fun j => [.d (rowD r), .d (Kd.d kd (vec g (n + 1))), .d (.int (n : Nat)), .own (vec (rowB r g) (j + 1)), .no, .no, .no, .no], rng2 (by omega), Wk.refl, fun j => rfl, fun B' j x hx => ?_, fun Γ' w => sx_weak w ?_⟩
  · obtain ⟨rfl, hj⟩ := rng_get hx
    refine sx_seq ?_
    refine' sx_setO ?h1 ?_
    case h1 => exact rfl
    walk_at "g"
    refine ⟨r, rfl, ok, ?_⟩
    walk_at "g"
    refine ⟨Int × Rat, r, _, fun j => [.d (rowD r), .d (Kd.d kd (vec g (n + 1))), .d (.int (n : Nat)), .own (vec (rowB r g) (x + 1)), .d (.int (1 + (x : Int))), .own ((r.take j).map fun p => .frac (share r p.1 * rmax (p.2 + g x) (g (x + 1)))), .no, .no], rfl, Wk.refl, fun B' j p hp => ?_, fun Γ' w => sx_weak w ?_⟩
    · have hp' := List.mem_of_getElem? hp
      have n1 := hg x
      have n2 := hg (x + 1)
      have n3 := (ok.n p hp').bd
      have n4 := (ok.sh p hp').bd
      have n5 : Bd (25 + b + 1) (rmax (p.2 + g x) (g (x + 1))) := (n3.add n1).rmax (n2.mono (by omega))
      walk_at "g"
      refine x_at (atV (i := x) (by omega) (by omega)) ?_
      walk_at "g"
      refine ⟨_, _, rfl, n3.sz (by omega), n1.sz (by omega), ?_⟩
      walk_at "g"
      refine x_at (atV (i := x + 1) (by omega) (by omega)) ?_
      walk_at "g"
      refine ⟨_, [_], rfl, ?_, ?_⟩
      · intro q hq
        rcases List.mem_cons.mp hq with rfl | hq
        · exact (n3.add n1).sz (by omega)
        · rcases List.mem_cons.mp hq with rfl | hq
          · exact n2.sz (by omega)
          · cases hq
      walk_at "g"
      rw [foldl_two]
      refine ⟨_, _, rfl, n4.sz (by omega), n5.sz (by omega), ?_⟩
      refine ⟨small1000 (by rw [List.length_map, List.length_take]; have := ok.len; omega), ?_⟩
      show Wk _ [_, _, _, _, _, .own ((r.take (j + 1)).map fun p => .frac (share r p.1 * rmax (p.2 + g x) (g (x + 1)))), .no, .no]
      rw [List.take_succ, hp]
      simp only [List.map_append, Option.toList, List.map_cons, List.map_nil]
      exact .same (.same (.same (.same (.same (.same (.no (.no .nil)))))))
    · dsimp only
      rw [List.take_length]
      refine sx_freeze 5 rfl ?_
      walk_at "g"
      refine ⟨r.map fun p => share r p.1 * rmax (p.2 + g x) (g (x + 1)), 25 + (25 + b + 1), by rw [List.map_map]; rfl, ?_, ?_, by omega, ?_⟩
      · intro y hy
        obtain ⟨p, hp, rfl⟩ := List.mem_map.mp hy
        exact (ok.sh p hp).bd.mul (((ok.n p hp).bd.add (hg x)).rmax ((hg (x + 1)).mono (by omega)))
      · rw [List.length_map]
        have := ok.len
        have : r.length * (25 + (25 + b + 1) + 1) ≤ 6 * (25 + (25 + 500 + 1) + 1) := Nat.mul_le_mul this (by omega)
        omega
      · refine ⟨small1000 (by rw [vec_len]; omega), ?_⟩
        show Wk _ [_, _, _, .own (vec (rowB r g) (x + 1 + 1)), .no, .no, .no, .no]
        rw [vec_succ (n := x + 1)]
        exact .same (.same (.same (.same (.no (.no (.no (.no .nil)))))))
  · dsimp only
    rw [List.length_range]
    refine sx_freeze 3 rfl ?_
    walk_at "g"
    exact h

def S_OffersD_lenD : List D → (D → Prop) → Prop := fun l K => ∃ rs : List ORow, l = [offD rs] ∧ K (.int (rs.length : Nat))
theorem ok_OffersD_lenD (T : Tx K mg)  : ∃ fd, FnOk P w K mg base (L2.CX P w) 1 (He.ma K (He.ga K "Offers") "__len__") fd ["self"] (SpFam (CL K) S_OffersD_lenD) ∧ Binds K fd ["self"] [] := by
  refine mth_mkF (N := ["self"]) T.d_OffersD_lenD sc_OffersD_lenD (fun _ _ _ _ _ _ us hl => match us, hl with | [_], _ => rfl) (by intro l Q h; first | (obtain ⟨rfl, _⟩ := h; rfl) | (obtain ⟨_, rfl, _⟩ := h; rfl) | (obtain ⟨_, _, rfl, _⟩ := h; rfl) | (obtain ⟨_, _, _, rfl, _⟩ := h; rfl) | (obtain ⟨_, _, _, _, rfl, _⟩ := h; rfl) | (obtain ⟨_, _, _, _, _, rfl, _⟩ := h; rfl) | (obtain ⟨_, _, _, _, _, _, rfl, _⟩ := h; rfl) | (obtain ⟨_, _, _, _, _, _, _, rfl, _⟩ := h; rfl) | (obtain ⟨_, _, _, _, _, _, _, _, rfl, _⟩ := h; rfl) | (obtain ⟨_, _, _, _, _, _, _, _, _, rfl, _⟩ := h; rfl) | (obtain ⟨_, _, _, _, _, _, _, _, _, _, rfl, _⟩ := h; rfl) | (obtain ⟨_, _, _, _, _, _, _, _, _, _, _, rfl, _⟩ := h; rfl)) (fun f cdv A outer s H E hr => ⟨_, (pss_one (ps_ret (pe_callB (cr_lenK K rfl) (by rfl) T.b_len PySem.boot_len (pa_cons (pe_fldK K rfl (pv 0) rfl) pa_nil)))), ?_⟩)
  intro nn B l Q h
  obtain ⟨rs, rfl, h⟩ := h
  walk_at "g"
  rw [List.length_map]
  exact h

end

end K
end

section
set_option maxRecDepth 100000
set_option maxHeartbeats 4000000
namespace K
open PySem PySem.Spec PyProof.Rows L2 G

theorem rng1s {n : Nat} : rangeD 0 ((n : Int) + 1).toNat = (List.range (n + 1)).map fun (k : Nat) => .int (k : Int) := rng1 (n := n + 1)
theorem cut1 {l : List D} {x : D} {xs : List D} (h : l = x :: xs) (hl : l.length ≤ 1000) : G.cutD l (some 1) none = xs := by
  subst h
  unfold G.cutD
  simp [HT.sIx]
def tabD (rs : List ORow) (n : Nat) : D := .lst ((List.range (rs.length + 1)).map fun i => .lst (vec (TT (rs.drop i)) (n + 1)))
section
local macro_rules | `(tactic| walk_at "e") => `(tactic| first
  | ((with_reducible refine' ek_var ?h1 ?_); (case h1 => exact rfl))
  | (with_reducible refine ek_int ?_)
  | (with_reducible refine ek_bl ?_)
  | (with_reducible refine ek_non ?_)
  | (with_reducible refine ek_str ?_)
  | (with_reducible refine ek_ty ?_)
  | (with_reducible refine ek_cls ?_)
  | (with_reducible refine ek_ix ?_)
  | (with_reducible refine ek_un ?_)
  | (with_reducible refine ek_tup ?_)
  | (with_reducible refine k_call ?_)
  | (with_reducible refine ek_len ?_)
  | (with_reducible refine ek_tuple ?_)
  | (with_reducible refine ek_sum ?_)
  | (with_reducible refine ek_all ?_)
  | (with_reducible refine ek_any ?_)
  | (with_reducible refine ek_chain ?_)
  | (with_reducible refine ek_andV ?_)
  | (with_reducible refine ek_orV ?_)
  | (with_reducible refine ek_notV ?_)
  | (with_reducible refine ek_if ?_)
  | (with_reducible refine ek_ef (ef_lst ?_))
  | (with_reducible refine ek_ef (ef_list ?_))
  | (with_reducible refine ek_ef (ef_cat ?_))
  | (with_reducible refine ek_ef (ef_rep ?_))
  | (with_reducible refine ek_ef (ef_slice ?_))
  | (with_reducible refine ek_ef (ef_rev ?_))
  | (with_reducible refine ek_ef (ef_lstRev ?_))
  | (with_reducible refine ek_ef (ef_map ?_))
  | (with_reducible refine ek_ef (ef_filt ?_))
  | (with_reducible refine ef_lst ?_)
  | (with_reducible refine ef_list ?_)
  | (with_reducible refine ef_cat ?_)
  | (with_reducible refine ef_rep ?_)
  | (with_reducible refine ef_slice ?_)
  | (with_reducible refine ef_rev ?_)
  | (with_reducible refine ef_lstRev ?_)
  | (with_reducible refine ef_map ?_)
  | (with_reducible refine ef_filt ?_)
  | ((with_reducible refine' el_var ?h1 ?_); (case h1 => exact rfl))
  | ((with_reducible refine' el_own ?h1 ?_); (case h1 => exact rfl))
  | (with_reducible refine el_ef (ef_lst ?_))
  | (with_reducible refine el_ef (ef_list ?_))
  | (with_reducible refine el_ef (ef_cat ?_))
  | (with_reducible refine el_ef (ef_rep ?_))
  | (with_reducible refine el_ef (ef_slice ?_))
  | (with_reducible refine el_ef (ef_rev ?_))
  | (with_reducible refine el_ef (ef_lstRev ?_))
  | (with_reducible refine el_ef (ef_map ?_))
  | (with_reducible refine el_ef (ef_filt ?_))
  | (with_reducible refine ek_op ?_)
  | (with_reducible refine ek_cb ?_)
  | (with_reducible refine el_ek ?_)
  | (with_reducible refine tk_test ?_)
  | (with_reducible refine tk_B ?_)
  | (with_reducible refine tk_and ?_)
  | (with_reducible refine tk_or ?_)
  | (with_reducible refine tk_not ?_)
  | (with_reducible refine tk_yes ?_)
  | (with_reducible refine ak_nil ?_)
  | (with_reducible refine ak_cons ?_)
  | (with_reducible refine k_num (‹Tx _ _›) ?_)
  | (with_reducible refine k_den (‹Tx _ _›) ?_)
  | (with_reducible refine k_mk2 ?_)
  | (with_reducible refine k_mkO ?_)
  | (with_reducible refine k_rows (‹Tx _ _›) ?_)
  | (with_reducible refine k_mk1 ?_)
  | (with_reducible refine k_bel ?_)
  | (with_reducible refine k_own ?_)
  | (with_reducible refine rk_U2 (k_own ?_))
  | (with_reducible refine rk_mul (Sz.mul (by assumption) (by assumption)) ?_)
  | (with_reducible refine rk_U1 (rk_mul (Sz.mul (by assumption) (by assumption)) ?_))
  | (with_reducible refine ek_dget ?_)
  | (with_reducible refine uk_neg ?_)
  | (with_reducible refine ek_disp ?_)
  | (with_reducible refine pk_cons ?_)
  | (with_reducible refine pk_nil ?_)
  | (with_reducible refine rk_mod (by assumption) ?_)
  | (with_reducible refine rk_add ?_)
  | (with_reducible refine rk_sub ?_)
  | (with_reducible refine rk_lt ?_)
  | (with_reducible refine rk_le ?_)
  | (with_reducible refine rk_gt ?_)
  | (with_reducible refine rk_ge ?_)
  | (with_reducible refine rk_eqI ?_)
  | (with_reducible refine rk_neI ?_)
  | (with_reducible refine rk_isN ?_)
  | (with_reducible refine rk_notN ?_)
  | (with_reducible refine rk_U1 (rk_add ?_))
  | (with_reducible refine rk_U1 (rk_sub ?_))
  | (with_reducible refine ck_gcd ?_)
  | (with_reducible refine ck_abs ?_)
  | (with_reducible refine ck_int ?_)
  | (with_reducible refine ik_seq ?_)
  | (with_reducible refine ik_range1 ?_)
  | (with_reducible refine ik_range2 ?_)
  | (with_reducible refine ik_enumA ?_)
  | (with_reducible refine ik_zip ?_)
  | (with_reducible refine ik_rev ?_)
  | ((with_reducible refine' cg_name ?_ ?h1 ?h2); (case h1 => exact rfl); (case h2 => decide))
  | ((with_reducible refine' cg_anyT ?h1 ?_); (case h1 => exact rfl))
  | ((with_reducible refine' cg_anyL ?h1 ?_); (case h1 => exact rfl))
  | ((with_reducible refine' cg_anyK ?h1 ?_); (case h1 => exact rfl))
  | ((with_reducible refine' cgs_cons ?_ ?h1 ?h2); (case h1 => exact rfl); (case h2 => decide))
  | (with_reducible refine cgs_nil ?_)
  | ((with_reducible refine' gk_name ?_ ?h1); (case h1 => exact rfl))
  | ((with_reducible refine' gk_anyT ?h1 ?_); (case h1 => exact rfl))
  | ((with_reducible refine' gk_anyL ?h1 ?_); (case h1 => exact rfl))
  | ((with_reducible refine' gk_anyK ?h1 ?_); (case h1 => exact rfl))
  | ((with_reducible refine' gks_cons ?_ ?h1); (case h1 => exact rfl))
  | ((with_reducible refine' gks_consA (n := 0) ?_ ?h1 ?h2); (case h1 => exact rfl); (case h2 => exact rfl))
  | ((with_reducible refine' gks_consB ?h0 ?_ ?h1 ?h2); (case h0 => exact rfl); (case h1 => exact rfl); (case h2 => exact rfl))
  | (with_reducible refine gks_nil ?_)
  | (with_reducible refine ok_none ?_)
  | (with_reducible refine ok_some ?_))
local macro_rules | `(tactic| walk_at "s") => `(tactic| first
  | (with_reducible refine sx_guard ?_ ?_)
  | (with_reducible refine sx_seq ?_)
  | (with_reducible refine sx_ret ?_)
  | (with_reducible refine sx_if ?_)
  | (with_reducible refine sx_next ?_)
  | (with_reducible refine sx_break ?_)
  | (with_reducible refine sx_cont ?_)
  | ((with_reducible refine' sx_append ?h1 ?_); (case h1 => exact rfl))
  | ((with_reducible refine' sx_setI ?h1 ?_); (case h1 => exact rfl))
  | ((with_reducible refine' sx_set ?h1 ?_); (case h1 => exact rfl))
  | (with_reducible refine sx_asg ?_)
  | ((with_reducible refine' sx_par ?h1 ?h2 ?_); (case h1 => exact rfl); (case h2 => exact rfl))
  | (with_reducible refine sx_drop ?_)
  | ((with_reducible refine' k_fldS (‹Tx _ _›) ?h1 ?h2 ?h3 ?_); (case h1 => exact rfl); (case h2 => decide); (case h3 => exact rfl))
  | ((with_reducible refine' k_fldO (‹Tx _ _›) ?h1 ?h3 ?_); (case h1 => exact rfl); (case h3 => exact rfl)))
/-! plain existentials that the rules leave -/
local macro_rules | `(tactic| walk_at "x") => `(tactic| first
  | (with_reducible refine x_bl ?_)
  | (with_reducible refine x_int ?_)
  | (with_reducible refine x_frac ?_)
  | (with_reducible refine x_lst ?_)
  | (with_reducible refine x_off ?_)
  | (with_reducible refine x_low ?_)
  | (with_reducible refine x_ownR ?_)
  | (with_reducible refine x_ownA ?_)
  | (with_reducible refine x_tup ?_)
  | (with_reducible refine x_kd ?_)
  | (with_reducible refine x_oneL ?_)
  | (with_reducible refine x_oneT ?_)
  | (with_reducible refine x_one ?_)
  | ((with_reducible refine' x_at ?h1 ?_); (case h1 => exact rfl))
  | ((with_reducible refine' x_dic ?h1 ?_); (case h1 => exact rfl))
  | (with_reducible refine (⟨rfl, ?_⟩ : Kd.l = Kd.l ∧ _))
  | ((with_reducible refine' x_len ?h1 ?_); (case h1 => exact rfl))
  | ((with_reducible refine' br_t ?h1 ?_); (case h1 => exact rfl))
  | ((with_reducible refine' br_f ?h1 ?_); (case h1 => exact rfl)))
local macro_rules | `(tactic| walk_at "f") => `(tactic| first
  | ((with_reducible refine' sx_forW ?h1 ?_); (case h1 => exact rfl))
  | (with_reducible refine sx_forGW ?_))
local macro_rules | `(tactic| walk_at "g") => `(tactic| repeat (first | walk_at "s" | walk_at "f" | walk_at "e" | walk_at "x"))
local macro_rules | `(tactic| walk_at "v") => `(tactic| repeat (first | walk_at "e" | walk_at "x"))
local macro_rules | `(tactic| walk_at "h") => `(tactic| repeat (first | walk_at "s" | walk_at "e" | walk_at "x"))
variable {P : Program} {w : World} {K : PySem.W.Frag} {mg : Str → Option Value} {base : Heap}

def S_turn_rows : List D → (D → Prop) → Prop := fun l K => ∃ (rs : List ORow) (n : Nat), l = [offD rs, .int (n : Nat)] ∧ (∀ r ∈ rs, RowOk r) ∧ rs.length ≤ 6 ∧ n ≤ 31 ∧ K (tabD rs n)
theorem ok_turn_rows (T : Tx K mg) (m_Frac1 : CalM P w K mg base 2 "Frac" [.int 1] (SpFamI (CL K) (He.ga K "Frac") S_FracD_initD)) (c_row_before : Cal P w K mg base 6 "row_before" ["row", "later", "many"] (SpFam (CL K) S_row_before)) : Cal P w K mg base 7 "turn_rows" ["offers", "many"] (SpFam (CL K) S_turn_rows) := by
  refine cal_mkF (N := ["offers", "many", "rows", "row", "_"]) T.g_turn_rows T.d_turn_rows sc_turn_rows (fun _ _ _ _ _ _ us hl => match us, hl with | [_, _], _ => rfl) (by intro l Q h; first | (obtain ⟨rfl, _⟩ := h; rfl) | (obtain ⟨_, rfl, _⟩ := h; rfl) | (obtain ⟨_, _, rfl, _⟩ := h; rfl) | (obtain ⟨_, _, _, rfl, _⟩ := h; rfl) | (obtain ⟨_, _, _, _, rfl, _⟩ := h; rfl) | (obtain ⟨_, _, _, _, _, rfl, _⟩ := h; rfl) | (obtain ⟨_, _, _, _, _, _, rfl, _⟩ := h; rfl) | (obtain ⟨_, _, _, _, _, _, _, rfl, _⟩ := h; rfl) | (obtain ⟨_, _, _, _, _, _, _, _, rfl, _⟩ := h; rfl) | (obtain ⟨_, _, _, _, _, _, _, _, _, rfl, _⟩ := h; rfl) | (obtain ⟨_, _, _, _, _, _, _, _, _, _, rfl, _⟩ := h; rfl) | (obtain ⟨_, _, _, _, _, _, _, _, _, _, _, rfl, _⟩ := h; rfl)) (fun f cdv A outer s H E hr => ⟨_, (pss_cons (ps_set (i := 2) sc_turn_rows.nd rfl (by first | exact Or.inl rfl | exact Or.inr rfl) (pe_lst (pa_cons (pe_lc (own := [("_", 4)]) (g := gName 4) (tt := tYes) rfl sc_turn_rows.nd (pi_range1 (by rfl) T.b_range (pa_cons (pe_op op_addI (pv 1) pe_int) pa_nil)) (blkOk_by (own := [("_", 4)]) (N := ["offers", "many", "rows", "row", "_"]) (sc := defScope s_turn_rows) (by decide +kernel)) (fun _ _ _ _ _ => (pg_name (i := 4) sc_turn_rows.nd rfl (by first | exact Or.inl rfl | exact Or.inr rfl))) (fun _ _ _ _ _ => pts_nil) (fun _ _ _ _ _ => (pe_mkK K rfl m_Frac1 hr (by decide) (by rfl) (pa_cons pe_int pa_nil)))) pa_nil))) (pss_cons (ps_for PassesOwn.never rfl (pi_revK K rfl (by rfl) T.b_reversed (pe_fldK K rfl (pv 0) rfl)) (pg_name (i := 3) sc_turn_rows.nd rfl (by first | exact Or.inl rfl | exact Or.inr rfl)) (pss_one (ps_expr (pe_bm PySem.F.plainAttrs_list PySem.F.slot_list_append PySem.F.type_list_append mt_append (pv 2) (pa_cons (pe_calC c_row_before hr (by decide) (by rfl) (pa_cons (pv 3) (pa_cons (pe_ix (ix_seqK K rfl) (pv 2) (pe_op op_subI (pe_callB (cr_lenK K rfl) (by rfl) T.b_len PySem.boot_len (pa_cons (pv 2) pa_nil)) pe_int) (fun _ _ => rfl)) (pa_cons (pv 1) pa_nil)))) pa_nil))))) (pss_one (ps_ret (pe_lstRevK K rfl rfl (by rfl) T.b_list (by rfl) T.b_reversed (pv 2)))))), ?_⟩)
  intro nn B l Q h
  obtain ⟨rs, n, rfl, ok, hr, hn, h⟩ := h
  refine sx_seq ?_
  refine' sx_setO ?h1 ?_
  case h1 => exact rfl
  walk_at "g"
  refine ⟨(n : Int) + 1, rfl, by omega, by omega, ?_⟩
  refine ⟨Nat, List.range (n + 1), _, fun _ => .frac 0, rng1s, Nat.le_of_lt (small1000 (by rw [List.length_range]; omega)), fun W1 x hx => ?_, ?_⟩
  · walk_at "g"
    refine ⟨_, _, rfl, by decide, by decide, 0, rfl, ?_⟩
    rfl
  walk_at "g"
  have e0 : (rs.map rowD).reverse = rs.reverse.map rowD := by rw [List.map_reverse]
  rw [e0]
  refine ⟨(fun z => nomatch z), ?_⟩
  refine ⟨ORow, rs.reverse, rowD, fun j => [.d (offD rs), .d (.int (n : Nat)), .own ((List.range (j + 1)).map fun i => .lst (vec (TT (rs.drop (rs.length - i))) (n + 1))), .no, .no], rfl, ?_, fun j => rfl, fun B' j x hx => ?_, fun Γ' w => sx_weak w ?_⟩
  · have e1 : (List.range (n + 1)).map (fun _ => D.frac 0) = vec (TT (rs.drop rs.length)) (n + 1) := by
      rw [List.drop_length]; rfl
    rw [e1]
    exact Wk.refl
  · have hj : j < rs.length := by
      have := (List.getElem?_eq_some_iff.mp hx).1
      rwa [List.length_reverse] at this
    have hx' : rs[rs.length - 1 - j]? = some x := by rw [← hx, List.getElem?_reverse hj]
    walk_at "g"
    refine x_at (x := .lst (vec (TT (rs.drop (rs.length - j))) (n + 1))) ?_ ?_
    · rw [List.length_map, List.length_range, show ((j + 1 : Nat) : Int) - 1 = (j : Nat) by omega]
      exact atI_nat (by simp)
    walk_at "g"
    refine ⟨x, _, n, 24 * (3 * rs.length + 1) + 1, .l, rfl, ok x (by have := List.mem_of_getElem? hx; simpa using this), hn, by omega, fun i => (TT_nice ok _ i).bd, ?_⟩
    refine ⟨small1000 (by simp; omega), ?_⟩
    show Wk _ [_, _, .own ((List.range (j + 1 + 1)).map fun i => .lst (vec (TT (rs.drop (rs.length - i))) (n + 1))), .no, .no]
    rw [List.range_succ (n := j + 1), List.map_append, List.map_cons, List.map_nil]
    have e2 : TT (rs.drop (rs.length - (j + 1))) = rowB x (TT (rs.drop (rs.length - j))) := by
      rw [TT_drop (by omega), rowAt_of (by rw [← hx']; congr 1; omega), show rs.length - (j + 1) + 1 = rs.length - j by omega]
    rw [e2]
    exact .same (.same (.same (.no (.no .nil))))
  · rw [List.length_reverse]
    walk_at "g"
    rw [range_rev (fun i => D.lst (vec (TT (rs.drop i)) (n + 1)))]
    exact h

def S_turn_worth : List D → (D → Prop) → Prop := fun l K => ∃ (rs : List ORow) (n : Nat), l = [offD rs, .int (n : Nat)] ∧ (∀ r ∈ rs, RowOk r) ∧ rs.length ≤ 6 ∧ n ≤ 31 ∧ K (.frac (TT rs n))
theorem ok_turn_worth (T : Tx K mg) (c_turn_rows : Cal P w K mg base 7 "turn_rows" ["offers", "many"] (SpFam (CL K) S_turn_rows)) : Cal P w K mg base 8 "turn_worth" ["offers", "many"] (SpFam (CL K) S_turn_worth) := by
  refine cal_mkF (N := ["offers", "many"]) T.g_turn_worth T.d_turn_worth sc_turn_worth (fun _ _ _ _ _ _ us hl => match us, hl with | [_, _], _ => rfl) (by intro l Q h; first | (obtain ⟨rfl, _⟩ := h; rfl) | (obtain ⟨_, rfl, _⟩ := h; rfl) | (obtain ⟨_, _, rfl, _⟩ := h; rfl) | (obtain ⟨_, _, _, rfl, _⟩ := h; rfl) | (obtain ⟨_, _, _, _, rfl, _⟩ := h; rfl) | (obtain ⟨_, _, _, _, _, rfl, _⟩ := h; rfl) | (obtain ⟨_, _, _, _, _, _, rfl, _⟩ := h; rfl) | (obtain ⟨_, _, _, _, _, _, _, rfl, _⟩ := h; rfl) | (obtain ⟨_, _, _, _, _, _, _, _, rfl, _⟩ := h; rfl) | (obtain ⟨_, _, _, _, _, _, _, _, _, rfl, _⟩ := h; rfl) | (obtain ⟨_, _, _, _, _, _, _, _, _, _, rfl, _⟩ := h; rfl) | (obtain ⟨_, _, _, _, _, _, _, _, _, _, _, rfl, _⟩ := h; rfl)) (fun f cdv A outer s H E hr => ⟨_, (pss_one (ps_ret (pe_ix (ix_seqK K rfl) (pe_ix (ix_seqK K rfl) (pe_calC c_turn_rows hr (by decide) (by rfl) (pa_cons (pv 0) (pa_cons (pv 1) pa_nil))) pe_int (fun _ _ => rfl)) (pv 1) (fun _ _ => rfl)))), ?_⟩)
  intro nn B l Q h
  obtain ⟨rs, n, rfl, ok, hr, hn, h⟩ := h
  walk_at "g"
  refine ⟨rs, n, rfl, ok, hr, hn, ?_⟩
  unfold tabD
  walk_at "g"
  refine x_at (x := .lst (vec (TT rs) (n + 1))) (atI_nat (i := 0) (by simp)) ?_
  walk_at "g"
  refine x_at (atV rfl (by omega)) h

end

end K
end

section
set_option maxRecDepth 100000
set_option maxHeartbeats 4000000
namespace K
open PySem PySem.Spec PyProof.Rows L2 G

/-- a table of any kind -/
def valF (x : D) (i : Nat) : Rat := match seqOf x with
  | some ys => (match ys.getD i .non with
    | .frac q => q
    | _ => 0)
  | none => 0
theorem vec_valF {x : D} {n : Nat} (h : arF x ((n : Nat) : Int) = true) : ∃ k, x = Kd.d k (vec (valF x) n) := by
  unfold arF at h
  cases hs : seqOf x with
  | none => rw [hs] at h; cases h
  | some ys =>
    rw [hs] at h
    simp only [Bool.and_eq_true, decide_eq_true_eq] at h
    obtain ⟨h1, h2⟩ := h
    have hl : ys.length = n := by omega
    have e : ys = vec (valF x) n := by
      apply List.ext_getElem?
      intro i
      by_cases hi : i < n
      · rw [vec_at hi]
        have hi' : i < ys.length := by omega
        have g : ys[i]? = some ys[i] := by simp [hi']
        obtain ⟨q, hq⟩ := isFrac_ex (List.all_eq_true.mp h2 _ (List.getElem_mem hi'))
        have v : valF x i = q := by
          unfold valF
          rw [hs]
          simp [List.getD_eq_getElem?_getD, g, hq]
        rw [g, hq, v]
      · rw [List.getElem?_eq_none (by omega), List.getElem?_eq_none (by rw [vec_len]; omega)]
    rw [← e]
    cases x <;> simp [seqOf] at hs
    · subst hs; exact ⟨.l, rfl⟩
    · subst hs; exact ⟨.t, rfl⟩
    · subst hs; exact ⟨.m, rfl⟩
structure RowK (b : Nat) (x : D) : Prop where
  kn : Kn x
  len : ∀ ys, seqOf x = some ys → ys.length ≤ 1000
  it : ∀ ys, seqOf x = some ys → ∀ y ∈ ys, Kn y
  bd : ∀ ys, seqOf x = some ys → ∀ q, D.frac q ∈ ys → Bd b q
structure TabK (b : Nat) (d : D) : Prop where
  kn : Kn d
  len : ∀ xs, seqOf d = some xs → xs.length ≤ 1000
  row : ∀ xs, seqOf d = some xs → ∀ x ∈ xs, RowK b x
theorem RowK.val {b : Nat} {x : D} (h : RowK b x) (hb : 1 ≤ b) (i : Nat) : Bd b (valF x i) := by
  unfold valF
  cases hs : seqOf x with
  | none => exact Bd.zero hb
  | some ys =>
    show Bd b (match ys.getD i .non with | .frac q => q | _ => 0)
    rw [List.getD_eq_getElem?_getD]
    cases hg : ys[i]? with
    | none => exact Bd.zero hb
    | some y =>
      cases y with
      | frac q => exact h.bd ys hs q (List.mem_of_getElem? hg)
      | _ => exact Bd.zero hb
/-- what shows_turn asks -/
def ShowsP (rs : List ORow) (n : Nat) (d : D) : Prop := ∃ xs, seqOf d = some xs ∧ xs.length = rs.length + 1 ∧ (∀ x ∈ xs, arF x ((n + 1 : Nat) : Int) = true) ∧ (∀ j, j < n + 1 → valF (xs.getD rs.length .non) j = 0) ∧
  ∀ i, i < rs.length → ∀ j, j < n + 1 → valF (xs.getD i .non) j = rowB (rowAt rs i) (valF (xs.getD (i + 1) .non)) j
theorem vec_map {g : Nat → Rat} {n : Nat} : vec g n = ((List.range n).map g).map .frac := by unfold vec; rw [List.map_map]; rfl
theorem rk_neV {C : Cl} {B : Bs} {Q : D → Prop} {A : Addr} (hA : C.frac = A) {g g' : Nat → Rat} {n : Nat} (k : ∀ c : Bool, (c = true ↔ ∃ i, i < n ∧ g i ≠ g' i) → Q (.bl c)) : RK C B (rNeB (DOwn A (RlF A))) (.lst (vec g n)) (.lst (vec g' n)) Q := by
  rw [vec_map, vec_map]
  refine rk_neL hA (by simp) (k _ ?_)
  rw [Bool.not_eq_true', decide_eq_false_iff_not]
  constructor
  · intro h
    apply Decidable.byContradiction
    intro hn
    apply h
    apply List.map_congr_left
    intro i hi
    apply Decidable.byContradiction
    intro hne
    exact hn ⟨i, List.mem_range.mp hi, hne⟩
  · rintro ⟨i, hi, hne⟩ h
    apply hne
    have := congrArg (fun l => l[i]?) h
    simpa [hi] using this
section
local macro_rules | `(tactic| walk_at "e") => `(tactic| first
  | ((with_reducible refine' ek_var ?h1 ?_); (case h1 => exact rfl))
  | (with_reducible refine ek_int ?_)
  | (with_reducible refine ek_bl ?_)
  | (with_reducible refine ek_non ?_)
  | (with_reducible refine ek_str ?_)
  | (with_reducible refine ek_ty ?_)
  | (with_reducible refine ek_cls ?_)
  | (with_reducible refine ek_ix ?_)
  | (with_reducible refine ek_un ?_)
  | (with_reducible refine ek_tup ?_)
  | (with_reducible refine k_call ?_)
  | (with_reducible refine ek_len ?_)
  | (with_reducible refine ek_tuple ?_)
  | (with_reducible refine ek_sum ?_)
  | (with_reducible refine ek_all ?_)
  | (with_reducible refine ek_any ?_)
  | (with_reducible refine ek_chain ?_)
  | (with_reducible refine ek_andV ?_)
  | (with_reducible refine ek_orV ?_)
  | (with_reducible refine ek_notV ?_)
  | (with_reducible refine ek_if ?_)
  | (with_reducible refine ek_ef (ef_lst ?_))
  | (with_reducible refine ek_ef (ef_list ?_))
  | (with_reducible refine ek_ef (ef_cat ?_))
  | (with_reducible refine ek_ef (ef_rep ?_))
  | (with_reducible refine ek_ef (ef_slice ?_))
  | (with_reducible refine ek_ef (ef_rev ?_))
  | (with_reducible refine ek_ef (ef_lstRev ?_))
  | (with_reducible refine ek_ef (ef_map ?_))
  | (with_reducible refine ek_ef (ef_filt ?_))
  | (with_reducible refine ef_lst ?_)
  | (with_reducible refine ef_list ?_)
  | (with_reducible refine ef_cat ?_)
  | (with_reducible refine ef_rep ?_)
  | (with_reducible refine ef_slice ?_)
  | (with_reducible refine ef_rev ?_)
  | (with_reducible refine ef_lstRev ?_)
  | (with_reducible refine ef_map ?_)
  | (with_reducible refine ef_filt ?_)
  | ((with_reducible refine' el_var ?h1 ?_); (case h1 => exact rfl))
  | ((with_reducible refine' el_own ?h1 ?_); (case h1 => exact rfl))
  | (with_reducible refine el_ef (ef_lst ?_))
  | (with_reducible refine el_ef (ef_list ?_))
  | (with_reducible refine el_ef (ef_cat ?_))
  | (with_reducible refine el_ef (ef_rep ?_))
  | (with_reducible refine el_ef (ef_slice ?_))
  | (with_reducible refine el_ef (ef_rev ?_))
  | (with_reducible refine el_ef (ef_lstRev ?_))
  | (with_reducible refine el_ef (ef_map ?_))
  | (with_reducible refine el_ef (ef_filt ?_))
  | (with_reducible refine ek_op ?_)
  | (with_reducible refine ek_cb ?_)
  | (with_reducible refine el_ek ?_)
  | (with_reducible refine tk_test ?_)
  | (with_reducible refine tk_B ?_)
  | (with_reducible refine tk_and ?_)
  | (with_reducible refine tk_or ?_)
  | (with_reducible refine tk_not ?_)
  | (with_reducible refine tk_yes ?_)
  | (with_reducible refine ak_nil ?_)
  | (with_reducible refine ak_cons ?_)
  | (with_reducible refine k_num (‹Tx _ _›) ?_)
  | (with_reducible refine k_den (‹Tx _ _›) ?_)
  | (with_reducible refine k_mk2 ?_)
  | (with_reducible refine k_mkO ?_)
  | (with_reducible refine k_rows (‹Tx _ _›) ?_)
  | (with_reducible refine k_mk1 ?_)
  | (with_reducible refine k_bel ?_)
  | (with_reducible refine k_own ?_)
  | (with_reducible refine rk_U2 (k_own ?_))
  | (with_reducible refine rk_mul (Sz.mul (by assumption) (by assumption)) ?_)
  | (with_reducible refine rk_U1 (rk_mul (Sz.mul (by assumption) (by assumption)) ?_))
  | (with_reducible refine ek_dget ?_)
  | (with_reducible refine uk_neg ?_)
  | (with_reducible refine ek_disp ?_)
  | (with_reducible refine pk_cons ?_)
  | (with_reducible refine pk_nil ?_)
  | (with_reducible refine rk_mod (by assumption) ?_)
  | (with_reducible refine rk_add ?_)
  | (with_reducible refine rk_sub ?_)
  | (with_reducible refine rk_lt ?_)
  | (with_reducible refine rk_le ?_)
  | (with_reducible refine rk_gt ?_)
  | (with_reducible refine rk_ge ?_)
  | (with_reducible refine rk_eqI ?_)
  | (with_reducible refine rk_neI ?_)
  | (with_reducible refine rk_isN ?_)
  | (with_reducible refine rk_notN ?_)
  | (with_reducible refine rk_U1 (rk_add ?_))
  | (with_reducible refine rk_U1 (rk_sub ?_))
  | (with_reducible refine ck_gcd ?_)
  | (with_reducible refine ck_abs ?_)
  | (with_reducible refine ck_int ?_)
  | (with_reducible refine ik_seq ?_)
  | (with_reducible refine ik_range1 ?_)
  | (with_reducible refine ik_range2 ?_)
  | (with_reducible refine ik_enumA ?_)
  | (with_reducible refine ik_zip ?_)
  | (with_reducible refine ik_rev ?_)
  | ((with_reducible refine' cg_name ?_ ?h1 ?h2); (case h1 => exact rfl); (case h2 => decide))
  | ((with_reducible refine' cg_anyT ?h1 ?_); (case h1 => exact rfl))
  | ((with_reducible refine' cg_anyL ?h1 ?_); (case h1 => exact rfl))
  | ((with_reducible refine' cg_anyK ?h1 ?_); (case h1 => exact rfl))
  | ((with_reducible refine' cgs_cons ?_ ?h1 ?h2); (case h1 => exact rfl); (case h2 => decide))
  | (with_reducible refine cgs_nil ?_)
  | ((with_reducible refine' gk_name ?_ ?h1); (case h1 => exact rfl))
  | ((with_reducible refine' gk_anyT ?h1 ?_); (case h1 => exact rfl))
  | ((with_reducible refine' gk_anyL ?h1 ?_); (case h1 => exact rfl))
  | ((with_reducible refine' gk_anyK ?h1 ?_); (case h1 => exact rfl))
  | ((with_reducible refine' gks_cons ?_ ?h1); (case h1 => exact rfl))
  | ((with_reducible refine' gks_consA (n := 0) ?_ ?h1 ?h2); (case h1 => exact rfl); (case h2 => exact rfl))
  | ((with_reducible refine' gks_consB ?h0 ?_ ?h1 ?h2); (case h0 => exact rfl); (case h1 => exact rfl); (case h2 => exact rfl))
  | (with_reducible refine gks_nil ?_)
  | (with_reducible refine ok_none ?_)
  | (with_reducible refine ok_some ?_))
local macro_rules | `(tactic| walk_at "s") => `(tactic| first
  | (with_reducible refine sx_guard ?_ ?_)
  | (with_reducible refine sx_seq ?_)
  | (with_reducible refine sx_ret ?_)
  | (with_reducible refine sx_if ?_)
  | (with_reducible refine sx_next ?_)
  | (with_reducible refine sx_break ?_)
  | (with_reducible refine sx_cont ?_)
  | ((with_reducible refine' sx_append ?h1 ?_); (case h1 => exact rfl))
  | ((with_reducible refine' sx_setI ?h1 ?_); (case h1 => exact rfl))
  | ((with_reducible refine' sx_set ?h1 ?_); (case h1 => exact rfl))
  | (with_reducible refine sx_asg ?_)
  | ((with_reducible refine' sx_par ?h1 ?h2 ?_); (case h1 => exact rfl); (case h2 => exact rfl))
  | (with_reducible refine sx_drop ?_)
  | ((with_reducible refine' k_fldS (‹Tx _ _›) ?h1 ?h2 ?h3 ?_); (case h1 => exact rfl); (case h2 => decide); (case h3 => exact rfl))
  | ((with_reducible refine' k_fldO (‹Tx _ _›) ?h1 ?h3 ?_); (case h1 => exact rfl); (case h3 => exact rfl)))
/-! plain existentials that the rules leave -/
local macro_rules | `(tactic| walk_at "x") => `(tactic| first
  | (with_reducible refine x_bl ?_)
  | (with_reducible refine x_int ?_)
  | (with_reducible refine x_frac ?_)
  | (with_reducible refine x_lst ?_)
  | (with_reducible refine x_off ?_)
  | (with_reducible refine x_low ?_)
  | (with_reducible refine x_ownR ?_)
  | (with_reducible refine x_ownA ?_)
  | (with_reducible refine x_tup ?_)
  | (with_reducible refine x_kd ?_)
  | (with_reducible refine x_oneL ?_)
  | (with_reducible refine x_oneT ?_)
  | (with_reducible refine x_one ?_)
  | ((with_reducible refine' x_at ?h1 ?_); (case h1 => exact rfl))
  | ((with_reducible refine' x_dic ?h1 ?_); (case h1 => exact rfl))
  | (with_reducible refine (⟨rfl, ?_⟩ : Kd.l = Kd.l ∧ _))
  | ((with_reducible refine' x_len ?h1 ?_); (case h1 => exact rfl))
  | ((with_reducible refine' br_t ?h1 ?_); (case h1 => exact rfl))
  | ((with_reducible refine' br_f ?h1 ?_); (case h1 => exact rfl)))
local macro_rules | `(tactic| walk_at "f") => `(tactic| first
  | ((with_reducible refine' sx_forW ?h1 ?_); (case h1 => exact rfl))
  | (with_reducible refine sx_forGW ?_))
local macro_rules | `(tactic| walk_at "g") => `(tactic| repeat (first | walk_at "s" | walk_at "f" | walk_at "e" | walk_at "x"))
local macro_rules | `(tactic| walk_at "v") => `(tactic| repeat (first | walk_at "e" | walk_at "x"))
local macro_rules | `(tactic| walk_at "h") => `(tactic| repeat (first | walk_at "s" | walk_at "e" | walk_at "x"))
variable {P : Program} {w : World} {K : PySem.W.Frag} {mg : Str → Option Value} {base : Heap}

def S_turn_certificate : List D → (D → Prop) → Prop := fun l K => ∃ (rs : List ORow) (n : Nat), l = [offD rs, .int (n : Nat)] ∧ (∀ r ∈ rs, RowOk r) ∧ rs.length ≤ 6 ∧ n ≤ 31 ∧ K (.tup ((List.range (rs.length + 1)).map fun i => .tup (vec (TT (rs.drop i)) (n + 1))))
theorem ok_turn_certificate (T : Tx K mg) (c_turn_rows : Cal P w K mg base 7 "turn_rows" ["offers", "many"] (SpFam (CL K) S_turn_rows)) : Cal P w K mg base 8 "turn_certificate" ["offers", "many"] (SpFam (CL K) S_turn_certificate) := by
  refine cal_mkF (N := ["offers", "many", "row"]) T.g_turn_certificate T.d_turn_certificate sc_turn_certificate (fun _ _ _ _ _ _ us hl => match us, hl with | [_, _], _ => rfl) (by intro l Q h; first | (obtain ⟨rfl, _⟩ := h; rfl) | (obtain ⟨_, rfl, _⟩ := h; rfl) | (obtain ⟨_, _, rfl, _⟩ := h; rfl) | (obtain ⟨_, _, _, rfl, _⟩ := h; rfl) | (obtain ⟨_, _, _, _, rfl, _⟩ := h; rfl) | (obtain ⟨_, _, _, _, _, rfl, _⟩ := h; rfl) | (obtain ⟨_, _, _, _, _, _, rfl, _⟩ := h; rfl) | (obtain ⟨_, _, _, _, _, _, _, rfl, _⟩ := h; rfl) | (obtain ⟨_, _, _, _, _, _, _, _, rfl, _⟩ := h; rfl) | (obtain ⟨_, _, _, _, _, _, _, _, _, rfl, _⟩ := h; rfl) | (obtain ⟨_, _, _, _, _, _, _, _, _, _, rfl, _⟩ := h; rfl) | (obtain ⟨_, _, _, _, _, _, _, _, _, _, _, rfl, _⟩ := h; rfl)) (fun f cdv A outer s H E hr => ⟨_, (pss_one (ps_ret (pe_callTy (cr_tupK K rfl) (by rfl) T.b_tuple (by decide +kernel) (pa_cons (pe_lc (own := [("row", 2)]) (g := gName 2) (tt := tYes) rfl sc_turn_certificate.nd (pi_seqK K rfl (pe_calC c_turn_rows hr (by decide) (by rfl) (pa_cons (pv 0) (pa_cons (pv 1) pa_nil)))) (blkOk_by (own := [("row", 2)]) (N := ["offers", "many", "row"]) (sc := defScope s_turn_certificate) (by decide +kernel)) (fun _ _ _ _ _ => (pg_name (i := 2) sc_turn_certificate.nd rfl (by first | exact Or.inl rfl | exact Or.inr rfl))) (fun _ _ _ _ _ => pts_nil) (fun _ _ _ _ _ => (pe_callTy (cr_tupK K rfl) (by rfl) T.b_tuple (by decide +kernel) (pa_cons (pv 2) pa_nil)))) pa_nil)))), ?_⟩)
  intro nn B l Q h
  obtain ⟨rs, n, rfl, ok, hr, hn, h⟩ := h
  walk_at "g"
  refine ⟨rs, n, rfl, ok, hr, hn, ?_⟩
  unfold tabD
  walk_at "g"
  refine ⟨Nat, List.range (rs.length + 1), _, fun i => .tup (vec (TT (rs.drop i)) (n + 1)), rfl, Nat.le_of_lt (small1000 (by simp; omega)), fun W1 x hx => ?_, ?_⟩
  · walk_at "g"
    rfl
  · walk_at "g"
    exact h

def S_shows_turn : List D → (D → Prop) → Prop := fun l K => ∃ (rs : List ORow) (n : Nat) (d : D) (b : Nat), l = [offD rs, .int (n : Nat), d] ∧ (∀ r ∈ rs, RowOk r) ∧ rs.length ≤ 6 ∧ n ≤ 31 ∧ TabK b d ∧ 1 ≤ b ∧ b ≤ 500 ∧ ∀ c : Bool, (c = true ↔ ShowsP rs n d) → K (.bl c)
theorem ok_shows_turn (T : Tx K mg) (c_is_sequence : Cal P w K mg base 1 "is_sequence" ["value"] (SpFam (CL K) S_is_sequence)) (l_Offers : CalS P w K mg base 1 (He.ga K "Offers") "__len__" (SpFam (CL K) S_OffersD_lenD)) (c_are_fracs : Cal P w K mg base 2 "are_fracs" ["value", "many"] (SpFam (CL K) S_are_fracs)) (e_Frac : CalS P w K mg base 1 (He.ga K "Frac") "__eq__" (SpFam (CL K) S_FracD_eqD)) (c_row_before : Cal P w K mg base 6 "row_before" ["row", "later", "many"] (SpFam (CL K) S_row_before)) : Cal P w K mg base 7 "shows_turn" ["offers", "many", "rows"] (SpFam (CL K) S_shows_turn) := by
  refine cal_mkF (N := ["offers", "many", "rows", "at", "row", "one"]) T.g_shows_turn T.d_shows_turn sc_shows_turn (fun _ _ _ _ _ _ us hl => match us, hl with | [_, _, _], _ => rfl) (by intro l Q h; first | (obtain ⟨rfl, _⟩ := h; rfl) | (obtain ⟨_, rfl, _⟩ := h; rfl) | (obtain ⟨_, _, rfl, _⟩ := h; rfl) | (obtain ⟨_, _, _, rfl, _⟩ := h; rfl) | (obtain ⟨_, _, _, _, rfl, _⟩ := h; rfl) | (obtain ⟨_, _, _, _, _, rfl, _⟩ := h; rfl) | (obtain ⟨_, _, _, _, _, _, rfl, _⟩ := h; rfl) | (obtain ⟨_, _, _, _, _, _, _, rfl, _⟩ := h; rfl) | (obtain ⟨_, _, _, _, _, _, _, _, rfl, _⟩ := h; rfl) | (obtain ⟨_, _, _, _, _, _, _, _, _, rfl, _⟩ := h; rfl) | (obtain ⟨_, _, _, _, _, _, _, _, _, _, rfl, _⟩ := h; rfl) | (obtain ⟨_, _, _, _, _, _, _, _, _, _, _, rfl, _⟩ := h; rfl)) (fun f cdv A outer s H E hr => ⟨_, (pss_cons (ps_if (PW.pt (pw_or (pt_not (pt_val (pe_calC c_is_sequence hr (by decide) (by rfl) (pa_cons (pv 2) pa_nil)))) (pw_or1 (pt_cmpR op_ne (pe_callB (cr_lenK K rfl) (by rfl) T.b_len PySem.boot_len (pa_cons (pv 2) pa_nil)) (pe_op op_addI (pe_callB (l_Offers.len hr (by decide)) (by rfl) T.b_len PySem.boot_len (pa_cons (pv 0) pa_nil)) pe_int) (nomark _))))) (pss_one (ps_ret pe_bl)) pss_nil) (pss_cons (ps_if (pt_not (pt_val (pe_callB (cr_allK K rfl rfl) (by rfl) T.b_all (by decide +kernel) (pa_cons (pe_lc (own := [("row", 4)]) (g := gName 4) (tt := tYes) rfl sc_shows_turn.nd (pi_seqK K rfl (pv 2)) (blkOk_by (own := [("row", 4)]) (N := ["offers", "many", "rows", "at", "row", "one"]) (sc := defScope s_shows_turn) (by decide +kernel)) (fun _ _ _ _ _ => (pg_name (i := 4) sc_shows_turn.nd rfl (by first | exact Or.inl rfl | exact Or.inr rfl))) (fun _ _ _ _ _ => pts_nil) (fun _ _ _ _ _ => (pe_calC c_are_fracs hr (by decide) (by rfl) (pa_cons (pv 4) (pa_cons (pe_op op_addI (pv 1) pe_int) pa_nil))))) pa_nil)))) (pss_one (ps_ret pe_bl)) pss_nil) (pss_cons (ps_if (pt_val (pe_callB (cr_anyK K rfl rfl) (by rfl) T.b_any (by decide +kernel) (pa_cons (pe_lc (own := [("one", 5)]) (g := gName 5) (tt := tYes) rfl sc_shows_turn.nd (pi_seqK K rfl (pe_ix (ix_seqK K rfl) (pv 2) (pe_callB (l_Offers.len hr (by decide)) (by rfl) T.b_len PySem.boot_len (pa_cons (pv 0) pa_nil)) (fun _ _ => rfl))) (blkOk_by (own := [("one", 5)]) (N := ["offers", "many", "rows", "at", "row", "one"]) (sc := defScope s_shows_turn) (by decide +kernel)) (fun _ _ _ _ _ => (pg_name (i := 5) sc_shows_turn.nd rfl (by first | exact Or.inl rfl | exact Or.inr rfl))) (fun _ _ _ _ _ => pts_nil) (fun _ _ _ _ _ => (pe_cmpR op_ne (pe_fldK K rfl (pv 5) rfl) pe_int (nomark _)))) pa_nil))) (pss_one (ps_ret pe_bl)) pss_nil) (pss_cons (ps_for PassesOwn.never rfl (GEn.pi_enumA K rfl (by rfl) T.b_enumerate (pa_cons (pe_fldK K rfl (pv 0) rfl) pa_nil)) (pg_anyK K rfl rfl (pgs_cons (pg_name (i := 3) sc_shows_turn.nd rfl (by first | exact Or.inl rfl | exact Or.inr rfl)) (pgs_cons (pg_name (i := 4) sc_shows_turn.nd rfl (by first | exact Or.inl rfl | exact Or.inr rfl)) pgs_nil))) (pss_one (ps_if (pt_cmpR (e_Frac.ne (fam K) (fun _ => rfl) hr (by decide)) (pe_callTy (cr_listK K rfl) (by rfl) T.b_list (by decide +kernel) (pa_cons (pe_ix (ix_seqK K rfl) (pv 2) (pv 3) (fun _ _ => rfl)) pa_nil)) (pe_calC c_row_before hr (by decide) (by rfl) (pa_cons (pv 4) (pa_cons (pe_ix (ix_seqK K rfl) (pv 2) (pe_op op_addI (pv 3) pe_int) (fun _ _ => rfl)) (pa_cons (pv 1) pa_nil)))) (nomark _)) (pss_one (ps_ret pe_bl)) pss_nil))) (pss_one (ps_ret pe_bl)))))), ?_⟩)
  intro nn B l Q h
  obtain ⟨rs, n, d, b, rfl, ok, hr, hn, tk, b1, hb, h⟩ := h
  walk_at "g"
  refine ⟨_, rfl, tk.kn, ?_⟩
  walk_at "g"
  refine ⟨fun hs => ?_, fun hs => ?_⟩
  · walk_at "g"
    refine h false ⟨fun z => (nomatch z), fun ⟨xs, hx, _⟩ => ?_⟩
    exfalso
    cases hk : tk.kn <;> first | (cases hx; done) | (simp [D.isSeq] at hs)
  · have hs' : d.isSeq = true := by simpa using hs
    obtain ⟨k, xs, rfl⟩ := isSeq_ex hs'
    have hl := tk.len xs seqOf_kd
    have hrow := tk.row xs seqOf_kd
    walk_at "g"
    refine ck_lenO (F := CL K) rfl ⟨rs, rfl, (rs.length : Nat), rfl, by omega, by omega, ?_⟩
    walk_at "g"
    refine br_n (fun h1 => ?_) (fun h1 => ?_)
    · walk_at "g"
      refine h false ⟨fun z => (nomatch z), fun ⟨ys, hy, h2, _⟩ => ?_⟩
      exfalso
      rw [seqOf_kd] at hy; cases hy
      exact h1 (by omega)
    have h1 : xs.length = rs.length + 1 := by omega
    walk_at "g"
    refine ⟨D, xs, id, fun x => .bl (arF x ((n : Int) + 1)), by simp, Nat.le_trans hl (by decide), fun W1 x hx => ?_, ?_⟩
    · walk_at "g"
      exact ⟨_, _, rfl, (hrow x hx).kn, fun ys hy => ⟨(hrow x hx).it ys hy, (hrow x hx).len ys hy⟩, rfl⟩
    refine ⟨rfl, xs.map fun x => arF x ((n : Int) + 1), by rw [List.map_map]; rfl, ?_⟩
    walk_at "g"
    rw [List.all_map]
    refine ⟨fun h2 => ?_, fun h2 => ?_⟩
    · walk_at "g"
      refine h false ⟨fun z => (nomatch z), fun ⟨ys, hy, _, h3, _⟩ => ?_⟩
      exfalso
      rw [seqOf_kd] at hy; cases hy
      have : (xs.all (id ∘ fun x => arF x ((n : Int) + 1))) = true := List.all_eq_true.mpr fun x hx => h3 x hx
      rw [this] at h2; cases h2
    have h2 : ∀ x ∈ xs, arF x ((n + 1 : Nat) : Int) = true := fun x hx => by
      have h2 : (xs.all (id ∘ fun x => arF x ((n : Int) + 1))) = true := by simpa using h2
      exact List.all_eq_true.mp h2 x hx
    have at_ : ∀ i, i < xs.length → ∃ k', xs[i]? = some (Kd.d k' (vec (valF (xs.getD i .non)) (n + 1))) := fun i hi => by
      have g : xs[i]? = some xs[i] := by simp [hi]
      have e : xs.getD i .non = xs[i] := by simp [List.getD_eq_getElem?_getD, g]
      obtain ⟨k', e'⟩ := vec_valF (n := n + 1) (h2 _ (List.getElem_mem hi))
      rw [e]
      refine ⟨k', ?_⟩
      rw [← e']
      exact g
    have bd_ : ∀ i, i < xs.length → ∀ j, Bd b (valF (xs.getD i .non) j) := fun i hi j => by
      have g : xs[i]? = some xs[i] := by simp [hi]
      have e : xs.getD i .non = xs[i] := by simp [List.getD_eq_getElem?_getD, g]
      rw [e]
      exact (hrow _ (List.getElem_mem hi)).val b1 j
    walk_at "g"
    refine ck_lenO (F := CL K) rfl ⟨rs, rfl, (rs.length : Nat), rfl, by omega, by omega, ?_⟩
    obtain ⟨k1, g1⟩ := at_ rs.length (by omega)
    refine x_at (atI_nat g1) ?_
    walk_at "g"
    refine ⟨Nat, List.range (n + 1), _, fun i => .bl (!decide ((valF (xs.getD rs.length .non) i).num = 0)), rfl, Nat.le_of_lt (small1000 (by simp; omega)), fun W1 x hx => ?_, ?_⟩
    · walk_at "g"
      rfl
    refine ⟨rfl, (List.range (n + 1)).map fun i => !decide ((valF (xs.getD rs.length .non) i).num = 0), by rw [List.map_map]; rfl, ?_⟩
    walk_at "g"
    refine ⟨fun h3 => ?_, fun h3 => ?_⟩
    · walk_at "g"
      refine h false ⟨fun z => (nomatch z), fun ⟨ys, hy, _, _, h4, _⟩ => ?_⟩
      exfalso
      rw [seqOf_kd] at hy; cases hy
      rw [List.any_map] at h3
      obtain ⟨j, hj, hz⟩ := List.any_eq_true.mp h3
      have h5 := h4 j (List.mem_range.mp hj)
      have hz : (!decide ((valF (xs.getD rs.length .non) j).num = 0)) = true := hz
      rw [h5] at hz
      cases hz
    have h3 : ∀ j, j < n + 1 → valF (xs.getD rs.length .non) j = 0 := fun j hj => by
      rw [List.any_map, List.any_eq_false] at h3
      have h5 : ¬ (!decide ((valF (xs.getD rs.length .non) j).num = 0)) = true := h3 j (List.mem_range.mpr hj)
      rw [Bool.not_eq_true, Bool.not_eq_false', decide_eq_true_iff] at h5
      exact Rat.num_eq_zero.mp h5
    refine sx_next ?_
    refine sx_seq ?_
    refine sx_forGS ?_
    walk_at "h"
    refine ⟨ORow × Nat, rs.zipIdx, fun p => .tup [.int (p.2 : Nat), rowD p.1], Unit, fun _ _ => [.d (offD rs), .d (.int (n : Nat)), .d (Kd.d k xs), .no, .no, .no], fun j _ => ∀ i, i < j → ∀ l, l < n + 1 → valF (xs.getD i .non) l = rowB (rowAt rs i) (valF (xs.getD (i + 1) .non)) l, by rw [enumD_map], ⟨(), fun i hi => absurd hi (Nat.not_lt_zero _), ?_⟩, fun B' j p s hp hP => ?_, fun Γ' s hP w => ?_⟩
    · exact .same (.same (.same (.no (.no (.no .nil)))))
    · obtain ⟨r, i⟩ := p
      obtain ⟨hp1, hp2⟩ := zipIdx_get hp
      have hp2 : i = j := hp2
      subst hp2
      have hi : i < rs.length := (List.getElem?_eq_some_iff.mp hp1).1
      obtain ⟨k2, g2⟩ := at_ i (by omega)
      obtain ⟨k3, g3⟩ := at_ (i + 1) (by omega)
      have er : rowAt rs i = r := rowAt_of hp1
      walk_at "h"
      refine x_at (atI_nat g2) ?_
      walk_at "h"
      refine x_at (by rw [show ((i : Nat) : Int) + 1 = ((i + 1 : Nat) : Int) by omega]; exact atI_nat g3) ?_
      walk_at "h"
      refine ⟨r, _, n, b, k3, rfl, ok r (List.mem_of_getElem? hp1), hn, hb, bd_ (i + 1) (by omega), ?_⟩
      refine rk_neV rfl fun c hc => ?_
      walk_at "h"
      refine ⟨fun h4 => ?_, fun h4 => ?_⟩
      · walk_at "h"
        refine h false ⟨fun z => (nomatch z), fun ⟨ys, hy, _, _, _, h5⟩ => ?_⟩
        exfalso
        rw [seqOf_kd] at hy; cases hy
        obtain ⟨l, hl1, hl2⟩ := hc.mp h4
        exact hl2 (by rw [h5 i hi l hl1, er])
      · walk_at "h"
        refine ⟨(), fun i' hi' l hl' => ?_, .same (.same (.same (.no (.no (.no .nil)))))⟩
        rcases Nat.lt_or_ge i' i with z | z
        · exact hP i' z l hl'
        · have : i' = i := by omega
          subst this
          rw [er]
          apply Decidable.byContradiction
          intro hne
          rw [hc.mpr ⟨l, hl', hne⟩] at h4; cases h4
    · refine sx_weak w ?_
      rw [List.length_zipIdx] at hP
      walk_at "g"
      exact h true ⟨fun _ => ⟨xs, seqOf_kd, h1, h2, h3, hP⟩, fun _ => rfl⟩

end

end K
end

section
set_option maxRecDepth 100000
set_option maxHeartbeats 4000000
namespace K
open PySem PySem.Spec PyProof.Rows L2 G

theorem atL {g : Nat → Rat} {n i : Nat} {z : Int} (hz : z = (i : Nat)) (h : i < n) : atI (vecL g n) z = some (lowD (g i)) := by rw [hz]; exact atI_nat (vecL_at h)
theorem ixN_eq' {n i : Nat} {z : Int} (hz : z = (i : Nat)) (h : i < n) : ixN n z = some i := by
  subst hz
  unfold ixN
  rw [if_pos (by omega), if_pos (by omega)]; simp
theorem rng2' {i j : Int} {n : Nat} (hj : j = i + (n : Nat)) : rangeD i (j - i).toNat = (List.range n).map fun (k : Nat) => .int (i + (k : Int)) := by
  rw [show (j - i).toNat = n by omega]; rfl
theorem rng1' {n : Nat} : rangeD 0 ((n : Nat) : Int).toNat = (List.range n).map fun (k : Nat) => .int (k : Int) := by
  rw [show ((n : Nat) : Int).toNat = n by omega]
  unfold rangeD; congr 1; funext k; rw [Int.zero_add]
theorem rng_get' {n j x : Nat} (h : (List.range n)[j]? = some x) : x = j ∧ j < n := by
  have h1 := List.getElem?_eq_some_iff.mp h
  obtain ⟨h1, h2⟩ := h1
  rw [List.length_range] at h1
  rw [List.getElem_range] at h2
  exact ⟨h2.symm, h1⟩
theorem sum_take' {xs : List Rat} {j : Nat} {x : Rat} (h : xs[j]? = some x) : (xs.take (j + 1)).sum = (xs.take j).sum + x := by
  rw [List.take_succ, h, List.sum_append]; simp [Rat.add_zero]
theorem rep_zero {n : Nat} : (List.replicate (((n : Nat) : Int).toNat) [D.tup [.int 0, .int 1]]).flatten = vecL (fun _ => 0) n := by
  rw [show ((n : Nat) : Int).toNat = n by omega]
  induction n with
  | zero => rfl
  | succ n ih => rw [vecL_succ, ← ih, List.replicate_succ', List.flatten_append]; rfl
theorem x_ownR {r : ORow} {p : D → Prop} (h : p (.lst (r.map fun p => .lst [.int p.1, lowD p.2]))) : ∃ l y, ownD r = .dic l ∧ valD l (.inr "rows") = some y ∧ p y := ⟨_, _, rfl, rfl, h⟩
theorem x_ownA {r : ORow} {p : D → Prop} (h : p (.int (whole r))) : ∃ l y, ownD r = .dic l ∧ valD l (.inr "all") = some y ∧ p y := ⟨_, _, rfl, rfl, h⟩
theorem LR.zero : LR (1 + 638 * 0) 0 (.tup [.int 0, .int 1]) := ⟨0, 1, rfl, by decide, by simp, by decide, by decide⟩
/-- a weight over the whole -/
theorem LR.share {r : ORow} (h : RowOk r) {p : Int × Rat} (hp : p ∈ r) : LR 10 (share r p.1) (.tup [.int p.1, .int (whole r)]) := by
  have h1 := h.whole_pos
  have h2 := h.whole_le
  have h3 := h.w1 p hp
  have h4 := h.w2 p hp
  refine ⟨_, _, rfl, h1, ?_, Nat.lt_of_le_of_lt (show p.1.natAbs ≤ 99 by omega) (by decide), Nat.lt_of_le_of_lt (show (whole r).natAbs ≤ 594 by omega) (by decide)⟩
  unfold G.share
  rw [Rat.divInt_eq_div]
  have : (0 : Rat) < (whole r : Rat) := Rat.intCast_pos.mpr h1
  grind
theorem tabL_at {f : Nat → List D} {m i : Nat} {z : Int} (hz : z = (i : Nat)) (h : i < m) : atI ((List.range m).map fun i => D.lst (f i)) z = some (.lst (f i)) := by
  rw [hz]; exact atI_nat (by simp [h])
def tabL (rs : List ORow) (n : Nat) : D := .lst ((List.range (rs.length + 1)).map fun i => .lst (vecL (TT (rs.drop i)) (n + 1)))
section
local macro_rules | `(tactic| walk_at "e") => `(tactic| first
  | ((with_reducible refine' ek_var ?h1 ?_); (case h1 => exact rfl))
  | (with_reducible refine ek_int ?_)
  | (with_reducible refine ek_bl ?_)
  | (with_reducible refine ek_non ?_)
  | (with_reducible refine ek_str ?_)
  | (with_reducible refine ek_ty ?_)
  | (with_reducible refine ek_cls ?_)
  | (with_reducible refine ek_ix ?_)
  | (with_reducible refine ek_un ?_)
  | (with_reducible refine ek_tup ?_)
  | (with_reducible refine k_call ?_)
  | (with_reducible refine ek_len ?_)
  | (with_reducible refine ek_tuple ?_)
  | (with_reducible refine ek_sum ?_)
  | (with_reducible refine ek_all ?_)
  | (with_reducible refine ek_any ?_)
  | (with_reducible refine ek_chain ?_)
  | (with_reducible refine ek_andV ?_)
  | (with_reducible refine ek_orV ?_)
  | (with_reducible refine ek_notV ?_)
  | (with_reducible refine ek_if ?_)
  | (with_reducible refine ek_ef (ef_lst ?_))
  | (with_reducible refine ek_ef (ef_list ?_))
  | (with_reducible refine ek_ef (ef_cat ?_))
  | (with_reducible refine ek_ef (ef_rep ?_))
  | (with_reducible refine ek_ef (ef_slice ?_))
  | (with_reducible refine ek_ef (ef_rev ?_))
  | (with_reducible refine ek_ef (ef_lstRev ?_))
  | (with_reducible refine ek_ef (ef_map ?_))
  | (with_reducible refine ek_ef (ef_filt ?_))
  | (with_reducible refine ef_lst ?_)
  | (with_reducible refine ef_list ?_)
  | (with_reducible refine ef_cat ?_)
  | (with_reducible refine ef_rep ?_)
  | (with_reducible refine ef_slice ?_)
  | (with_reducible refine ef_rev ?_)
  | (with_reducible refine ef_lstRev ?_)
  | (with_reducible refine ef_map ?_)
  | (with_reducible refine ef_filt ?_)
  | ((with_reducible refine' el_var ?h1 ?_); (case h1 => exact rfl))
  | ((with_reducible refine' el_own ?h1 ?_); (case h1 => exact rfl))
  | (with_reducible refine el_ef (ef_lst ?_))
  | (with_reducible refine el_ef (ef_list ?_))
  | (with_reducible refine el_ef (ef_cat ?_))
  | (with_reducible refine el_ef (ef_rep ?_))
  | (with_reducible refine el_ef (ef_slice ?_))
  | (with_reducible refine el_ef (ef_rev ?_))
  | (with_reducible refine el_ef (ef_lstRev ?_))
  | (with_reducible refine el_ef (ef_map ?_))
  | (with_reducible refine el_ef (ef_filt ?_))
  | (with_reducible refine ek_op ?_)
  | (with_reducible refine ek_cb ?_)
  | (with_reducible refine el_ek ?_)
  | (with_reducible refine tk_test ?_)
  | (with_reducible refine tk_B ?_)
  | (with_reducible refine tk_and ?_)
  | (with_reducible refine tk_or ?_)
  | (with_reducible refine tk_not ?_)
  | (with_reducible refine tk_yes ?_)
  | (with_reducible refine ak_nil ?_)
  | (with_reducible refine ak_cons ?_)
  | (with_reducible refine k_num (‹Tx _ _›) ?_)
  | (with_reducible refine k_den (‹Tx _ _›) ?_)
  | (with_reducible refine k_mk2 ?_)
  | (with_reducible refine k_mkO ?_)
  | (with_reducible refine k_rows (‹Tx _ _›) ?_)
  | (with_reducible refine k_mk1 ?_)
  | (with_reducible refine k_bel ?_)
  | (with_reducible refine k_own ?_)
  | (with_reducible refine rk_U2 (k_own ?_))
  | (with_reducible refine rk_mul (Sz.mul (by assumption) (by assumption)) ?_)
  | (with_reducible refine rk_U1 (rk_mul (Sz.mul (by assumption) (by assumption)) ?_))
  | (with_reducible refine ek_dget ?_)
  | (with_reducible refine uk_neg ?_)
  | (with_reducible refine ek_disp ?_)
  | (with_reducible refine pk_cons ?_)
  | (with_reducible refine pk_nil ?_)
  | (with_reducible refine rk_mod (by assumption) ?_)
  | (with_reducible refine rk_add ?_)
  | (with_reducible refine rk_sub ?_)
  | (with_reducible refine rk_lt ?_)
  | (with_reducible refine rk_le ?_)
  | (with_reducible refine rk_gt ?_)
  | (with_reducible refine rk_ge ?_)
  | (with_reducible refine rk_eqI ?_)
  | (with_reducible refine rk_neI ?_)
  | (with_reducible refine rk_isN ?_)
  | (with_reducible refine rk_notN ?_)
  | (with_reducible refine rk_U1 (rk_add ?_))
  | (with_reducible refine rk_U1 (rk_sub ?_))
  | (with_reducible refine ck_gcd ?_)
  | (with_reducible refine ck_abs ?_)
  | (with_reducible refine ck_int ?_)
  | (with_reducible refine ik_seq ?_)
  | (with_reducible refine ik_range1 ?_)
  | (with_reducible refine ik_range2 ?_)
  | (with_reducible refine ik_enumA ?_)
  | (with_reducible refine ik_zip ?_)
  | (with_reducible refine ik_rev ?_)
  | ((with_reducible refine' cg_name ?_ ?h1 ?h2); (case h1 => exact rfl); (case h2 => decide))
  | ((with_reducible refine' cg_anyT ?h1 ?_); (case h1 => exact rfl))
  | ((with_reducible refine' cg_anyL ?h1 ?_); (case h1 => exact rfl))
  | ((with_reducible refine' cg_anyK ?h1 ?_); (case h1 => exact rfl))
  | ((with_reducible refine' cgs_cons ?_ ?h1 ?h2); (case h1 => exact rfl); (case h2 => decide))
  | (with_reducible refine cgs_nil ?_)
  | ((with_reducible refine' gk_name ?_ ?h1); (case h1 => exact rfl))
  | ((with_reducible refine' gk_anyT ?h1 ?_); (case h1 => exact rfl))
  | ((with_reducible refine' gk_anyL ?h1 ?_); (case h1 => exact rfl))
  | ((with_reducible refine' gk_anyK ?h1 ?_); (case h1 => exact rfl))
  | ((with_reducible refine' gks_cons ?_ ?h1); (case h1 => exact rfl))
  | ((with_reducible refine' gks_consA (n := 0) ?_ ?h1 ?h2); (case h1 => exact rfl); (case h2 => exact rfl))
  | ((with_reducible refine' gks_consB ?h0 ?_ ?h1 ?h2); (case h0 => exact rfl); (case h1 => exact rfl); (case h2 => exact rfl))
  | (with_reducible refine gks_nil ?_)
  | (with_reducible refine ok_none ?_)
  | (with_reducible refine ok_some ?_))
local macro_rules | `(tactic| walk_at "s") => `(tactic| first
  | (with_reducible refine sx_guard ?_ ?_)
  | (with_reducible refine sx_seq ?_)
  | (with_reducible refine sx_ret ?_)
  | (with_reducible refine sx_if ?_)
  | (with_reducible refine sx_next ?_)
  | (with_reducible refine sx_break ?_)
  | (with_reducible refine sx_cont ?_)
  | ((with_reducible refine' sx_append ?h1 ?_); (case h1 => exact rfl))
  | ((with_reducible refine' sx_setI ?h1 ?_); (case h1 => exact rfl))
  | ((with_reducible refine' sx_set ?h1 ?_); (case h1 => exact rfl))
  | (with_reducible refine sx_asg ?_)
  | ((with_reducible refine' sx_par ?h1 ?h2 ?_); (case h1 => exact rfl); (case h2 => exact rfl))
  | (with_reducible refine sx_drop ?_)
  | ((with_reducible refine' k_fldS (‹Tx _ _›) ?h1 ?h2 ?h3 ?_); (case h1 => exact rfl); (case h2 => decide); (case h3 => exact rfl))
  | ((with_reducible refine' k_fldO (‹Tx _ _›) ?h1 ?h3 ?_); (case h1 => exact rfl); (case h3 => exact rfl)))
/-! plain existentials that the rules leave -/
local macro_rules | `(tactic| walk_at "x") => `(tactic| first
  | (with_reducible refine x_bl ?_)
  | (with_reducible refine x_int ?_)
  | (with_reducible refine x_frac ?_)
  | (with_reducible refine x_lst ?_)
  | (with_reducible refine x_off ?_)
  | (with_reducible refine x_low ?_)
  | (with_reducible refine x_ownR ?_)
  | (with_reducible refine x_ownA ?_)
  | (with_reducible refine x_tup ?_)
  | (with_reducible refine x_kd ?_)
  | (with_reducible refine x_oneL ?_)
  | (with_reducible refine x_oneT ?_)
  | (with_reducible refine x_one ?_)
  | ((with_reducible refine' x_at ?h1 ?_); (case h1 => exact rfl))
  | ((with_reducible refine' x_dic ?h1 ?_); (case h1 => exact rfl))
  | (with_reducible refine (⟨rfl, ?_⟩ : Kd.l = Kd.l ∧ _))
  | ((with_reducible refine' x_len ?h1 ?_); (case h1 => exact rfl))
  | ((with_reducible refine' br_t ?h1 ?_); (case h1 => exact rfl))
  | ((with_reducible refine' br_f ?h1 ?_); (case h1 => exact rfl)))
local macro_rules | `(tactic| walk_at "f") => `(tactic| first
  | ((with_reducible refine' sx_forW ?h1 ?_); (case h1 => exact rfl))
  | (with_reducible refine sx_forGW ?_))
local macro_rules | `(tactic| walk_at "g") => `(tactic| repeat (first | walk_at "s" | walk_at "f" | walk_at "e" | walk_at "x"))
local macro_rules | `(tactic| walk_at "v") => `(tactic| repeat (first | walk_at "e" | walk_at "x"))
local macro_rules | `(tactic| walk_at "h") => `(tactic| repeat (first | walk_at "s" | walk_at "e" | walk_at "x"))
variable {P : Program} {w : World} {K : PySem.W.Frag} {mg : Str → Option Value} {base : Heap}

def S__law_turns : List D → (D → Prop) → Prop := fun l K => ∃ (rs : List ORow) (n : Nat), l = [.lst (rs.map ownD), .int (n : Nat)] ∧ (∀ r ∈ rs, RowOk r) ∧ rs.length ≤ 8 ∧ n ≤ 31 ∧ K (tabL rs n)
theorem ok__law_turns (T : Tx K mg) (c__law_greater : Cal P w K mg base 2 "_law_greater" ["x", "y"] (SpFam (CL K) S__law_greater)) (c__law_plus : Cal P w K mg base 1 "_law_plus" ["x", "y"] (SpFam (CL K) S__law_plus)) (c__law_times : Cal P w K mg base 1 "_law_times" ["x", "y"] (SpFam (CL K) S__law_times)) (c__law_low : Cal P w K mg base 2 "_law_low" ["x"] (SpFam (CL K) S__law_low)) : Cal P w K mg base 3 "_law_turns" ["offers", "many"] (SpFam (CL K) S__law_turns) := by
  refine cal_mkF (N := ["offers", "many", "rows", "offer", "ahead", "fresh", "left", "total_v", "weight", "worth", "best"]) T.g__law_turns T.d__law_turns sc__law_turns (fun _ _ _ _ _ _ us hl => match us, hl with | [_, _], _ => rfl) (by intro l Q h; first | (obtain ⟨rfl, _⟩ := h; rfl) | (obtain ⟨_, rfl, _⟩ := h; rfl) | (obtain ⟨_, _, rfl, _⟩ := h; rfl) | (obtain ⟨_, _, _, rfl, _⟩ := h; rfl) | (obtain ⟨_, _, _, _, rfl, _⟩ := h; rfl) | (obtain ⟨_, _, _, _, _, rfl, _⟩ := h; rfl) | (obtain ⟨_, _, _, _, _, _, rfl, _⟩ := h; rfl) | (obtain ⟨_, _, _, _, _, _, _, rfl, _⟩ := h; rfl) | (obtain ⟨_, _, _, _, _, _, _, _, rfl, _⟩ := h; rfl) | (obtain ⟨_, _, _, _, _, _, _, _, _, rfl, _⟩ := h; rfl) | (obtain ⟨_, _, _, _, _, _, _, _, _, _, rfl, _⟩ := h; rfl) | (obtain ⟨_, _, _, _, _, _, _, _, _, _, _, rfl, _⟩ := h; rfl)) (fun f cdv A outer s H E hr => ⟨_, (pss_cons (ps_set (i := 2) sc__law_turns.nd rfl (by first | exact Or.inl rfl | exact Or.inr rfl) (pe_lst (pa_cons (pe_op op_rep (pe_lst (pa_cons (pe_tup (pa_cons pe_int (pa_cons pe_int pa_nil))) pa_nil)) (pe_op op_addI (pv 1) pe_int)) pa_nil))) (pss_cons (ps_for PassesOwn.never rfl (pi_seqK K rfl (pe_revK K rfl (pv 0))) (pg_name (i := 3) sc__law_turns.nd rfl (by first | exact Or.inl rfl | exact Or.inr rfl)) (pss_cons (ps_set (i := 4) sc__law_turns.nd rfl (by first | exact Or.inl rfl | exact Or.inr rfl) (pe_ix (ix_seqK K rfl) (pv 2) pe_int (fun _ _ => rfl))) (pss_cons (ps_set (i := 5) sc__law_turns.nd rfl (by first | exact Or.inl rfl | exact Or.inr rfl) (pe_lst (pa_cons (pe_tup (pa_cons pe_int (pa_cons pe_int pa_nil))) pa_nil))) (pss_cons (ps_for PassesOwn.never rfl (pi_range2 (by rfl) T.b_range (pa_cons pe_int (pa_cons (pe_op op_addI (pv 1) pe_int) pa_nil))) (pg_name (i := 6) sc__law_turns.nd rfl (by first | exact Or.inl rfl | exact Or.inr rfl)) (pss_cons (ps_set (i := 7) sc__law_turns.nd rfl (by first | exact Or.inl rfl | exact Or.inr rfl) (pe_tup (pa_cons pe_int (pa_cons pe_int pa_nil)))) (pss_cons (ps_for PassesOwn.never rfl (pi_seqK K rfl (pe_dget (hu_of hr) (pv 3) pe_str (fun _ _ => rfl))) (pg_anyK K rfl rfl (pgs_cons (pg_name (i := 8) sc__law_turns.nd rfl (by first | exact Or.inl rfl | exact Or.inr rfl)) (pgs_cons (pg_name (i := 9) sc__law_turns.nd rfl (by first | exact Or.inl rfl | exact Or.inr rfl)) pgs_nil))) (pss_cons (ps_set (i := 10) sc__law_turns.nd rfl (by first | exact Or.inl rfl | exact Or.inr rfl) (pe_calC c__law_greater hr (by decide) (by rfl) (pa_cons (pe_calC c__law_plus hr (by decide) (by rfl) (pa_cons (pv 9) (pa_cons (pe_ix (ix_seqK K rfl) (pv 4) (pe_op op_subI (pv 6) pe_int) (fun _ _ => rfl)) pa_nil))) (pa_cons (pe_ix (ix_seqK K rfl) (pv 4) (pv 6) (fun _ _ => rfl)) pa_nil)))) (pss_one (ps_set (i := 7) sc__law_turns.nd rfl (by first | exact Or.inl rfl | exact Or.inr rfl) (pe_calC c__law_plus hr (by decide) (by rfl) (pa_cons (pv 7) (pa_cons (pe_calC c__law_times hr (by decide) (by rfl) (pa_cons (pe_tup (pa_cons (pv 8) (pa_cons (pe_dget (hu_of hr) (pv 3) pe_str (fun _ _ => rfl)) pa_nil))) (pa_cons (pv 10) pa_nil))) pa_nil))))))) (pss_one (ps_expr (pe_bm PySem.F.plainAttrs_list PySem.F.slot_list_append PySem.F.type_list_append mt_append (pv 5) (pa_cons (pe_calC c__law_low hr (by decide) (by rfl) (pa_cons (pv 7) pa_nil)) pa_nil))))))) (pss_one (ps_set (i := 2) sc__law_turns.nd rfl (by first | exact Or.inl rfl | exact Or.inr rfl) (pe_op op_cat (pe_lst (pa_cons (pv 5) pa_nil)) (pv 2)))))))) (pss_one (ps_ret (pv 2))))), ?_⟩)
  intro nn B l Q h
  obtain ⟨rs, n, rfl, ok, hr, hn, h⟩ := h
  walk_at "g"
  refine ⟨by omega, by omega, Nat.le_of_lt (small1000 (by simp; omega)), ?_⟩
  rw [show ((n : Int) + 1).toNat = (((n + 1 : Nat) : Int)).toNat by omega, rep_zero]
  walk_at "g"
  have e0 : (rs.map ownD).reverse = rs.reverse.map ownD := by rw [List.map_reverse]
  rw [e0]
  refine ⟨ORow, rs.reverse, ownD, fun j => [.d (.lst (rs.map ownD)), .d (.int (n : Nat)), .d (.lst ((List.range (j + 1)).map fun i => .lst (vecL (TT (rs.drop (rs.length - j + i))) (n + 1)))), .no, .no, .no, .no, .no, .no, .no, .no], rfl, ?_, fun j => rfl, fun B' j r hx => ?_, fun Γ' w => sx_weak w ?_⟩
  · have e1 : vecL (fun _ => 0) (n + 1) = vecL (TT (rs.drop (rs.length - 0 + 0))) (n + 1) := by
      rw [show rs.length - 0 + 0 = rs.length by omega, List.drop_length]; rfl
    rw [e1]
    exact Wk.refl
  · have hj : j < rs.length := by
      have := (List.getElem?_eq_some_iff.mp hx).1
      rwa [List.length_reverse] at this
    have hx' : rs[rs.length - 1 - j]? = some r := by rw [← hx, List.getElem?_reverse hj]
    have okr : RowOk r := ok r (by have := List.mem_of_getElem? hx; simpa using this)
    have hl := okr.len
    have ng := TT_nice ok (rs.length - j)
    walk_at "h"
    refine x_at (tabL_at (f := fun i => vecL (TT (rs.drop (rs.length - j + i))) (n + 1)) (i := 0) rfl (by omega)) ?_
    refine sx_seq ?_
    refine' sx_setO ?h1 ?_
    case h1 => exact rfl
    walk_at "g"
    refine ⟨1, (n : Int) + 1, rfl, ⟨by decide, by decide, by omega, by omega⟩, ?_⟩
    refine ⟨Nat, List.range n, _, fun l => [.d (.lst (rs.map ownD)), .d (.int (n : Nat)), .d (.lst ((List.range (j + 1)).map fun i => .lst (vecL (TT (rs.drop (rs.length - j + i))) (n + 1)))), .d (ownD r), .d (.lst (vecL (TT (rs.drop (rs.length - j))) (n + 1))), .own (vecL (rowB r (TT (rs.drop (rs.length - j)))) (l + 1)), .no, .no, .no, .no, .no], rng2' (by omega), Wk.refl, fun j => rfl, fun B' l x hx => ?_, fun Γ' w => sx_weak w ?_⟩
    · obtain ⟨rfl, hxn⟩ := rng_get' hx
      have n1 := ng x
      have n2 := ng (x + 1)
      walk_at "h"
      refine sx_forGS ?_
      walk_at "h"
      refine ⟨Int × Rat, r, _, D, fun i z => [.d (.lst (rs.map ownD)), .d (.int (n : Nat)), .d (.lst ((List.range (j + 1)).map fun i => .lst (vecL (TT (rs.drop (rs.length - j + i))) (n + 1)))), .d (ownD r), .d (.lst (vecL (TT (rs.drop (rs.length - j))) (n + 1))), .own (vecL (rowB r (TT (rs.drop (rs.length - j)))) (x + 1)), .d (.int (1 + (x : Int))), .d z, .no, .no, .no],
        fun i z => LR (1 + 638 * i) (((r.map fun p => share r p.1 * rmax (p.2 + TT (rs.drop (rs.length - j)) x) (TT (rs.drop (rs.length - j)) (x + 1))).take i).sum) z, rfl, ⟨_, LR.zero, Wk.refl⟩, fun B'' i p z hp hz => ?_, fun Γ' z hz w => sx_weak w ?_⟩
      · have hp' := List.mem_of_getElem? hp
        have hi := (List.getElem?_eq_some_iff.mp hp).1
        have n3 := okr.n p hp'
        walk_at "h"
        refine x_at (atL (i := x) (by omega) (by omega)) ?_
        walk_at "h"
        refine ⟨_, _, _, _, _, _, rfl, LR.low n3, LR.low n1, by omega, by omega, fun z1 hz1 => ?_⟩
        walk_at "h"
        refine x_at (atL (i := x + 1) (by omega) (by omega)) ?_
        walk_at "h"
        refine ⟨_, _, _, _, _, _, rfl, hz1, LR.low n2, by omega, by omega, fun z2 hz2 => ?_⟩
        walk_at "h"
        refine ⟨_, _, _, _, _, _, rfl, LR.share okr hp', hz2, by omega, by omega, fun z3 hz3 => ?_⟩
        walk_at "h"
        refine ⟨_, _, _, _, _, _, rfl, hz, hz3, by omega, by omega, fun z4 hz4 => ?_⟩
        walk_at "h"
        refine ⟨z4, ?_, .same (.same (.same (.same (.same (.same (.same (.same (.no (.no (.no .nil))))))))))⟩
        dsimp only
        rw [sum_take' (x := share r p.1 * rmax (p.2 + TT (rs.drop (rs.length - j)) x) (TT (rs.drop (rs.length - j)) (x + 1))) (by rw [List.getElem?_map, hp]; rfl)]
        exact LR.mono hz4 (by omega)
      · dsimp only at hz
        rw [List.take_of_length_le (by rw [List.length_map]; omega)] at hz
        walk_at "h"
        refine ⟨_, _, _, rfl, hz, by omega, ?_⟩
        refine ⟨small1000 (by rw [vecL_len]; omega), ?_⟩
        show Wk _ [_, _, _, _, _, .own (vecL (rowB r (TT (rs.drop (rs.length - j)))) (x + 1 + 1)), .no, .no, .no, .no, .no]
        rw [vecL_succ (n := x + 1)]
        exact .same (.same (.same (.same (.same (.same (.no (.no (.no (.no (.no .nil))))))))))
    · dsimp only
      rw [List.length_range]
      refine sx_freeze 5 rfl ?_
      walk_at "h"
      refine ⟨Nat.le_of_lt (small1000 (by simp; omega)), ?_⟩
      show Wk _ [_, _, .d (.lst ((List.range (j + 1 + 1)).map fun i => .lst (vecL (TT (rs.drop (rs.length - (j + 1) + i))) (n + 1)))), .no, .no, .no, .no, .no, .no, .no, .no]
      have e2 : TT (rs.drop (rs.length - (j + 1) + 0)) = rowB r (TT (rs.drop (rs.length - j))) := by
        rw [TT_drop (by omega), rowAt_of (by rw [← hx']; congr 1; omega), show rs.length - (j + 1) + 0 + 1 = rs.length - j by omega]
      have e3 : (List.range (j + 1 + 1)).map (fun i => D.lst (vecL (TT (rs.drop (rs.length - (j + 1) + i))) (n + 1))) = [D.lst (vecL (rowB r (TT (rs.drop (rs.length - j)))) (n + 1))] ++ (List.range (j + 1)).map fun i => D.lst (vecL (TT (rs.drop (rs.length - j + i))) (n + 1)) := by
        rw [List.range_succ_eq_map, List.map_cons, List.map_map, e2]
        show _ :: _ = _ :: _
        congr 1
        apply List.map_congr_left
        intro i _
        show D.lst (vecL (TT (rs.drop (rs.length - (j + 1) + (i + 1)))) (n + 1)) = _
        rw [show rs.length - (j + 1) + (i + 1) = rs.length - j + i by omega]
      rw [e3]
      exact .same (.same (.same (.no (.no (.no (.no (.no (.no (.no (.no .nil))))))))))
  · dsimp only
    rw [List.length_reverse]
    walk_at "g"
    have e4 : (List.range (rs.length + 1)).map (fun i => D.lst (vecL (TT (rs.drop (rs.length - rs.length + i))) (n + 1))) = (List.range (rs.length + 1)).map fun i => D.lst (vecL (TT (rs.drop i)) (n + 1)) := by
      apply List.map_congr_left
      intro i _
      rw [show rs.length - rs.length + i = i by omega]
    rw [e4]
    exact h

end

end K
end

section
set_option maxRecDepth 100000
set_option maxHeartbeats 4000000
namespace K
open PySem PySem.Spec PyProof.Rows L2 G

/-! values with the heap as it stands -/
def VB (σ : L2.St) (H : Hp) (te : TE) (v : V) : Prop := ∀ Q : VK, Q v H → te σ H Q
def TB (σ : L2.St) (H : Hp) (tt : TT) (b : Bool) : Prop := ∀ Q : Bool → Hp → Prop, Q b H → tt σ H Q
section
variable {σ : L2.St} {H : Hp} {te ta tb td tv : TE} {tt tu : TT} {t u : TS} {D' : Ends} {K : PySem.W.Frag}
theorem vb_var {i : Nat} {v : V} (h : σ[i]? = some (some v)) : VB σ H (tVar i) v := fun Q q => ⟨v, h, q⟩
theorem vb_c {v : V} : VB σ H (tC v) v := fun Q q => q
theorem vb_get {a : Addr} {kvs : List (Key × V)} {x : Str} {v : V} (h : VB σ H td (.ref a)) (hk : H a = some (.dK kvs)) (hv : valV kvs (.inr x) = some v) : VB σ H (tDGet td (tC (.str x))) v := fun Q q => h _ ⟨a, v, rfl, by rw [← hv]; exact DGet.k (k := .inr x) hk, q⟩
theorem vb_add {i j : Int} (h : VB σ H ta (.int i)) (h' : VB σ H tb (.int j)) : VB σ H (tOp rAddI ta tb) (.int (i + j)) := fun Q q => h _ (h' _ ⟨i, j, rfl, rfl, q⟩)
theorem vb_mul {i j : Int} (c : CMul i j) (h : VB σ H ta (.int i)) (h' : VB σ H tb (.int j)) : VB σ H (tOp (rI CMul fun i j => V.int (i * j)) ta tb) (.int (i * j)) := fun Q q => h _ (h' _ ⟨i, j, rfl, rfl, c, q⟩)
theorem vb_pow {i j : Int} (c : CPow i j) (h : VB σ H ta (.int i)) (h' : VB σ H tb (.int j)) : VB σ H (tOp (rI CPow fun i j => V.int (i ^ j.toNat)) ta tb) (.int (i ^ j.toNat)) := fun Q q => h _ (h' _ ⟨i, j, rfl, rfl, c, q⟩)
theorem vb_mod {i j : Int} (c : 0 < j) (h : VB σ H ta (.int i)) (h' : VB σ H tb (.int j)) : VB σ H (tOp rModI ta tb) (.int (i % j)) := fun Q q => h _ (h' _ ⟨i, j, rfl, rfl, c, q⟩)
theorem vb_div {i j : Int} (c : CDivW i j) (h : VB σ H ta (.int i)) (h' : VB σ H tb (.int j)) : VB σ H (tOp rDivI ta tb) (.int (i / j)) := fun Q q => h _ (h' _ ⟨i, j, rfl, rfl, c, q⟩)
theorem vb_ge {i j : Int} (h : VB σ H ta (.int i)) (h' : VB σ H tb (.int j)) : VB σ H (tOp rGeI ta tb) (.bl (decide (j ≤ i))) := fun Q q => h _ (h' _ ⟨i, j, rfl, rfl, q⟩)
theorem vb_gt {i j : Int} (h : VB σ H ta (.int i)) (h' : VB σ H tb (.int j)) : VB σ H (tOp rGtI ta tb) (.bl (decide (j < i))) := fun Q q => h _ (h' _ ⟨i, j, rfl, rfl, q⟩)
theorem vb_lt {i j : Int} (h : VB σ H ta (.int i)) (h' : VB σ H tb (.int j)) : VB σ H (tOp rLtI ta tb) (.bl (decide (i < j))) := fun Q q => h _ (h' _ ⟨i, j, rfl, rfl, q⟩)
theorem vb_eq {i j : Int} (h : VB σ H ta (.int i)) (h' : VB σ H tb (.int j)) : VB σ H (tOp rEq ta tb) (.bl (decide (i = j))) := fun Q q => h _ (h' _ ⟨rfl, by
  rw [show decide (V.int i = V.int j) = decide (i = j) from decide_eq_decide.mpr ⟨fun h => by injection h, fun h => by rw [h]⟩]
  exact q⟩)
theorem vb_int {i : Int} (h : VB σ H ta (.int i)) : VB σ H (tCB rInt1 (tCons ta tNil)) (.int i) := fun Q q => h _ (.inl ⟨i, rfl, q⟩)
theorem vb_len {c : Addr} {vs : List V} (h : VB σ H ta (.ref c)) (hc : H c = some (.lst vs)) : VB σ H (tCB (rLenU K) (tCons ta tNil)) (.int (vs.length : Nat)) := fun Q q => h _ ⟨_, vs.length, rfl, .inl ⟨vs, SqL.of hc, rfl⟩, q⟩
theorem vb_ix {c : Addr} {vs : List V} {i : Int} {v : V} (h : VB σ H ta (.ref c)) (h' : VB σ H tb (.int i)) (hc : H c = some (.lst vs)) (hv : atI vs i = some v) : VB σ H (tOp (rIx K) ta tb) v := fun Q q => h _ (h' _ (.inl ⟨c, vs, i, v, rfl, rfl, SqL.of hc, hv, q⟩))
theorem tb_test {b : Bool} (h : VB σ H te (.bl b)) : TB σ H (tTest te) b := fun Q q => h _ ⟨b, rfl, q⟩
theorem tb_and {b c : Bool} (h : TB σ H tt b) (h' : TB σ H tu c) : TB σ H (tAnd tt tu) (b && c) := fun Q q => h _ (by
  cases b with
  | true => rw [if_pos rfl]; exact h' _ q
  | false => rw [if_neg Bool.false_ne_true]; exact q)
theorem rs_if {b : Bool} (h : TB σ H tt b) (k1 : b = true → t D' σ H) (k2 : b = false → u D' σ H) : tIfS tt t u D' σ H := h _ (by
  cases b with
  | true => rw [if_pos rfl]; exact k1 rfl
  | false => rw [if_neg Bool.false_ne_true]; exact k2 rfl)
theorem rs_cut (M : L2.St → Hp → Prop) (h1 : ∀ D1 : Ends, (∀ σ H, M σ H → D1.nx σ H) → D1.rt = D'.rt → t D1 σ H) (h2 : ∀ σ H, M σ H → u D' σ H) : tSeq t u D' σ H := h1 { D' with nx := u D' } h2 rfl
theorem rs_seq (h : t { D' with nx := u D' } σ H) : tSeq t u D' σ H := h
theorem rs_next (h : D'.nx σ H) : tNext D' σ H := h
theorem rs_asg {i : Nat} {v : V} (h : VB σ H te v) (k : D'.nx (σ.set i (some v)) H) : tAsg te (gName i) D' σ H := h _ k
theorem rs_ret {v : V} (h : VB σ H te v) (k : D'.rt v H) : tRet te D' σ H := h _ k
theorem rs_put {a : Addr} {kvs kvs' : List (Key × V)} {x : Str} {v : V} (hd : VB σ H td (.ref a)) (hv : VB σ H tv v) (hk : H a = some (.dK kvs)) (hl : kvs.length < sizeLine) (he : putK kvs (.inr x) v = kvs') (k : D'.nx σ (upd H a (.dK kvs'))) : sDPut td (tC (.str x)) tv D' σ H :=
  hv _ (hd _ ⟨a, _, rfl, .inl ⟨kvs, .inr x, hk, rfl, hl, rfl⟩, he ▸ k⟩)
end
theorem _root_.G.LenOk.eq {σ : L2.St} {Γ : List Sl} (h : LenOk σ Γ) (hn : Γ.all (fun s => !s.isR) = true) : σ.length = Γ.length := by
  rcases Nat.lt_or_ge σ.length Γ.length with z | z
  · exfalso
    have g : Γ[σ.length]? = some Γ[σ.length] := by simp [z]
    have := (h.c _ _ g).mp (Nat.le_refl _)
    have := List.all_eq_true.mp hn _ (List.mem_of_getElem? g)
    simp_all
  · exact Nat.le_antisymm h.le z
theorem env_blank {C : Cl} {B : Bs} {W H H1 : Hp} {σ : L2.St} {Γ : List Sl} (e : EnvOk C B W H σ Γ) (stp : Stp C B.P B.S B.W0 B.H0 W H1) (pl : PlOk C B.P W H1) : EnvOk C B W H1 [] [] :=
  ⟨stp, e.kp, pl, e.p0, ⟨Nat.le_refl _, fun i s h => by simp at h⟩, fun _ => 0, fun i j s t h => by simp at h, fun i s h => by simp at h, fun i s h => by simp at h, fun i j cs ds h => by simp at h, fun i cs h => by simp at h, fun i cs p h => by simp at h, fun i cs p j s h => by simp at h⟩
def bagL (c : Addr) (at_ big mixed count : Int) : List (Key × V) := [(.inr "cells", .ref c), (.inr "at", .int at_), (.inr "big", .int big), (.inr "mixed", .int mixed), (.inr "count", .int count)]
theorem keys5 {a b c d e : D} : ([((.inr "cells" : Key), a), (.inr "at", b), (.inr "big", c), (.inr "mixed", d), (.inr "count", e)].map (·.1)).Nodup := by
  show [(.inr "cells" : Key), .inr "at", .inr "big", .inr "mixed", .inr "count"].Nodup
  decide +kernel
section
local macro_rules | `(tactic| walk_at "e") => `(tactic| first
  | ((with_reducible refine' ek_var ?h1 ?_); (case h1 => exact rfl))
  | (with_reducible refine ek_int ?_)
  | (with_reducible refine ek_bl ?_)
  | (with_reducible refine ek_non ?_)
  | (with_reducible refine ek_str ?_)
  | (with_reducible refine ek_ty ?_)
  | (with_reducible refine ek_cls ?_)
  | (with_reducible refine ek_ix ?_)
  | (with_reducible refine ek_un ?_)
  | (with_reducible refine ek_tup ?_)
  | (with_reducible refine k_call ?_)
  | (with_reducible refine ek_len ?_)
  | (with_reducible refine ek_tuple ?_)
  | (with_reducible refine ek_sum ?_)
  | (with_reducible refine ek_all ?_)
  | (with_reducible refine ek_any ?_)
  | (with_reducible refine ek_chain ?_)
  | (with_reducible refine ek_andV ?_)
  | (with_reducible refine ek_orV ?_)
  | (with_reducible refine ek_notV ?_)
  | (with_reducible refine ek_if ?_)
  | (with_reducible refine ek_ef (ef_lst ?_))
  | (with_reducible refine ek_ef (ef_list ?_))
  | (with_reducible refine ek_ef (ef_cat ?_))
  | (with_reducible refine ek_ef (ef_rep ?_))
  | (with_reducible refine ek_ef (ef_slice ?_))
  | (with_reducible refine ek_ef (ef_rev ?_))
  | (with_reducible refine ek_ef (ef_lstRev ?_))
  | (with_reducible refine ek_ef (ef_map ?_))
  | (with_reducible refine ek_ef (ef_filt ?_))
  | (with_reducible refine ef_lst ?_)
  | (with_reducible refine ef_list ?_)
  | (with_reducible refine ef_cat ?_)
  | (with_reducible refine ef_rep ?_)
  | (with_reducible refine ef_slice ?_)
  | (with_reducible refine ef_rev ?_)
  | (with_reducible refine ef_lstRev ?_)
  | (with_reducible refine ef_map ?_)
  | (with_reducible refine ef_filt ?_)
  | ((with_reducible refine' el_var ?h1 ?_); (case h1 => exact rfl))
  | ((with_reducible refine' el_own ?h1 ?_); (case h1 => exact rfl))
  | (with_reducible refine el_ef (ef_lst ?_))
  | (with_reducible refine el_ef (ef_list ?_))
  | (with_reducible refine el_ef (ef_cat ?_))
  | (with_reducible refine el_ef (ef_rep ?_))
  | (with_reducible refine el_ef (ef_slice ?_))
  | (with_reducible refine el_ef (ef_rev ?_))
  | (with_reducible refine el_ef (ef_lstRev ?_))
  | (with_reducible refine el_ef (ef_map ?_))
  | (with_reducible refine el_ef (ef_filt ?_))
  | (with_reducible refine ek_op ?_)
  | (with_reducible refine ek_cb ?_)
  | (with_reducible refine el_ek ?_)
  | (with_reducible refine tk_test ?_)
  | (with_reducible refine tk_B ?_)
  | (with_reducible refine tk_and ?_)
  | (with_reducible refine tk_or ?_)
  | (with_reducible refine tk_not ?_)
  | (with_reducible refine tk_yes ?_)
  | (with_reducible refine ak_nil ?_)
  | (with_reducible refine ak_cons ?_)
  | (with_reducible refine k_num (‹Tx _ _›) ?_)
  | (with_reducible refine k_den (‹Tx _ _›) ?_)
  | (with_reducible refine k_mk2 ?_)
  | (with_reducible refine k_mkO ?_)
  | (with_reducible refine k_rows (‹Tx _ _›) ?_)
  | (with_reducible refine k_mk1 ?_)
  | (with_reducible refine k_bel ?_)
  | (with_reducible refine k_own ?_)
  | (with_reducible refine rk_U2 (k_own ?_))
  | (with_reducible refine rk_mul (Sz.mul (by assumption) (by assumption)) ?_)
  | (with_reducible refine rk_U1 (rk_mul (Sz.mul (by assumption) (by assumption)) ?_))
  | (with_reducible refine ek_dget ?_)
  | (with_reducible refine uk_neg ?_)
  | (with_reducible refine ek_disp ?_)
  | (with_reducible refine pk_cons ?_)
  | (with_reducible refine pk_nil ?_)
  | (with_reducible refine rk_mod (by assumption) ?_)
  | (with_reducible refine rk_add ?_)
  | (with_reducible refine rk_sub ?_)
  | (with_reducible refine rk_lt ?_)
  | (with_reducible refine rk_le ?_)
  | (with_reducible refine rk_gt ?_)
  | (with_reducible refine rk_ge ?_)
  | (with_reducible refine rk_eqI ?_)
  | (with_reducible refine rk_neI ?_)
  | (with_reducible refine rk_isN ?_)
  | (with_reducible refine rk_notN ?_)
  | (with_reducible refine rk_U1 (rk_add ?_))
  | (with_reducible refine rk_U1 (rk_sub ?_))
  | (with_reducible refine ck_gcd ?_)
  | (with_reducible refine ck_abs ?_)
  | (with_reducible refine ck_int ?_)
  | (with_reducible refine ik_seq ?_)
  | (with_reducible refine ik_range1 ?_)
  | (with_reducible refine ik_range2 ?_)
  | (with_reducible refine ik_enumA ?_)
  | (with_reducible refine ik_zip ?_)
  | (with_reducible refine ik_rev ?_)
  | ((with_reducible refine' cg_name ?_ ?h1 ?h2); (case h1 => exact rfl); (case h2 => decide))
  | ((with_reducible refine' cg_anyT ?h1 ?_); (case h1 => exact rfl))
  | ((with_reducible refine' cg_anyL ?h1 ?_); (case h1 => exact rfl))
  | ((with_reducible refine' cg_anyK ?h1 ?_); (case h1 => exact rfl))
  | ((with_reducible refine' cgs_cons ?_ ?h1 ?h2); (case h1 => exact rfl); (case h2 => decide))
  | (with_reducible refine cgs_nil ?_)
  | ((with_reducible refine' gk_name ?_ ?h1); (case h1 => exact rfl))
  | ((with_reducible refine' gk_anyT ?h1 ?_); (case h1 => exact rfl))
  | ((with_reducible refine' gk_anyL ?h1 ?_); (case h1 => exact rfl))
  | ((with_reducible refine' gk_anyK ?h1 ?_); (case h1 => exact rfl))
  | ((with_reducible refine' gks_cons ?_ ?h1); (case h1 => exact rfl))
  | ((with_reducible refine' gks_consA (n := 0) ?_ ?h1 ?h2); (case h1 => exact rfl); (case h2 => exact rfl))
  | ((with_reducible refine' gks_consB ?h0 ?_ ?h1 ?h2); (case h0 => exact rfl); (case h1 => exact rfl); (case h2 => exact rfl))
  | (with_reducible refine gks_nil ?_)
  | (with_reducible refine ok_none ?_)
  | (with_reducible refine ok_some ?_))
local macro_rules | `(tactic| walk_at "s") => `(tactic| first
  | (with_reducible refine sx_guard ?_ ?_)
  | (with_reducible refine sx_seq ?_)
  | (with_reducible refine sx_ret ?_)
  | (with_reducible refine sx_if ?_)
  | (with_reducible refine sx_next ?_)
  | (with_reducible refine sx_break ?_)
  | (with_reducible refine sx_cont ?_)
  | ((with_reducible refine' sx_append ?h1 ?_); (case h1 => exact rfl))
  | ((with_reducible refine' sx_setI ?h1 ?_); (case h1 => exact rfl))
  | ((with_reducible refine' sx_set ?h1 ?_); (case h1 => exact rfl))
  | (with_reducible refine sx_asg ?_)
  | ((with_reducible refine' sx_par ?h1 ?h2 ?_); (case h1 => exact rfl); (case h2 => exact rfl))
  | (with_reducible refine sx_drop ?_)
  | ((with_reducible refine' k_fldS (‹Tx _ _›) ?h1 ?h2 ?h3 ?_); (case h1 => exact rfl); (case h2 => decide); (case h3 => exact rfl))
  | ((with_reducible refine' k_fldO (‹Tx _ _›) ?h1 ?h3 ?_); (case h1 => exact rfl); (case h3 => exact rfl)))
/-! plain existentials that the rules leave -/
local macro_rules | `(tactic| walk_at "x") => `(tactic| first
  | (with_reducible refine x_bl ?_)
  | (with_reducible refine x_int ?_)
  | (with_reducible refine x_frac ?_)
  | (with_reducible refine x_lst ?_)
  | (with_reducible refine x_off ?_)
  | (with_reducible refine x_low ?_)
  | (with_reducible refine x_ownR ?_)
  | (with_reducible refine x_ownA ?_)
  | (with_reducible refine x_tup ?_)
  | (with_reducible refine x_kd ?_)
  | (with_reducible refine x_oneL ?_)
  | (with_reducible refine x_oneT ?_)
  | (with_reducible refine x_one ?_)
  | ((with_reducible refine' x_at ?h1 ?_); (case h1 => exact rfl))
  | ((with_reducible refine' x_dic ?h1 ?_); (case h1 => exact rfl))
  | (with_reducible refine (⟨rfl, ?_⟩ : Kd.l = Kd.l ∧ _))
  | ((with_reducible refine' x_len ?h1 ?_); (case h1 => exact rfl))
  | ((with_reducible refine' br_t ?h1 ?_); (case h1 => exact rfl))
  | ((with_reducible refine' br_f ?h1 ?_); (case h1 => exact rfl)))
local macro_rules | `(tactic| walk_at "f") => `(tactic| first
  | ((with_reducible refine' sx_forW ?h1 ?_); (case h1 => exact rfl))
  | (with_reducible refine sx_forGW ?_))
local macro_rules | `(tactic| walk_at "g") => `(tactic| repeat (first | walk_at "s" | walk_at "f" | walk_at "e" | walk_at "x"))
local macro_rules | `(tactic| walk_at "v") => `(tactic| repeat (first | walk_at "e" | walk_at "x"))
local macro_rules | `(tactic| walk_at "h") => `(tactic| repeat (first | walk_at "s" | walk_at "e" | walk_at "x"))
variable {P : Program} {w : World} {K : PySem.W.Frag} {mg : Str → Option Value} {base : Heap}

def S__law_bag : List D → (D → Prop) → Prop := fun l K => ∃ xs : List Int, l = [.raw (xs.map .int)] ∧ xs.length ≤ 63 ∧ K (.dic [(.inr "cells", .lst ((xs.map fun i => (i.natAbs : Int)).map .int)), (.inr "at", .int 0), (.inr "big", .int 0), (.inr "mixed", .int (7 + (xs.length : Nat))), (.inr "count", .int 0)])
theorem ok__law_bag (T : Tx K mg)  : Cal P w K mg base 1 "_law_bag" ["script"] (SpFam (CL K) S__law_bag) := by
  refine cal_mkF (N := ["script", "cells", "cell"]) T.g__law_bag T.d__law_bag sc__law_bag (fun _ _ _ _ _ _ us hl => match us, hl with | [_], _ => rfl) (by intro l Q h; first | (obtain ⟨rfl, _⟩ := h; rfl) | (obtain ⟨_, rfl, _⟩ := h; rfl) | (obtain ⟨_, _, rfl, _⟩ := h; rfl) | (obtain ⟨_, _, _, rfl, _⟩ := h; rfl) | (obtain ⟨_, _, _, _, rfl, _⟩ := h; rfl) | (obtain ⟨_, _, _, _, _, rfl, _⟩ := h; rfl) | (obtain ⟨_, _, _, _, _, _, rfl, _⟩ := h; rfl) | (obtain ⟨_, _, _, _, _, _, _, rfl, _⟩ := h; rfl) | (obtain ⟨_, _, _, _, _, _, _, _, rfl, _⟩ := h; rfl) | (obtain ⟨_, _, _, _, _, _, _, _, _, rfl, _⟩ := h; rfl) | (obtain ⟨_, _, _, _, _, _, _, _, _, _, rfl, _⟩ := h; rfl) | (obtain ⟨_, _, _, _, _, _, _, _, _, _, _, rfl, _⟩ := h; rfl)) (fun f cdv A outer s H E hr => ⟨_, (pss_cons (ps_setLc (i := 1) (own := [("cell", 2)]) (g := gName 2) (tt := tYes) rfl sc__law_bag.nd rfl rfl (sw_true rfl rfl rfl (by decide +kernel)) (pi_seqK K rfl (pv 0)) (blkOk_by (own := [("cell", 2)]) (N := ["script", "cells", "cell"]) (sc := defScope s__law_bag) (by decide +kernel)) (fun _ _ _ _ _ => (pg_name (i := 2) sc__law_bag.nd rfl (by first | exact Or.inl rfl | exact Or.inr rfl))) (fun _ _ _ _ _ => pts_nil) (fun _ _ _ _ _ => (pe_callB cr_abs (by rfl) T.b_abs (by decide +kernel) (pa_cons (pe_callTy cr_int1 (by rfl) T.b_int (by decide +kernel) (pa_cons (pv 2) pa_nil)) pa_nil)))) (pss_one (ps_ret (pe_disp (pps_cons pe_str (pv 1) (pps_cons pe_str pe_int (pps_cons pe_str pe_int (pps_cons pe_str (pe_op op_addI pe_int (pe_callB (cr_lenK K rfl) (by rfl) T.b_len PySem.boot_len (pa_cons (pv 1) pa_nil))) (pps_cons pe_str pe_int pps_nil))))) (by rfl) (by rfl) (fun z => by cases z) (by decide))))), ?_⟩)
  intro nn B l Q h
  obtain ⟨xs, rfl, hl, h⟩ := h
  refine sx_seq ?_
  refine' sx_set ?h1 (ek_ef (ef_map (ik_raw ?_)))
  case h1 => exact rfl
  refine' ek_var ?h1 ?_
  case h1 => exact rfl
  refine ⟨_, rfl, ?_⟩
  refine ⟨Int, xs, .int, fun i => .int (i.natAbs : Int), rfl, Nat.le_of_lt (small1000 (by omega)), fun W1 i hi => ?_, ?_⟩
  · walk_at "g"
    rw [show (if i < 0 then -i else i) = (i.natAbs : Int) by split <;> omega]
  walk_at "g"
  refine ⟨keys5, by show 5 ≤ 15; decide, ?_⟩
  rw [List.length_map]
  rw [List.map_map] at h
  exact h

def S__law_draw : List D → (D → Prop) → Prop := fun l K => ∃ m : Int, l = [.pool, .int m] ∧ 0 < m ∧ m ≤ 1000 ∧ ∀ r : Int, 0 ≤ r → r < m → K (.int r)
theorem ok__law_draw (T : Tx K mg)  : Cal P w K mg base 1 "_law_draw" ["bag", "many"] (SpFam (CL K) S__law_draw) := by
  refine cal_mkF (N := ["bag", "many", "cell", "got"]) T.g__law_draw T.d__law_draw sc__law_draw (fun _ _ _ _ _ _ us hl => match us, hl with | [_, _], _ => rfl) (by intro l Q h; first | (obtain ⟨rfl, _⟩ := h; rfl) | (obtain ⟨_, rfl, _⟩ := h; rfl) | (obtain ⟨_, _, rfl, _⟩ := h; rfl) | (obtain ⟨_, _, _, rfl, _⟩ := h; rfl) | (obtain ⟨_, _, _, _, rfl, _⟩ := h; rfl) | (obtain ⟨_, _, _, _, _, rfl, _⟩ := h; rfl) | (obtain ⟨_, _, _, _, _, _, rfl, _⟩ := h; rfl) | (obtain ⟨_, _, _, _, _, _, _, rfl, _⟩ := h; rfl) | (obtain ⟨_, _, _, _, _, _, _, _, rfl, _⟩ := h; rfl) | (obtain ⟨_, _, _, _, _, _, _, _, _, rfl, _⟩ := h; rfl) | (obtain ⟨_, _, _, _, _, _, _, _, _, _, rfl, _⟩ := h; rfl) | (obtain ⟨_, _, _, _, _, _, _, _, _, _, _, rfl, _⟩ := h; rfl)) (fun f cdv A outer s H E hr => ⟨_, (pss_cons (ps_if (PW.pt (pw_and (pt_cmpR op_eq (pe_dget (hu_of hr) (pv 0) pe_str (fun _ _ => rfl)) pe_int (nomark _)) (pw_and1 (pt_cmpR op_ltI (pe_dget (hu_of hr) (pv 0) pe_str (fun _ _ => rfl)) (pe_callB (cr_lenK K rfl) (by rfl) T.b_len PySem.boot_len (pa_cons (pe_dget (hu_of hr) (pv 0) pe_str (fun _ _ => rfl)) pa_nil)) (nomark _))))) (pss_cons (ps_set (i := 2) sc__law_draw.nd rfl (by first | exact Or.inl rfl | exact Or.inr rfl) (pe_ix (ix_seqK K rfl) (pe_dget (hu_of hr) (pv 0) pe_str (fun _ _ => rfl)) (pe_dget (hu_of hr) (pv 0) pe_str (fun _ _ => rfl)) (fun _ _ => rfl))) (pss_cons (ps_dput (hu_of hr) (pv 0) pe_str (pe_op op_addI (pe_dget (hu_of hr) (pv 0) pe_str (fun _ _ => rfl)) pe_int) rfl) (pss_one (ps_if (pt_cmpR op_geI (pv 2) (pe_op op_pow pe_int pe_int) (nomark _)) (pss_one (ps_dput (hu_of hr) (pv 0) pe_str (pv 2) rfl)) (pss_one (ps_dput (hu_of hr) (pv 0) pe_str (pe_op op_modI (pe_callTy cr_int1 (by rfl) T.b_int (by decide +kernel) (pa_cons (pe_op op_addI (pe_op op_addI (pe_op op_mul (pe_dget (hu_of hr) (pv 0) pe_str (fun _ _ => rfl)) (pe_dget (hu_of hr) (pv 0) pe_str (fun _ _ => rfl))) (pe_op op_mul (pv 2) pe_int)) pe_int) pa_nil)) pe_int) rfl)))))) pss_nil) (pss_cons (ps_if (pt_cmpR op_gtI (pe_dget (hu_of hr) (pv 0) pe_str (fun _ _ => rfl)) pe_int (nomark _)) (pss_cons (ps_set (i := 3) sc__law_draw.nd rfl (by first | exact Or.inl rfl | exact Or.inr rfl) (pe_op op_modI (pe_callTy cr_int1 (by rfl) T.b_int (by decide +kernel) (pa_cons (pe_dget (hu_of hr) (pv 0) pe_str (fun _ _ => rfl)) pa_nil)) (pv 1))) (pss_cons (ps_dput (hu_of hr) (pv 0) pe_str (pe_op op_divI (pe_callTy cr_int1 (by rfl) T.b_int (by decide +kernel) (pa_cons (pe_dget (hu_of hr) (pv 0) pe_str (fun _ _ => rfl)) pa_nil)) (pv 1)) rfl) (pss_one (ps_ret (pv 3))))) pss_nil) (pss_cons (ps_dput (hu_of hr) (pv 0) pe_str (pe_op op_addI (pe_dget (hu_of hr) (pv 0) pe_str (fun _ _ => rfl)) pe_int) rfl) (pss_cons (ps_dput (hu_of hr) (pv 0) pe_str (pe_op op_modI (pe_callTy cr_int1 (by rfl) T.b_int (by decide +kernel) (pa_cons (pe_op op_addI (pe_op op_addI (pe_op op_mul (pe_dget (hu_of hr) (pv 0) pe_str (fun _ _ => rfl)) (pe_dget (hu_of hr) (pv 0) pe_str (fun _ _ => rfl))) (pe_op op_mul pe_int (pe_dget (hu_of hr) (pv 0) pe_str (fun _ _ => rfl)))) pe_int) pa_nil)) pe_int) rfl) (pss_one (ps_ret (pe_op op_modI (pe_callTy cr_int1 (by rfl) T.b_int (by decide +kernel) (pa_cons (pe_op op_divI (pe_dget (hu_of hr) (pv 0) pe_str (fun _ _ => rfl)) pe_int) pa_nil)) (pv 1)))))))), ?_⟩)
  intro nn B l Q h
  obtain ⟨m, rfl, m0, m1, h⟩ := h
  intro W H σ e D' s
  obtain ⟨v0, hs0, r0⟩ := e.at_ (i := 0) (x := .pool) rfl
  obtain ⟨v1, hs1, r1⟩ := e.at_ (i := 1) (x := .int m) rfl
  cases r1
  cases r0 with
  | @pool a hP =>
  have hlen : σ.length = 4 := e.len.eq rfl
  obtain ⟨hWa, c, cells, at_, big, mixed, count, hHa, hWc, b1, b2, b3, b4, b5, b6, b7⟩ := e.pl.po a hP
  have hca : c ≠ a := fun z => by rw [z, hWa] at hWc; cases hWc
  have hHc : H c = some (.lst (cells.map V.int)) := e.wh _ _ hWc
  have l5 : ∀ {c a b m k}, (bagL c a b m k).length < sizeLine := fun {_ _ _ _ _} => small1000 (by show 5 ≤ 1000; decide)
  have fin : ∀ (H1 : Hp) (a1 : Nat) (g x k r : Int), H1 a = some (.dK (bagL c a1 g x k)) → (∀ y, y ≠ a → H1 y = H y) → a1 ≤ cells.length → 0 ≤ g → 0 ≤ x → x < 2 ^ 61 → 0 ≤ k → 0 ≤ r → r < m → D'.rt (.int r) H1 := by
    intro H1 a1 g x k r f1 f2 f3 f4 f5 f6 f7 f8 f9
    have bg : bagK W (H1 a) := ⟨c, cells, a1, g, x, k, f1, hWc, f3, b2, b3, f4, f5, f6, f7⟩
    refine s.rt [] (.int r) (.int r) W H1 [] (env_blank e ⟨e.stp.ww, fun y o z => ?_, fun y o z z1 z2 => ?_, fun y o z => ?_, e.stp.old, fun y z _ => ?_⟩ ⟨fun y z => ?_, fun y o z => ?_⟩) (.int r) (h r f8 f9)
    · rw [f2 y (fun w => by subst w; rw [hWa] at z; cases z)]; exact e.wh y o z
    · rw [f2 y (fun w => by subst w; exact z1 hP)]; exact e.stp.hh y o z z1 z2
    · by_cases w : y = a
      · subst w; exact ⟨_, f1⟩
      · rw [f2 y w]; exact e.stp.dom y o z
    · rw [hP] at z; cases z; exact bg
    · rw [hP] at z; cases z; exact ⟨hWa, bg⟩
    · obtain ⟨z1, z2, z3⟩ := e.pl.rg y o z
      exact ⟨by rw [f2 y (fun w => by subst w; exact z3 hP)]; exact z1, z2, z3⟩
  refine rs_cut (fun σ1 H1 => σ1[0]? = some (some (.ref a)) ∧ σ1[1]? = some (some (.int m)) ∧ σ1.length = 4 ∧ ∃ (a1 : Nat) (g x k : Int), H1 a = some (.dK (bagL c a1 g x k)) ∧ (∀ y, y ≠ a → H1 y = H y) ∧ a1 ≤ cells.length ∧ 0 ≤ g ∧ 0 ≤ x ∧ x < 2 ^ 61 ∧ 0 ≤ k) (fun D1 hD _ => ?_) ?_
  · refine rs_if (tb_and (tb_test (vb_eq (vb_get (vb_var hs0) hHa rfl) vb_c)) (tb_test (vb_lt (vb_get (vb_var hs0) hHa rfl) (vb_len (vb_get (vb_var hs0) hHa rfl) hHc)))) (fun hb => ?_) (fun _ => ?_)
    · simp only [Bool.and_eq_true, decide_eq_true_eq] at hb
      obtain ⟨_, hb⟩ := hb
      rw [List.length_map] at hb
      have hb : at_ < cells.length := by omega
      have hcell : atI (cells.map V.int) (at_ : Int) = some (.int cells[at_]) := atI_nat (by simp [hb])
      have c0 : 0 ≤ cells[at_] := b3 _ (List.getElem_mem hb)
      refine rs_seq (rs_asg (vb_ix (vb_get (vb_var hs0) hHa rfl) (vb_get (vb_var hs0) hHa rfl) hHc hcell) ?_)
      have t0 : (σ.set 2 (some (.int cells[at_])))[0]? = some (some (.ref a)) := by rw [List.getElem?_set_ne (by decide)]; exact hs0
      have t1 : (σ.set 2 (some (.int cells[at_])))[1]? = some (some (.int m)) := by rw [List.getElem?_set_ne (by decide)]; exact hs1
      have t2 : (σ.set 2 (some (.int cells[at_])))[2]? = some (some (.int cells[at_])) := by rw [List.getElem?_set_self (by omega)]
      have t3 : (σ.set 2 (some (.int cells[at_]))).length = 4 := by rw [List.length_set]; exact hlen
      refine rs_seq (rs_put (vb_var t0) (vb_add (vb_get (vb_var t0) hHa rfl) vb_c) hHa l5 (kvs' := bagL c ((at_ + 1 : Nat) : Int) big mixed count) rfl ?_)
      have u1 : (upd H a (.dK (bagL c ((at_ + 1 : Nat) : Int) big mixed count))) a = some (.dK (bagL c ((at_ + 1 : Nat) : Int) big mixed count)) := upd_same
      have u2 : ∀ y, y ≠ a → (upd H a (.dK (bagL c ((at_ + 1 : Nat) : Int) big mixed count))) y = H y := fun y hy => upd_ne hy
      refine rs_if (tb_test (vb_ge (vb_var t2) (vb_pow ⟨by decide, by decide, by decide⟩ vb_c vb_c))) (fun _ => ?_) (fun hlt => ?_)
      · refine rs_put (vb_var t0) (vb_var t2) u1 l5 (kvs' := bagL c ((at_ + 1 : Nat) : Int) cells[at_] mixed count) rfl ?_
        exact hD _ _ ⟨t0, t1, t3, at_ + 1, _, _, _, upd_same, fun y hy => by rw [upd_ne hy]; exact u2 y hy, hb, c0, b5, b6, b7⟩
      · have hlt := of_decide_eq_false hlt
        have p18 : ((10 : Int) ^ (18 : Int).toNat) = 1000000000000000000 := by decide
        rw [p18] at hlt
        have mm := Int.emod_nonneg (mixed * mixed + cells[at_] * 2654435761 + 131) (show (2305843009213693951 : Int) ≠ 0 by decide)
        have ml := Int.emod_lt_of_pos (mixed * mixed + cells[at_] * 2654435761 + 131) (show (0 : Int) < 2305843009213693951 by decide)
        refine rs_put (vb_var t0) (vb_mod (by decide) (vb_int (vb_add (vb_add (vb_mul (.inl ⟨by omega, by omega⟩) (vb_get (vb_var t0) u1 rfl) (vb_get (vb_var t0) u1 rfl)) (vb_mul (.inr ⟨by decide, by decide⟩) (vb_var t2) vb_c)) vb_c)) vb_c) u1 l5 (kvs' := bagL c ((at_ + 1 : Nat) : Int) big ((mixed * mixed + cells[at_] * 2654435761 + 131) % 2305843009213693951) count) rfl ?_
        exact hD _ _ ⟨t0, t1, t3, at_ + 1, _, _, _, upd_same, fun y hy => by rw [upd_ne hy]; exact u2 y hy, hb, b4, mm, by omega, b7⟩
    · exact rs_next (hD _ _ ⟨hs0, hs1, hlen, at_, big, mixed, count, hHa, fun _ _ => rfl, b1, b4, b5, b6, b7⟩)
  · rintro σ1 H1 ⟨t0, t1, t3, a1, g, x, k, f1, f2, f3, f4, f5, f6, f7⟩
    refine rs_cut (fun σ2 H2 => σ2 = σ1 ∧ H2 = H1) (fun D1 hD hR => ?_) ?_
    · refine rs_if (tb_test (vb_gt (vb_get (vb_var t0) f1 rfl) vb_c)) (fun _ => ?_) (fun _ => rs_next (hD _ _ ⟨rfl, rfl⟩))
      refine rs_seq (rs_asg (vb_mod m0 (vb_int (vb_get (vb_var t0) f1 rfl)) (vb_var t1)) ?_)
      have w0 : (σ1.set 3 (some (.int (g % m))))[0]? = some (some (.ref a)) := by rw [List.getElem?_set_ne (by decide)]; exact t0
      have w1 : (σ1.set 3 (some (.int (g % m))))[1]? = some (some (.int m)) := by rw [List.getElem?_set_ne (by decide)]; exact t1
      have w2 : (σ1.set 3 (some (.int (g % m))))[3]? = some (some (.int (g % m))) := by rw [List.getElem?_set_self (by omega)]
      refine rs_seq (rs_put (vb_var w0) (vb_div (wide_div (b := 64) m0 (by omega) (by decide) (by decide)) (vb_int (vb_get (vb_var w0) f1 rfl)) (vb_var w1)) f1 l5 (kvs' := bagL c a1 (g / m) x k) rfl ?_)
      refine rs_ret (vb_var w2) ?_
      show D1.rt _ _
      rw [hR]
      exact fin _ a1 (g / m) x k (g % m) upd_same (fun y hy => by rw [upd_ne hy]; exact f2 y hy) f3 (Int.ediv_nonneg f4 (by omega)) f5 f6 f7 (Int.emod_nonneg _ (by omega)) (Int.emod_lt_of_pos _ m0)
    · rintro σ2 H2 ⟨rfl, rfl⟩
      refine rs_seq (rs_put (vb_var t0) (vb_add (vb_get (vb_var t0) f1 rfl) vb_c) f1 l5 (kvs' := bagL c a1 g x (k + 1)) rfl ?_)
      have mm := Int.emod_nonneg (x * x + 2 * (k + 1) + 1) (show (2305843009213693951 : Int) ≠ 0 by decide)
      have ml := Int.emod_lt_of_pos (x * x + 2 * (k + 1) + 1) (show (0 : Int) < 2305843009213693951 by decide)
      have u1 : (upd H2 a (.dK (bagL c a1 g x (k + 1)))) a = some (.dK (bagL c a1 g x (k + 1))) := upd_same
      refine rs_seq (rs_put (vb_var t0) (vb_mod (by decide) (vb_int (vb_add (vb_add (vb_mul (.inl ⟨by omega, by omega⟩) (vb_get (vb_var t0) u1 rfl) (vb_get (vb_var t0) u1 rfl)) (vb_mul (.inl ⟨by decide, by decide⟩) vb_c (vb_get (vb_var t0) u1 rfl))) vb_c)) vb_c) u1 l5 (kvs' := bagL c a1 g ((x * x + 2 * (k + 1) + 1) % 2305843009213693951) (k + 1)) rfl ?_)
      have u2 : (upd (upd H2 a (.dK (bagL c a1 g x (k + 1)))) a (.dK (bagL c a1 g ((x * x + 2 * (k + 1) + 1) % 2305843009213693951) (k + 1)))) a = some (.dK (bagL c a1 g ((x * x + 2 * (k + 1) + 1) % 2305843009213693951) (k + 1))) := upd_same
      refine rs_ret (vb_mod m0 (vb_int (vb_div (wide_div (b := 64) (by decide) (by decide) (by decide) (by decide)) (vb_get (vb_var t0) u2 rfl) vb_c)) (vb_var t1)) ?_
      exact fin _ a1 g _ (k + 1) _ upd_same (fun y hy => by rw [upd_ne hy, upd_ne hy]; exact f2 y hy) f3 f4 mm (by omega) (by omega) (Int.emod_nonneg _ (by omega)) (Int.emod_lt_of_pos _ m0)

end

end K
end

section
set_option maxRecDepth 100000
set_option maxHeartbeats 4000000
namespace K
open PySem PySem.Spec PyProof.Rows L2 G

structure WOk (q : Rat) : Prop where
  nn : 0 ≤ q.num
  n1 : q.num ≤ 29
  d1 : q.den ≤ 6
structure OwnOk (r : ORow) : Prop where
  ne : r ≠ []
  len : r.length ≤ 3
  w1 : ∀ p ∈ r, 1 ≤ p.1
  w2 : ∀ p ∈ r, p.1 ≤ 5
  ok : ∀ p ∈ r, WOk p.2
theorem wok_div {n d : Int} (h0 : 0 ≤ n) (h1 : n ≤ 29) (h2 : 0 < d) (h3 : d ≤ 6) : WOk (Rat.divInt n d) where
  nn := by rw [divInt_num h2]; exact Int.ediv_nonneg h0 (by omega)
  n1 := by rw [divInt_num h2]; exact Int.le_trans (Int.ediv_le_self _ h0) h1
  d1 := by
    have := divInt_den (n := n) h2
    have h := Int.ediv_le_self (a := d) ((Nat.gcd n.natAbs d.natAbs : Nat) : Int) (by omega)
    omega
theorem wok_int {n : Int} (h0 : 0 ≤ n) (h1 : n ≤ 29) : WOk (n : Rat) := ⟨h0, h1, by show 1 ≤ 6; decide⟩
theorem LR.div {n d : Int} (h0 : 0 ≤ n) (h1 : n ≤ 29) (h2 : 0 < d) (h3 : d ≤ 6) : LR 5 (Rat.divInt n d) (.tup [.int n, .int d]) := by
  refine ⟨n, d, rfl, h2, ?_, Nat.lt_of_le_of_lt (show n.natAbs ≤ 29 by omega) (by decide), Nat.lt_of_le_of_lt (show d.natAbs ≤ 6 by omega) (by decide)⟩
  rw [Rat.divInt_eq_div]
  have : (0 : Rat) < (d : Rat) := Rat.intCast_pos.mpr h2
  grind
theorem keys2 {a b : D} : ([((.inr "rows" : Key), a), (.inr "all", b)].map (·.1)).Nodup := by
  show [(.inr "rows" : Key), .inr "all"].Nodup
  decide +kernel
def cellO (p : Int × Rat) : D := .lst [.int p.1, lowD p.2]
section
local macro_rules | `(tactic| walk_at "e") => `(tactic| first
  | ((with_reducible refine' ek_var ?h1 ?_); (case h1 => exact rfl))
  | (with_reducible refine ek_int ?_)
  | (with_reducible refine ek_bl ?_)
  | (with_reducible refine ek_non ?_)
  | (with_reducible refine ek_str ?_)
  | (with_reducible refine ek_ty ?_)
  | (with_reducible refine ek_cls ?_)
  | (with_reducible refine ek_ix ?_)
  | (with_reducible refine ek_un ?_)
  | (with_reducible refine ek_tup ?_)
  | (with_reducible refine k_call ?_)
  | (with_reducible refine ek_len ?_)
  | (with_reducible refine ek_tuple ?_)
  | (with_reducible refine ek_sum ?_)
  | (with_reducible refine ek_all ?_)
  | (with_reducible refine ek_any ?_)
  | (with_reducible refine ek_chain ?_)
  | (with_reducible refine ek_andV ?_)
  | (with_reducible refine ek_orV ?_)
  | (with_reducible refine ek_notV ?_)
  | (with_reducible refine ek_if ?_)
  | (with_reducible refine ek_ef (ef_lst ?_))
  | (with_reducible refine ek_ef (ef_list ?_))
  | (with_reducible refine ek_ef (ef_cat ?_))
  | (with_reducible refine ek_ef (ef_rep ?_))
  | (with_reducible refine ek_ef (ef_slice ?_))
  | (with_reducible refine ek_ef (ef_rev ?_))
  | (with_reducible refine ek_ef (ef_lstRev ?_))
  | (with_reducible refine ek_ef (ef_map ?_))
  | (with_reducible refine ek_ef (ef_filt ?_))
  | (with_reducible refine ef_lst ?_)
  | (with_reducible refine ef_list ?_)
  | (with_reducible refine ef_cat ?_)
  | (with_reducible refine ef_rep ?_)
  | (with_reducible refine ef_slice ?_)
  | (with_reducible refine ef_rev ?_)
  | (with_reducible refine ef_lstRev ?_)
  | (with_reducible refine ef_map ?_)
  | (with_reducible refine ef_filt ?_)
  | ((with_reducible refine' el_var ?h1 ?_); (case h1 => exact rfl))
  | ((with_reducible refine' el_own ?h1 ?_); (case h1 => exact rfl))
  | (with_reducible refine el_ef (ef_lst ?_))
  | (with_reducible refine el_ef (ef_list ?_))
  | (with_reducible refine el_ef (ef_cat ?_))
  | (with_reducible refine el_ef (ef_rep ?_))
  | (with_reducible refine el_ef (ef_slice ?_))
  | (with_reducible refine el_ef (ef_rev ?_))
  | (with_reducible refine el_ef (ef_lstRev ?_))
  | (with_reducible refine el_ef (ef_map ?_))
  | (with_reducible refine el_ef (ef_filt ?_))
  | (with_reducible refine ek_op ?_)
  | (with_reducible refine ek_cb ?_)
  | (with_reducible refine el_ek ?_)
  | (with_reducible refine tk_test ?_)
  | (with_reducible refine tk_B ?_)
  | (with_reducible refine tk_and ?_)
  | (with_reducible refine tk_or ?_)
  | (with_reducible refine tk_not ?_)
  | (with_reducible refine tk_yes ?_)
  | (with_reducible refine ak_nil ?_)
  | (with_reducible refine ak_cons ?_)
  | (with_reducible refine k_num (‹Tx _ _›) ?_)
  | (with_reducible refine k_den (‹Tx _ _›) ?_)
  | (with_reducible refine k_mk2 ?_)
  | (with_reducible refine k_mkO ?_)
  | (with_reducible refine k_rows (‹Tx _ _›) ?_)
  | (with_reducible refine k_mk1 ?_)
  | (with_reducible refine k_bel ?_)
  | (with_reducible refine k_own ?_)
  | (with_reducible refine rk_U2 (k_own ?_))
  | (with_reducible refine rk_mul (Sz.mul (by assumption) (by assumption)) ?_)
  | (with_reducible refine rk_U1 (rk_mul (Sz.mul (by assumption) (by assumption)) ?_))
  | (with_reducible refine ek_dget ?_)
  | (with_reducible refine uk_neg ?_)
  | (with_reducible refine ek_disp ?_)
  | (with_reducible refine pk_cons ?_)
  | (with_reducible refine pk_nil ?_)
  | (with_reducible refine rk_mod (by assumption) ?_)
  | (with_reducible refine rk_add ?_)
  | (with_reducible refine rk_sub ?_)
  | (with_reducible refine rk_lt ?_)
  | (with_reducible refine rk_le ?_)
  | (with_reducible refine rk_gt ?_)
  | (with_reducible refine rk_ge ?_)
  | (with_reducible refine rk_eqI ?_)
  | (with_reducible refine rk_neI ?_)
  | (with_reducible refine rk_isN ?_)
  | (with_reducible refine rk_notN ?_)
  | (with_reducible refine rk_U1 (rk_add ?_))
  | (with_reducible refine rk_U1 (rk_sub ?_))
  | (with_reducible refine ck_gcd ?_)
  | (with_reducible refine ck_abs ?_)
  | (with_reducible refine ck_int ?_)
  | (with_reducible refine ik_seq ?_)
  | (with_reducible refine ik_range1 ?_)
  | (with_reducible refine ik_range2 ?_)
  | (with_reducible refine ik_enumA ?_)
  | (with_reducible refine ik_zip ?_)
  | (with_reducible refine ik_rev ?_)
  | ((with_reducible refine' cg_name ?_ ?h1 ?h2); (case h1 => exact rfl); (case h2 => decide))
  | ((with_reducible refine' cg_anyT ?h1 ?_); (case h1 => exact rfl))
  | ((with_reducible refine' cg_anyL ?h1 ?_); (case h1 => exact rfl))
  | ((with_reducible refine' cg_anyK ?h1 ?_); (case h1 => exact rfl))
  | ((with_reducible refine' cgs_cons ?_ ?h1 ?h2); (case h1 => exact rfl); (case h2 => decide))
  | (with_reducible refine cgs_nil ?_)
  | ((with_reducible refine' gk_name ?_ ?h1); (case h1 => exact rfl))
  | ((with_reducible refine' gk_anyT ?h1 ?_); (case h1 => exact rfl))
  | ((with_reducible refine' gk_anyL ?h1 ?_); (case h1 => exact rfl))
  | ((with_reducible refine' gk_anyK ?h1 ?_); (case h1 => exact rfl))
  | ((with_reducible refine' gks_cons ?_ ?h1); (case h1 => exact rfl))
  | ((with_reducible refine' gks_consA (n := 0) ?_ ?h1 ?h2); (case h1 => exact rfl); (case h2 => exact rfl))
  | ((with_reducible refine' gks_consB ?h0 ?_ ?h1 ?h2); (case h0 => exact rfl); (case h1 => exact rfl); (case h2 => exact rfl))
  | (with_reducible refine gks_nil ?_)
  | (with_reducible refine ok_none ?_)
  | (with_reducible refine ok_some ?_))
local macro_rules | `(tactic| walk_at "s") => `(tactic| first
  | (with_reducible refine sx_guard ?_ ?_)
  | (with_reducible refine sx_seq ?_)
  | (with_reducible refine sx_ret ?_)
  | (with_reducible refine sx_if ?_)
  | (with_reducible refine sx_next ?_)
  | (with_reducible refine sx_break ?_)
  | (with_reducible refine sx_cont ?_)
  | ((with_reducible refine' sx_append ?h1 ?_); (case h1 => exact rfl))
  | ((with_reducible refine' sx_setI ?h1 ?_); (case h1 => exact rfl))
  | ((with_reducible refine' sx_set ?h1 ?_); (case h1 => exact rfl))
  | (with_reducible refine sx_asg ?_)
  | ((with_reducible refine' sx_par ?h1 ?h2 ?_); (case h1 => exact rfl); (case h2 => exact rfl))
  | (with_reducible refine sx_drop ?_)
  | ((with_reducible refine' k_fldS (‹Tx _ _›) ?h1 ?h2 ?h3 ?_); (case h1 => exact rfl); (case h2 => decide); (case h3 => exact rfl))
  | ((with_reducible refine' k_fldO (‹Tx _ _›) ?h1 ?h3 ?_); (case h1 => exact rfl); (case h3 => exact rfl)))
/-! plain existentials that the rules leave -/
local macro_rules | `(tactic| walk_at "x") => `(tactic| first
  | (with_reducible refine x_bl ?_)
  | (with_reducible refine x_int ?_)
  | (with_reducible refine x_frac ?_)
  | (with_reducible refine x_lst ?_)
  | (with_reducible refine x_off ?_)
  | (with_reducible refine x_low ?_)
  | (with_reducible refine x_ownR ?_)
  | (with_reducible refine x_ownA ?_)
  | (with_reducible refine x_tup ?_)
  | (with_reducible refine x_kd ?_)
  | (with_reducible refine x_oneL ?_)
  | (with_reducible refine x_oneT ?_)
  | (with_reducible refine x_one ?_)
  | ((with_reducible refine' x_at ?h1 ?_); (case h1 => exact rfl))
  | ((with_reducible refine' x_dic ?h1 ?_); (case h1 => exact rfl))
  | (with_reducible refine (⟨rfl, ?_⟩ : Kd.l = Kd.l ∧ _))
  | ((with_reducible refine' x_len ?h1 ?_); (case h1 => exact rfl))
  | ((with_reducible refine' br_t ?h1 ?_); (case h1 => exact rfl))
  | ((with_reducible refine' br_f ?h1 ?_); (case h1 => exact rfl)))
local macro_rules | `(tactic| walk_at "f") => `(tactic| first
  | ((with_reducible refine' sx_forW ?h1 ?_); (case h1 => exact rfl))
  | (with_reducible refine sx_forGW ?_))
local macro_rules | `(tactic| walk_at "g") => `(tactic| repeat (first | walk_at "s" | walk_at "f" | walk_at "e" | walk_at "x"))
local macro_rules | `(tactic| walk_at "v") => `(tactic| repeat (first | walk_at "e" | walk_at "x"))
local macro_rules | `(tactic| walk_at "h") => `(tactic| repeat (first | walk_at "s" | walk_at "e" | walk_at "x"))
variable {P : Program} {w : World} {K : PySem.W.Frag} {mg : Str → Option Value} {base : Heap}

def S__law_offer : List D → (D → Prop) → Prop := fun l K => l = [.pool] ∧ ∀ r : ORow, OwnOk r → K (ownD r)
theorem ok__law_offer (T : Tx K mg) (c__law_draw : Cal P w K mg base 1 "_law_draw" ["bag", "many"] (SpFam (CL K) S__law_draw)) (c__law_low : Cal P w K mg base 2 "_law_low" ["x"] (SpFam (CL K) S__law_low)) : Cal P w K mg base 3 "_law_offer" ["bag"] (SpFam (CL K) S__law_offer) := by
  refine cal_mkF (N := ["bag", "rows", "k", "worth", "row"]) T.g__law_offer T.d__law_offer sc__law_offer (fun _ _ _ _ _ _ us hl => match us, hl with | [_], _ => rfl) (by intro l Q h; first | (obtain ⟨rfl, _⟩ := h; rfl) | (obtain ⟨_, rfl, _⟩ := h; rfl) | (obtain ⟨_, _, rfl, _⟩ := h; rfl) | (obtain ⟨_, _, _, rfl, _⟩ := h; rfl) | (obtain ⟨_, _, _, _, rfl, _⟩ := h; rfl) | (obtain ⟨_, _, _, _, _, rfl, _⟩ := h; rfl) | (obtain ⟨_, _, _, _, _, _, rfl, _⟩ := h; rfl) | (obtain ⟨_, _, _, _, _, _, _, rfl, _⟩ := h; rfl) | (obtain ⟨_, _, _, _, _, _, _, _, rfl, _⟩ := h; rfl) | (obtain ⟨_, _, _, _, _, _, _, _, _, rfl, _⟩ := h; rfl) | (obtain ⟨_, _, _, _, _, _, _, _, _, _, rfl, _⟩ := h; rfl) | (obtain ⟨_, _, _, _, _, _, _, _, _, _, _, rfl, _⟩ := h; rfl)) (fun f cdv A outer s H E hr => ⟨_, (pss_cons (ps_set (i := 1) sc__law_offer.nd rfl (by first | exact Or.inl rfl | exact Or.inr rfl) (pe_lst pa_nil)) (pss_cons (ps_for PassesOwn.never rfl (pi_range1 (by rfl) T.b_range (pa_cons (pe_op op_addI pe_int (pe_calC c__law_draw hr (by decide) (by rfl) (pa_cons (pv 0) (pa_cons pe_int pa_nil)))) pa_nil)) (pg_name (i := 2) sc__law_offer.nd rfl (by first | exact Or.inl rfl | exact Or.inr rfl)) (pss_cons (ps_set (i := 3) sc__law_offer.nd rfl (by first | exact Or.inl rfl | exact Or.inr rfl) (pe_tup (pa_cons (pe_calC c__law_draw hr (by decide) (by rfl) (pa_cons (pv 0) (pa_cons pe_int pa_nil))) (pa_cons pe_int pa_nil)))) (pss_cons (ps_if (pt_cmpR op_eq (pe_calC c__law_draw hr (by decide) (by rfl) (pa_cons (pv 0) (pa_cons pe_int pa_nil))) pe_int (nomark _)) (pss_one (ps_set (i := 3) sc__law_offer.nd rfl (by first | exact Or.inl rfl | exact Or.inr rfl) (pe_calC c__law_low hr (by decide) (by rfl) (pa_cons (pe_tup (pa_cons (pe_calC c__law_draw hr (by decide) (by rfl) (pa_cons (pv 0) (pa_cons pe_int pa_nil))) (pa_cons (pe_op op_addI pe_int (pe_calC c__law_draw hr (by decide) (by rfl) (pa_cons (pv 0) (pa_cons pe_int pa_nil)))) pa_nil))) pa_nil)))) pss_nil) (pss_one (ps_expr (pe_bm PySem.F.plainAttrs_list PySem.F.slot_list_append PySem.F.type_list_append mt_append (pv 1) (pa_cons (pe_lst (pa_cons (pe_op op_addI pe_int (pe_calC c__law_draw hr (by decide) (by rfl) (pa_cons (pv 0) (pa_cons pe_int pa_nil)))) (pa_cons (pv 3) pa_nil))) pa_nil))))))) (pss_one (ps_ret (pe_disp (pps_cons pe_str (pv 1) (pps_cons pe_str (pe_callB (cr_sumK K rfl rfl) (by rfl) T.b_sum (by decide +kernel) (pa_cons (pe_lc (own := [("row", 4)]) (g := gName 4) (tt := tYes) rfl sc__law_offer.nd (pi_seqK K rfl (pv 1)) (blkOk_by (own := [("row", 4)]) (N := ["bag", "rows", "k", "worth", "row"]) (sc := defScope s__law_offer) (by decide +kernel)) (fun _ _ _ _ _ => (pg_name (i := 4) sc__law_offer.nd rfl (by first | exact Or.inl rfl | exact Or.inr rfl))) (fun _ _ _ _ _ => pts_nil) (fun _ _ _ _ _ => (pe_ix (ix_seqK K rfl) (pv 4) pe_int (fun _ _ => rfl)))) pa_nil)) pps_nil)) (by rfl) (by rfl) (fun z => by cases z) (by decide)))))), ?_⟩)
  intro nn B l Q h
  obtain ⟨rfl, h⟩ := h
  refine sx_seq ?_
  refine' sx_setO ?h1 ?_
  case h1 => exact rfl
  walk_at "e"
  walk_at "e"
  refine ⟨by decide, ?_⟩
  refine sx_seq ?_
  refine sx_forGS ?_
  walk_at "h"
  refine ⟨3, rfl, by decide, by decide, fun m hm0 hm1 => ?_⟩
  walk_at "h"
  refine ⟨1 + m, rfl, by omega, by omega, ?_⟩
  obtain ⟨n, hn⟩ : ∃ n : Nat, 1 + m = (n : Int) := ⟨(1 + m).toNat, by omega⟩
  rw [hn]
  refine ⟨Nat, List.range n, _, ORow, fun j s => [.d .pool, .own (s.map cellO), .no, .no, .no], fun j s => s.length = j ∧ ∀ p ∈ s, 1 ≤ p.1 ∧ p.1 ≤ 5 ∧ WOk p.2, rng1', ⟨[], ⟨rfl, fun _ h => nomatch h⟩, Wk.refl⟩, fun B' j x s hx hs => ?_, fun Γ' s hs w => sx_weak w ?_⟩
  · obtain ⟨hs1, hs2⟩ := hs
    obtain ⟨rfl, hxn⟩ := rng_get' hx
    walk_at "h"
    refine ⟨9, rfl, by decide, by decide, fun a ha0 ha1 => ?_⟩
    walk_at "v"
    refine sx_cut (fun Γ' => ∃ q, WOk q ∧ Wk Γ' [.d .pool, .own (s.map cellO), .no, .d (lowD q), .no]) ?_ ?_
    · walk_at "h"
      refine ⟨3, rfl, by decide, by decide, fun b hb0 hb1 => ?_⟩
      walk_at "h"
      refine br_p (fun _ => ?_) (fun _ => ?_)
      · walk_at "h"
        refine ⟨30, rfl, by decide, by decide, fun c hc0 hc1 => ?_⟩
        walk_at "h"
        refine ⟨6, rfl, by decide, by decide, fun d hd0 hd1 => ?_⟩
        walk_at "h"
        refine ⟨_, _, _, rfl, LR.div hc0 (by omega) (by omega) (by omega), by decide, ?_⟩
        walk_at "h"
        exact ⟨_, wok_div hc0 (by omega) (by omega) (by omega), .same (.same (.no (.same (.same .nil))))⟩
      · walk_at "h"
        exact ⟨(a : Rat), wok_int ha0 (by omega), .same (.same (.no (.same (.same .nil))))⟩
    · rintro Γ' ⟨q, hq, w⟩
      refine sx_weak w ?_
      walk_at "h"
      refine ⟨5, rfl, by decide, by decide, fun b hb0 hb1 => ?_⟩
      walk_at "h"
      refine ⟨small1000 (by simp; omega), ?_⟩
      refine ⟨s ++ [(1 + b, q)], ⟨by simp [hs1], fun p hp => ?_⟩, ?_⟩
      · rcases List.mem_append.mp hp with hp | hp
        · exact hs2 p hp
        · cases List.mem_singleton.mp hp
          exact ⟨by show 1 ≤ 1 + b; omega, by show 1 + b ≤ 5; omega, hq⟩
      · show Wk _ [_, .own ((s ++ [(1 + b, q)]).map cellO), .no, .no, .no]
        rw [List.map_append]
        exact .same (.same (.no (.no (.no .nil))))
  · dsimp only at hs ⊢
    rw [List.length_range] at hs
    refine sx_freeze 1 rfl ?_
    walk_at "h"
    refine ⟨Int × Rat, s, cellO, fun p => .int p.1, rfl, Nat.le_of_lt (small1000 (by omega)), fun W1 p hp => ?_, ?_⟩
    · unfold cellO
      walk_at "h"
      rfl
    refine ⟨rfl, s.map (·.1), by rw [List.map_map]; rfl, ?_⟩
    walk_at "h"
    refine ⟨keys2, by show 2 ≤ 15; decide, ?_⟩
    exact h s ⟨by intro z; subst z; simp at hs; omega, by omega, fun p hp => (hs.2 p hp).1, fun p hp => (hs.2 p hp).2.1, fun p hp => (hs.2 p hp).2.2⟩

def S__law_offered : List D → (D → Prop) → Prop := fun l K => ∃ rs : List ORow, l = [.pool, .lst (rs.map ownD)] ∧ (∀ r ∈ rs, OwnOk r) ∧ rs.length ≤ 6 ∧ ∀ (k : Kd) (rws : List Raw), rws.map Raw.row = rs → (∀ r ∈ rws, r.Ok) → K (Kd.d k (rws.map Raw.d))
theorem ok__law_offered (T : Tx K mg) (m_Frac2 : CalM P w K mg base 2 "Frac" [] (SpFamI (CL K) (He.ga K "Frac") S_FracD_initD)) (c__law_draw : Cal P w K mg base 1 "_law_draw" ["bag", "many"] (SpFam (CL K) S__law_draw)) : Cal P w K mg base 4 "_law_offered" ["bag", "offers"] (SpFam (CL K) S__law_offered) := by
  refine cal_mkF (N := ["bag", "offers", "found", "offer", "rows", "weight", "worth", "value", "row"]) T.g__law_offered T.d__law_offered sc__law_offered (fun _ _ _ _ _ _ us hl => match us, hl with | [_, _], _ => rfl) (by intro l Q h; first | (obtain ⟨rfl, _⟩ := h; rfl) | (obtain ⟨_, rfl, _⟩ := h; rfl) | (obtain ⟨_, _, rfl, _⟩ := h; rfl) | (obtain ⟨_, _, _, rfl, _⟩ := h; rfl) | (obtain ⟨_, _, _, _, rfl, _⟩ := h; rfl) | (obtain ⟨_, _, _, _, _, rfl, _⟩ := h; rfl) | (obtain ⟨_, _, _, _, _, _, rfl, _⟩ := h; rfl) | (obtain ⟨_, _, _, _, _, _, _, rfl, _⟩ := h; rfl) | (obtain ⟨_, _, _, _, _, _, _, _, rfl, _⟩ := h; rfl) | (obtain ⟨_, _, _, _, _, _, _, _, _, rfl, _⟩ := h; rfl) | (obtain ⟨_, _, _, _, _, _, _, _, _, _, rfl, _⟩ := h; rfl) | (obtain ⟨_, _, _, _, _, _, _, _, _, _, _, rfl, _⟩ := h; rfl)) (fun f cdv A outer s H E hr => ⟨_, (pss_cons (ps_set (i := 2) sc__law_offered.nd rfl (by first | exact Or.inl rfl | exact Or.inr rfl) (pe_lst pa_nil)) (pss_cons (ps_for PassesOwn.never rfl (pi_seqK K rfl (pv 1)) (pg_name (i := 3) sc__law_offered.nd rfl (by first | exact Or.inl rfl | exact Or.inr rfl)) (pss_cons (ps_set (i := 4) sc__law_offered.nd rfl (by first | exact Or.inl rfl | exact Or.inr rfl) (pe_lst pa_nil)) (pss_cons (ps_for PassesOwn.never rfl (pi_seqK K rfl (pe_dget (hu_of hr) (pv 3) pe_str (fun _ _ => rfl))) (pg_anyK K rfl rfl (pgs_cons (pg_name (i := 5) sc__law_offered.nd rfl (by first | exact Or.inl rfl | exact Or.inr rfl)) (pgs_cons (pg_name (i := 6) sc__law_offered.nd rfl (by first | exact Or.inl rfl | exact Or.inr rfl)) pgs_nil))) (pss_cons (ps_set (i := 7) sc__law_offered.nd rfl (by first | exact Or.inl rfl | exact Or.inr rfl) (pe_mkK K rfl m_Frac2 hr (by decide) (by rfl) (pa_cons (pe_ix (ix_seqK K rfl) (pv 6) pe_int (fun _ _ => rfl)) (pa_cons (pe_ix (ix_seqK K rfl) (pv 6) pe_int (fun _ _ => rfl)) pa_nil)))) (pss_cons (ps_if (PW.pt (pw_and (pt_cmpR op_eq (pe_ix (ix_seqK K rfl) (pv 6) pe_int (fun _ _ => rfl)) pe_int (nomark _)) (pw_and1 (pt_cmpR op_eq (pe_calC c__law_draw hr (by decide) (by rfl) (pa_cons (pv 0) (pa_cons pe_int pa_nil))) pe_int (nomark _))))) (pss_one (ps_set (i := 7) sc__law_offered.nd rfl (by first | exact Or.inl rfl | exact Or.inr rfl) (pe_ix (ix_seqK K rfl) (pv 6) pe_int (fun _ _ => rfl)))) pss_nil) (pss_one (ps_expr (pe_bm PySem.F.plainAttrs_list PySem.F.slot_list_append PySem.F.type_list_append mt_append (pv 4) (pa_cons (pe_lst (pa_cons (pv 5) (pa_cons (pv 7) pa_nil))) pa_nil))))))) (pss_cons (ps_if (pt_cmpR op_eq (pe_calC c__law_draw hr (by decide) (by rfl) (pa_cons (pv 0) (pa_cons pe_int pa_nil))) pe_int (nomark _)) (pss_one (ps_set (i := 4) sc__law_offered.nd rfl (by first | exact Or.inl rfl | exact Or.inr rfl) (pe_callTy (cr_tupK K rfl) (by rfl) T.b_tuple (by decide +kernel) (pa_cons (pe_lc (own := [("row", 8)]) (g := gName 8) (tt := tYes) rfl sc__law_offered.nd (pi_seqK K rfl (pv 4)) (blkOk_by (own := [("row", 8)]) (N := ["bag", "offers", "found", "offer", "rows", "weight", "worth", "value", "row"]) (sc := defScope s__law_offered) (by decide +kernel)) (fun _ _ _ _ _ => (pg_name (i := 8) sc__law_offered.nd rfl (by first | exact Or.inl rfl | exact Or.inr rfl))) (fun _ _ _ _ _ => pts_nil) (fun _ _ _ _ _ => (pe_callTy (cr_tupK K rfl) (by rfl) T.b_tuple (by decide +kernel) (pa_cons (pv 8) pa_nil)))) pa_nil)))) pss_nil) (pss_one (ps_expr (pe_bm PySem.F.plainAttrs_list PySem.F.slot_list_append PySem.F.type_list_append mt_append (pv 2) (pa_cons (pv 4) pa_nil)))))))) (pss_cons (ps_if (pt_cmpR op_eq (pe_calC c__law_draw hr (by decide) (by rfl) (pa_cons (pv 0) (pa_cons pe_int pa_nil))) pe_int (nomark _)) (pss_one (ps_ret (pe_callTy (cr_tupK K rfl) (by rfl) T.b_tuple (by decide +kernel) (pa_cons (pv 2) pa_nil)))) pss_nil) (pss_one (ps_ret (pv 2)))))), ?_⟩)
  intro nn B l Q h
  obtain ⟨rs, rfl, ok, hl, h⟩ := h
  refine sx_seq ?_
  refine' sx_setO ?h1 ?_
  case h1 => exact rfl
  walk_at "v"
  refine sx_seq ?_
  refine sx_forGS ?_
  walk_at "h"
  refine ⟨ORow, rs, ownD, List Raw, fun j s => [.d .pool, .d (.lst (rs.map ownD)), .own (s.map Raw.d), .no, .no, .no, .no, .no, .no], fun j s => s.map Raw.row = rs.take j ∧ ∀ r ∈ s, r.Ok, rfl, ⟨[], ⟨by simp, fun _ h => nomatch h⟩, Wk.refl⟩, fun B' j r s hx hs => ?_, fun Γ' s hs w => sx_weak w ?_⟩
  · obtain ⟨hs1, hs2⟩ := hs
    have okr := ok r (List.mem_of_getElem? hx)
    have hlr := okr.len
    have hsl : s.length ≤ 6 := by have := congrArg List.length hs1; rw [List.length_map, List.length_take] at this; omega
    walk_at "v"
    refine sx_seq ?_
    refine' sx_setO ?h1 ?_
    case h1 => exact rfl
    walk_at "v"
    refine sx_seq ?_
    refine sx_forGS ?_
    walk_at "h"
    refine ⟨Int × Rat, r, _, List Cell, fun i cs => [.d .pool, .d (.lst (rs.map ownD)), .own (s.map Raw.d), .d (ownD r), .own (cs.map Cell.d), .no, .no, .no, .no], fun i cs => cs.map (fun c => (c.w, c.q)) = r.take i ∧ ∀ c ∈ cs, c.Ok, rfl, ⟨[], ⟨by simp, fun _ h => nomatch h⟩, Wk.refl⟩, fun B'' i p cs hp hcs => ?_, fun Γ' cs hcs w => sx_weak w ?_⟩
    · obtain ⟨hc1, hc2⟩ := hcs
      have hp' := List.mem_of_getElem? hp
      have wok := okr.ok p hp'
      have hcl : cs.length ≤ 3 := by have := congrArg List.length hc1; rw [List.length_map, List.length_take] at this; omega
      walk_at "h"
      refine ⟨_, _, rfl, by have := p.2.den_pos; omega, Nat.lt_of_le_of_lt (show ((p.2.den : Nat) : Int).natAbs ≤ 6 by have := wok.d1; omega) (Nat.lt_of_lt_of_le (by decide : 6 < 2 ^ 10) (Nat.pow_le_pow_right (by decide) (by decide))), p.2, by rw [Rat.num_divInt_den], ?_⟩
      walk_at "v"
      refine sx_cut (fun Γ' => ∃ x, AmtD x p.2 ∧ Wk Γ' [.d .pool, .d (.lst (rs.map ownD)), .own (s.map Raw.d), .d (ownD r), .own (cs.map Cell.d), .d (.int p.1), .no, .d x, .no]) ?_ ?_
      · walk_at "h"
        refine br_p (fun hd => ?_) (fun _ => ?_)
        · walk_at "h"
          refine ⟨2, rfl, by decide, by decide, fun a ha0 ha1 => ?_⟩
          walk_at "h"
          refine br_p (fun _ => ?_) (fun _ => ?_)
          · walk_at "h"
            refine ⟨.int p.2.num, .inl ⟨p.2.num, rfl, ?_⟩, .same (.same (.same (.same (.same (.same (.no (.same (.same .nil))))))))⟩
            have := num_mul p.2
            rw [hd] at this
            rw [this]; grind
          · walk_at "h"
            exact ⟨.frac p.2, .inr rfl, .same (.same (.same (.same (.same (.same (.no (.same (.same .nil))))))))⟩
        · walk_at "h"
          exact ⟨.frac p.2, .inr rfl, .same (.same (.same (.same (.same (.same (.no (.same (.same .nil))))))))⟩
      · rintro Γ' ⟨x, hx, w⟩
        refine sx_weak w ?_
        walk_at "h"
        refine ⟨small1000 (by simp; omega), ?_⟩
        refine ⟨cs ++ [⟨.l, x, p.1, p.2⟩], ⟨?_, fun c hc => ?_⟩, ?_⟩
        · rw [List.map_append, hc1, List.take_succ, hp]; rfl
        · rcases List.mem_append.mp hc with hc | hc
          · exact hc2 c hc
          · cases List.mem_singleton.mp hc
            exact ⟨hx, okr.w1 p hp', by have := okr.w2 p hp'; show p.1 ≤ 99; omega, wok.nn, by have := wok.n1; show p.2.num ≤ 9999; omega, by have := wok.d1; show p.2.den ≤ 99; omega⟩
        · show Wk _ [_, _, _, _, .own ((cs ++ [(⟨.l, x, p.1, p.2⟩ : Cell)]).map Cell.d), .no, .no, .no, .no]
          rw [List.map_append]
          exact .same (.same (.same (.same (.same (.no (.no (.no (.no .nil))))))))
    · dsimp only at hcs ⊢
      rw [List.take_length] at hcs
      obtain ⟨hc1, hc2⟩ := hcs
      have hcl : cs.length = r.length := by have := congrArg List.length hc1; rwa [List.length_map] at this
      have hrl : 1 ≤ r.length := List.length_pos_iff.mpr okr.ne
      refine sx_freeze 4 rfl ?_
      refine sx_cut (fun Γ' => ∃ raw : Raw, raw.row = r ∧ raw.Ok ∧ Wk Γ' [.d .pool, .d (.lst (rs.map ownD)), .own (s.map Raw.d), .no, .d raw.d, .no, .no, .no, .no]) ?_ ?_
      · walk_at "h"
        refine ⟨2, rfl, by decide, by decide, fun a ha0 ha1 => ?_⟩
        walk_at "h"
        refine br_p (fun _ => ?_) (fun _ => ?_)
        · walk_at "h"
          refine ⟨Cell, cs, Cell.d, fun c => .tup [.int c.w, c.x], rfl, Nat.le_of_lt (small1000 (by omega)), fun W1 c hc => ?_, ?_⟩
          · unfold Cell.d
            walk_at "h"
            rfl
          · walk_at "h"
            refine ⟨⟨.t, cs.map fun c => ⟨.t, c.x, c.w, c.q⟩⟩, ?_, ⟨by simp; omega, by simp; omega, fun c hc => ?_⟩, ?_⟩
            · unfold Raw.row; rw [List.map_map]; exact hc1
            · obtain ⟨c', hc', rfl⟩ := List.mem_map.mp hc
              have := hc2 c' hc'
              exact ⟨this.a, this.w1, this.w2, this.n0, this.n1, this.d1⟩
            · show Wk _ [_, _, _, .no, .d (.tup ((cs.map fun c => (⟨.t, c.x, c.w, c.q⟩ : Cell)).map Cell.d)), .no, .no, .no, .no]
              rw [List.map_map]
              exact .same (.same (.same (.no (.same (.no (.no (.no (.no .nil))))))))
        · walk_at "h"
          exact ⟨⟨.l, cs⟩, hc1, ⟨by simp; omega, by simp; omega, hc2⟩, .same (.same (.same (.no (.same (.no (.no (.no (.no .nil))))))))⟩
      · rintro Γ' ⟨raw, hr1, hr2, w⟩
        refine sx_weak w ?_
        walk_at "h"
        refine ⟨small1000 (by simp; omega), ?_⟩
        refine ⟨s ++ [raw], ⟨?_, fun q hq => ?_⟩, ?_⟩
        · rw [List.map_append, hs1, List.take_succ, hx, List.map_cons, hr1]; rfl
        · rcases List.mem_append.mp hq with hq | hq
          · exact hs2 q hq
          · cases List.mem_singleton.mp hq
            exact hr2
        · show Wk _ [_, _, .own ((s ++ [raw]).map Raw.d), .no, .no, .no, .no, .no, .no]
          rw [List.map_append]
          exact .same (.same (.same (.no (.no (.no (.no (.no (.no .nil))))))))
  · dsimp only at hs ⊢
    rw [List.take_length] at hs
    refine sx_freeze 2 rfl ?_
    walk_at "h"
    refine ⟨2, rfl, by decide, by decide, fun a ha0 ha1 => ?_⟩
    walk_at "h"
    refine br_p (fun _ => ?_) (fun _ => ?_)
    · walk_at "h"
      exact h .t s hs.1 hs.2
    · walk_at "h"
      exact h .l s hs.1 hs.2

end

end K
end

section
set_option maxRecDepth 100000
set_option maxHeartbeats 4000000
namespace K
open PySem PySem.Spec PyProof.Rows L2 G

def tabG (m n : Nat) (G : Nat → Nat → Rat) : D := .lst ((List.range m).map fun i => .lst (vecL (G i) n))
def zipC : List Addr → List (List D) → List (Addr × List D)
  | a :: as, l :: ls => (a, l) :: zipC as ls
  | _, _ => []
theorem zipC_app : ∀ {as : List Addr} {ls : List (List D)} {a : Addr} {l : List D}, as.length = ls.length → zipC (as ++ [a]) (ls ++ [l]) = zipC as ls ++ [(a, l)]
  | [], [], _, _, _ => rfl
  | [], _ :: _, _, _, h => by cases h
  | _ :: _, [], _, _, h => by cases h
  | b :: as, m :: ls, a, l, h => by
    show (b, m) :: zipC (as ++ [a]) (ls ++ [l]) = _
    rw [zipC_app (by simpa using h)]; rfl
theorem big_den {q : Rat} (h : SzQ q) : ((q.den : Nat) : Int).natAbs < 2 ^ 9000 := Nat.lt_of_lt_of_le h.2 (Nat.pow_le_pow_right (by decide) (by decide))
section
local macro_rules | `(tactic| walk_at "e") => `(tactic| first
  | ((with_reducible refine' ek_var ?h1 ?_); (case h1 => exact rfl))
  | (with_reducible refine ek_int ?_)
  | (with_reducible refine ek_bl ?_)
  | (with_reducible refine ek_non ?_)
  | (with_reducible refine ek_str ?_)
  | (with_reducible refine ek_ty ?_)
  | (with_reducible refine ek_cls ?_)
  | (with_reducible refine ek_ix ?_)
  | (with_reducible refine ek_un ?_)
  | (with_reducible refine ek_tup ?_)
  | (with_reducible refine k_call ?_)
  | (with_reducible refine ek_len ?_)
  | (with_reducible refine ek_tuple ?_)
  | (with_reducible refine ek_sum ?_)
  | (with_reducible refine ek_all ?_)
  | (with_reducible refine ek_any ?_)
  | (with_reducible refine ek_chain ?_)
  | (with_reducible refine ek_andV ?_)
  | (with_reducible refine ek_orV ?_)
  | (with_reducible refine ek_notV ?_)
  | (with_reducible refine ek_if ?_)
  | (with_reducible refine ek_ef (ef_lst ?_))
  | (with_reducible refine ek_ef (ef_list ?_))
  | (with_reducible refine ek_ef (ef_cat ?_))
  | (with_reducible refine ek_ef (ef_rep ?_))
  | (with_reducible refine ek_ef (ef_slice ?_))
  | (with_reducible refine ek_ef (ef_rev ?_))
  | (with_reducible refine ek_ef (ef_lstRev ?_))
  | (with_reducible refine ek_ef (ef_map ?_))
  | (with_reducible refine ek_ef (ef_filt ?_))
  | (with_reducible refine ef_lst ?_)
  | (with_reducible refine ef_list ?_)
  | (with_reducible refine ef_cat ?_)
  | (with_reducible refine ef_rep ?_)
  | (with_reducible refine ef_slice ?_)
  | (with_reducible refine ef_rev ?_)
  | (with_reducible refine ef_lstRev ?_)
  | (with_reducible refine ef_map ?_)
  | (with_reducible refine ef_filt ?_)
  | ((with_reducible refine' el_var ?h1 ?_); (case h1 => exact rfl))
  | ((with_reducible refine' el_own ?h1 ?_); (case h1 => exact rfl))
  | (with_reducible refine el_ef (ef_lst ?_))
  | (with_reducible refine el_ef (ef_list ?_))
  | (with_reducible refine el_ef (ef_cat ?_))
  | (with_reducible refine el_ef (ef_rep ?_))
  | (with_reducible refine el_ef (ef_slice ?_))
  | (with_reducible refine el_ef (ef_rev ?_))
  | (with_reducible refine el_ef (ef_lstRev ?_))
  | (with_reducible refine el_ef (ef_map ?_))
  | (with_reducible refine el_ef (ef_filt ?_))
  | (with_reducible refine ek_op ?_)
  | (with_reducible refine ek_cb ?_)
  | (with_reducible refine el_ek ?_)
  | (with_reducible refine tk_test ?_)
  | (with_reducible refine tk_B ?_)
  | (with_reducible refine tk_and ?_)
  | (with_reducible refine tk_or ?_)
  | (with_reducible refine tk_not ?_)
  | (with_reducible refine tk_yes ?_)
  | (with_reducible refine ak_nil ?_)
  | (with_reducible refine ak_cons ?_)
  | (with_reducible refine k_num (‹Tx _ _›) ?_)
  | (with_reducible refine k_den (‹Tx _ _›) ?_)
  | (with_reducible refine k_mk2 ?_)
  | (with_reducible refine k_mkO ?_)
  | (with_reducible refine k_rows (‹Tx _ _›) ?_)
  | (with_reducible refine k_mk1 ?_)
  | (with_reducible refine k_bel ?_)
  | (with_reducible refine k_own ?_)
  | (with_reducible refine rk_U2 (k_own ?_))
  | (with_reducible refine rk_mul (Sz.mul (by assumption) (by assumption)) ?_)
  | (with_reducible refine rk_U1 (rk_mul (Sz.mul (by assumption) (by assumption)) ?_))
  | (with_reducible refine ek_dget ?_)
  | (with_reducible refine uk_neg ?_)
  | (with_reducible refine ek_disp ?_)
  | (with_reducible refine pk_cons ?_)
  | (with_reducible refine pk_nil ?_)
  | (with_reducible refine rk_mod (by assumption) ?_)
  | (with_reducible refine rk_add ?_)
  | (with_reducible refine rk_sub ?_)
  | (with_reducible refine rk_lt ?_)
  | (with_reducible refine rk_le ?_)
  | (with_reducible refine rk_gt ?_)
  | (with_reducible refine rk_ge ?_)
  | (with_reducible refine rk_eqI ?_)
  | (with_reducible refine rk_neI ?_)
  | (with_reducible refine rk_isN ?_)
  | (with_reducible refine rk_notN ?_)
  | (with_reducible refine rk_U1 (rk_add ?_))
  | (with_reducible refine rk_U1 (rk_sub ?_))
  | (with_reducible refine ck_gcd ?_)
  | (with_reducible refine ck_abs ?_)
  | (with_reducible refine ck_int ?_)
  | (with_reducible refine ik_seq ?_)
  | (with_reducible refine ik_range1 ?_)
  | (with_reducible refine ik_range2 ?_)
  | (with_reducible refine ik_enumA ?_)
  | (with_reducible refine ik_zip ?_)
  | (with_reducible refine ik_rev ?_)
  | ((with_reducible refine' cg_name ?_ ?h1 ?h2); (case h1 => exact rfl); (case h2 => decide))
  | ((with_reducible refine' cg_anyT ?h1 ?_); (case h1 => exact rfl))
  | ((with_reducible refine' cg_anyL ?h1 ?_); (case h1 => exact rfl))
  | ((with_reducible refine' cg_anyK ?h1 ?_); (case h1 => exact rfl))
  | ((with_reducible refine' cgs_cons ?_ ?h1 ?h2); (case h1 => exact rfl); (case h2 => decide))
  | (with_reducible refine cgs_nil ?_)
  | ((with_reducible refine' gk_name ?_ ?h1); (case h1 => exact rfl))
  | ((with_reducible refine' gk_anyT ?h1 ?_); (case h1 => exact rfl))
  | ((with_reducible refine' gk_anyL ?h1 ?_); (case h1 => exact rfl))
  | ((with_reducible refine' gk_anyK ?h1 ?_); (case h1 => exact rfl))
  | ((with_reducible refine' gks_cons ?_ ?h1); (case h1 => exact rfl))
  | ((with_reducible refine' gks_consA (n := 0) ?_ ?h1 ?h2); (case h1 => exact rfl); (case h2 => exact rfl))
  | ((with_reducible refine' gks_consB ?h0 ?_ ?h1 ?h2); (case h0 => exact rfl); (case h1 => exact rfl); (case h2 => exact rfl))
  | (with_reducible refine gks_nil ?_)
  | (with_reducible refine ok_none ?_)
  | (with_reducible refine ok_some ?_))
local macro_rules | `(tactic| walk_at "s") => `(tactic| first
  | (with_reducible refine sx_guard ?_ ?_)
  | (with_reducible refine sx_seq ?_)
  | (with_reducible refine sx_ret ?_)
  | (with_reducible refine sx_if ?_)
  | (with_reducible refine sx_next ?_)
  | (with_reducible refine sx_break ?_)
  | (with_reducible refine sx_cont ?_)
  | ((with_reducible refine' sx_append ?h1 ?_); (case h1 => exact rfl))
  | ((with_reducible refine' sx_setI ?h1 ?_); (case h1 => exact rfl))
  | ((with_reducible refine' sx_set ?h1 ?_); (case h1 => exact rfl))
  | (with_reducible refine sx_asg ?_)
  | ((with_reducible refine' sx_par ?h1 ?h2 ?_); (case h1 => exact rfl); (case h2 => exact rfl))
  | (with_reducible refine sx_drop ?_)
  | ((with_reducible refine' k_fldS (‹Tx _ _›) ?h1 ?h2 ?h3 ?_); (case h1 => exact rfl); (case h2 => decide); (case h3 => exact rfl))
  | ((with_reducible refine' k_fldO (‹Tx _ _›) ?h1 ?h3 ?_); (case h1 => exact rfl); (case h3 => exact rfl)))
/-! plain existentials that the rules leave -/
local macro_rules | `(tactic| walk_at "x") => `(tactic| first
  | (with_reducible refine x_bl ?_)
  | (with_reducible refine x_int ?_)
  | (with_reducible refine x_frac ?_)
  | (with_reducible refine x_lst ?_)
  | (with_reducible refine x_off ?_)
  | (with_reducible refine x_low ?_)
  | (with_reducible refine x_ownR ?_)
  | (with_reducible refine x_ownA ?_)
  | (with_reducible refine x_tup ?_)
  | (with_reducible refine x_kd ?_)
  | (with_reducible refine x_oneL ?_)
  | (with_reducible refine x_oneT ?_)
  | (with_reducible refine x_one ?_)
  | ((with_reducible refine' x_at ?h1 ?_); (case h1 => exact rfl))
  | ((with_reducible refine' x_dic ?h1 ?_); (case h1 => exact rfl))
  | (with_reducible refine (⟨rfl, ?_⟩ : Kd.l = Kd.l ∧ _))
  | ((with_reducible refine' x_len ?h1 ?_); (case h1 => exact rfl))
  | ((with_reducible refine' br_t ?h1 ?_); (case h1 => exact rfl))
  | ((with_reducible refine' br_f ?h1 ?_); (case h1 => exact rfl)))
local macro_rules | `(tactic| walk_at "f") => `(tactic| first
  | ((with_reducible refine' sx_forW ?h1 ?_); (case h1 => exact rfl))
  | (with_reducible refine sx_forGW ?_))
local macro_rules | `(tactic| walk_at "g") => `(tactic| repeat (first | walk_at "s" | walk_at "f" | walk_at "e" | walk_at "x"))
local macro_rules | `(tactic| walk_at "v") => `(tactic| repeat (first | walk_at "e" | walk_at "x"))
local macro_rules | `(tactic| walk_at "h") => `(tactic| repeat (first | walk_at "s" | walk_at "e" | walk_at "x"))
variable {P : Program} {w : World} {K : PySem.W.Frag} {mg : Str → Option Value} {base : Heap}

theorem ck_lstK (T : Tx K mg) {nn : Hp} {B : Bs} {Q : D → Prop} {k : Kd} {xs : List D} (q : Q (.bl true)) : CK (CL K nn) B (rIsU K) [Kd.d k xs, .tup [.ty "list", .ty "tuple"]] Q := ck_lt T kn_kd (by rw [isSeq_kd]; exact q)
def S__law_same_0 : List D → (D → Prop) → Prop := fun l K => ∃ d : D, l = [d, d] ∧ ((∃ q, d = .frac q) ∨ ∃ b, d = .bl b) ∧ K (.bl true)
theorem ok__law_same_0 (T : Tx K mg)  : Cal P w K mg base 1 "_law_same" ["one", "other"] (SpFam (CL K) S__law_same_0) := by
  refine cal_mkF (N := ["one", "other", "k"]) T.g__law_same T.d__law_same sc__law_same (fun _ _ _ _ _ _ us hl => match us, hl with | [_, _], _ => rfl) (by intro l Q h; first | (obtain ⟨rfl, _⟩ := h; rfl) | (obtain ⟨_, rfl, _⟩ := h; rfl) | (obtain ⟨_, _, rfl, _⟩ := h; rfl) | (obtain ⟨_, _, _, rfl, _⟩ := h; rfl) | (obtain ⟨_, _, _, _, rfl, _⟩ := h; rfl) | (obtain ⟨_, _, _, _, _, rfl, _⟩ := h; rfl) | (obtain ⟨_, _, _, _, _, _, rfl, _⟩ := h; rfl) | (obtain ⟨_, _, _, _, _, _, _, rfl, _⟩ := h; rfl) | (obtain ⟨_, _, _, _, _, _, _, _, rfl, _⟩ := h; rfl) | (obtain ⟨_, _, _, _, _, _, _, _, _, rfl, _⟩ := h; rfl) | (obtain ⟨_, _, _, _, _, _, _, _, _, _, rfl, _⟩ := h; rfl) | (obtain ⟨_, _, _, _, _, _, _, _, _, _, _, rfl, _⟩ := h; rfl)) (fun f cdv A outer s H E hr => ⟨_, (pss_cons (ps_if (pt_val (pe_callB (cr_isK K rfl) (by rfl) T.b_isinstance (by decide +kernel) (pa_cons (pv 0) (pa_cons (pe_tup (pa_cons (pe_bltn (v := .ty "list") (by rfl) T.b_list (by decide +kernel) rfl) (pa_cons (pe_bltn (v := .ty "tuple") (by rfl) T.b_tuple (by decide +kernel) rfl) pa_nil))) pa_nil)))) (pss_cons (ps_if (PW.pt (pw_or (pt_not (pt_val (pe_callB (cr_isK K rfl) (by rfl) T.b_isinstance (by decide +kernel) (pa_cons (pv 1) (pa_cons (pe_tup (pa_cons (pe_bltn (v := .ty "list") (by rfl) T.b_list (by decide +kernel) rfl) (pa_cons (pe_bltn (v := .ty "tuple") (by rfl) T.b_tuple (by decide +kernel) rfl) pa_nil))) pa_nil))))) (pw_or1 (pt_cmpR op_ne (pe_callB (cr_isK K rfl) (by rfl) T.b_isinstance (by decide +kernel) (pa_cons (pv 0) (pa_cons (pe_bltn (v := .ty "list") (by rfl) T.b_list (by decide +kernel) rfl) pa_nil))) (pe_callB (cr_isK K rfl) (by rfl) T.b_isinstance (by decide +kernel) (pa_cons (pv 1) (pa_cons (pe_bltn (v := .ty "list") (by rfl) T.b_list (by decide +kernel) rfl) pa_nil))) (nomark _))))) (pss_one (ps_ret pe_bl)) pss_nil) (pss_one ps_never)) pss_nil) (pss_cons (ps_if (pt_val (pe_callB (cr_isK K rfl) (by rfl) T.b_isinstance (by decide +kernel) (pa_cons (pv 0) (pa_cons (pe_gcls T.g_Frac (by rfl)) pa_nil)))) (pss_one (ps_ret (pe_and (pe_callB (cr_isK K rfl) (by rfl) T.b_isinstance (by decide +kernel) (pa_cons (pv 1) (pa_cons (pe_gcls T.g_Frac (by rfl)) pa_nil))) (pe_and (pe_cmpR op_eq (pe_fldK K rfl (pv 0) rfl) (pe_fldK K rfl (pv 1) rfl) (nomark _)) (pe_one (pe_cmpR op_eq (pe_fldK K rfl (pv 0) rfl) (pe_fldK K rfl (pv 1) rfl) (nomark _))))))) pss_nil) (pss_cons (ps_if (PW.pt (pw_or (pt_val (pe_callB (cr_isK K rfl) (by rfl) T.b_isinstance (by decide +kernel) (pa_cons (pv 0) (pa_cons (pe_bltn (v := .ty "bool") (by rfl) T.b_bool (by decide +kernel) rfl) pa_nil)))) (pw_or1 (pt_val (pe_callB (cr_isK K rfl) (by rfl) T.b_isinstance (by decide +kernel) (pa_cons (pv 1) (pa_cons (pe_bltn (v := .ty "bool") (by rfl) T.b_bool (by decide +kernel) rfl) pa_nil))))))) (pss_one (ps_ret (pe_and (pe_callB (cr_isK K rfl) (by rfl) T.b_isinstance (by decide +kernel) (pa_cons (pv 0) (pa_cons (pe_bltn (v := .ty "bool") (by rfl) T.b_bool (by decide +kernel) rfl) pa_nil))) (pe_and (pe_callB (cr_isK K rfl) (by rfl) T.b_isinstance (by decide +kernel) (pa_cons (pv 1) (pa_cons (pe_bltn (v := .ty "bool") (by rfl) T.b_bool (by decide +kernel) rfl) pa_nil))) (pe_one (pe_cmpR op_eq (pv 0) (pv 1) (nomark _))))))) pss_nil) (pss_cons (ps_if (pt_val (pe_callB (cr_isK K rfl) (by rfl) T.b_isinstance (by decide +kernel) (pa_cons (pv 0) (pa_cons (pe_bltn (v := .ty "int") (by rfl) T.b_int (by decide +kernel) rfl) pa_nil)))) (pss_one (ps_ret (pe_and (pe_callB (cr_isK K rfl) (by rfl) T.b_isinstance (by decide +kernel) (pa_cons (pv 1) (pa_cons (pe_bltn (v := .ty "int") (by rfl) T.b_int (by decide +kernel) rfl) pa_nil))) (pe_one (pe_cmpR op_eq (pv 0) (pv 1) (nomark _)))))) pss_nil) (pss_cons (ps_if (pt_val (pe_callB (cr_isK K rfl) (by rfl) T.b_isinstance (by decide +kernel) (pa_cons (pv 0) (pa_cons (pe_bltn (v := .ty "str") (by rfl) T.b_str (by decide +kernel) rfl) pa_nil)))) (pss_one (ps_ret (pe_and (pe_callB (cr_isK K rfl) (by rfl) T.b_isinstance (by decide +kernel) (pa_cons (pv 1) (pa_cons (pe_bltn (v := .ty "str") (by rfl) T.b_str (by decide +kernel) rfl) pa_nil))) (pe_one (pe_cmpR op_eq (pv 0) (pv 1) (nomark _)))))) pss_nil) (pss_one (ps_ret (pe_and (pe_cmpR op_isNon (pv 0) pe_non (nomark _)) (pe_one (pe_cmpR op_isNon (pv 1) pe_non (nomark _))))))))))), ?_⟩)
  intro nn B l Q h
  obtain ⟨d, rfl, hd, h⟩ := h
  rcases hd with ⟨q, rfl⟩ | ⟨b, rfl⟩
  · walk_at "g"
    refine ck_lt T (.frac q) ?_
    walk_at "g"
    refine ck_fr T (.frac q) ?_
    walk_at "g"
    refine ck_fr T (.frac q) ?_
    walk_at "g"
    refine br_p (fun _ => ?_) (fun z => absurd rfl z)
    walk_at "g"
    rw [decide_eq_true rfl]
    exact h
  · walk_at "g"
    refine ck_lt T (.bl b) ?_
    walk_at "g"
    refine ck_fr T (.bl b) ?_
    walk_at "g"
    refine ck_ty T (.bl b) (.inr (.inl rfl)) ?_
    walk_at "g"
    refine ck_ty T (.bl b) (.inr (.inl rfl)) ?_
    walk_at "g"
    refine ck_ty T (.bl b) (.inr (.inl rfl)) ?_
    walk_at "g"
    refine rk_eq (v1 := .bl b) (v2 := .bl b) rfl rfl rfl ?_
    rw [decide_eq_true rfl]
    exact h

def S__law_same_1 : List D → (D → Prop) → Prop := fun l K => ∃ (g : Nat → Rat) (n : Nat), l = [.tup (vec g n), .tup (vec g n)] ∧ n ≤ 1000 ∧ K (.bl true)
theorem ok__law_same_1 (T : Tx K mg) (c__law_same_0 : Cal P w K mg base 1 "_law_same" ["one", "other"] (SpFam (CL K) S__law_same_0)) : Cal P w K mg base 2 "_law_same" ["one", "other"] (SpFam (CL K) S__law_same_1) := by
  refine cal_mkF (N := ["one", "other", "k"]) T.g__law_same T.d__law_same sc__law_same (fun _ _ _ _ _ _ us hl => match us, hl with | [_, _], _ => rfl) (by intro l Q h; first | (obtain ⟨rfl, _⟩ := h; rfl) | (obtain ⟨_, rfl, _⟩ := h; rfl) | (obtain ⟨_, _, rfl, _⟩ := h; rfl) | (obtain ⟨_, _, _, rfl, _⟩ := h; rfl) | (obtain ⟨_, _, _, _, rfl, _⟩ := h; rfl) | (obtain ⟨_, _, _, _, _, rfl, _⟩ := h; rfl) | (obtain ⟨_, _, _, _, _, _, rfl, _⟩ := h; rfl) | (obtain ⟨_, _, _, _, _, _, _, rfl, _⟩ := h; rfl) | (obtain ⟨_, _, _, _, _, _, _, _, rfl, _⟩ := h; rfl) | (obtain ⟨_, _, _, _, _, _, _, _, _, rfl, _⟩ := h; rfl) | (obtain ⟨_, _, _, _, _, _, _, _, _, _, rfl, _⟩ := h; rfl) | (obtain ⟨_, _, _, _, _, _, _, _, _, _, _, rfl, _⟩ := h; rfl)) (fun f cdv A outer s H E hr => ⟨_, (pss_cons (ps_if (pt_val (pe_callB (cr_isK K rfl) (by rfl) T.b_isinstance (by decide +kernel) (pa_cons (pv 0) (pa_cons (pe_tup (pa_cons (pe_bltn (v := .ty "list") (by rfl) T.b_list (by decide +kernel) rfl) (pa_cons (pe_bltn (v := .ty "tuple") (by rfl) T.b_tuple (by decide +kernel) rfl) pa_nil))) pa_nil)))) (pss_cons (ps_if (PW.pt (pw_or (pt_not (pt_val (pe_callB (cr_isK K rfl) (by rfl) T.b_isinstance (by decide +kernel) (pa_cons (pv 1) (pa_cons (pe_tup (pa_cons (pe_bltn (v := .ty "list") (by rfl) T.b_list (by decide +kernel) rfl) (pa_cons (pe_bltn (v := .ty "tuple") (by rfl) T.b_tuple (by decide +kernel) rfl) pa_nil))) pa_nil))))) (pw_or1 (pt_cmpR op_ne (pe_callB (cr_isK K rfl) (by rfl) T.b_isinstance (by decide +kernel) (pa_cons (pv 0) (pa_cons (pe_bltn (v := .ty "list") (by rfl) T.b_list (by decide +kernel) rfl) pa_nil))) (pe_callB (cr_isK K rfl) (by rfl) T.b_isinstance (by decide +kernel) (pa_cons (pv 1) (pa_cons (pe_bltn (v := .ty "list") (by rfl) T.b_list (by decide +kernel) rfl) pa_nil))) (nomark _))))) (pss_one (ps_ret pe_bl)) pss_nil) (pss_one (ps_ret (pe_and (pe_cmpR op_eq (pe_callB (cr_lenK K rfl) (by rfl) T.b_len PySem.boot_len (pa_cons (pv 0) pa_nil)) (pe_callB (cr_lenK K rfl) (by rfl) T.b_len PySem.boot_len (pa_cons (pv 1) pa_nil)) (nomark _)) (pe_one (pe_callB (cr_allK K rfl rfl) (by rfl) T.b_all (by decide +kernel) (pa_cons (pe_lc (own := [("k", 2)]) (g := gName 2) (tt := tYes) rfl sc__law_same.nd (pi_range1 (by rfl) T.b_range (pa_cons (pe_callB (cr_lenK K rfl) (by rfl) T.b_len PySem.boot_len (pa_cons (pv 0) pa_nil)) pa_nil)) (blkOk_by (own := [("k", 2)]) (N := ["one", "other", "k"]) (sc := defScope s__law_same) (by decide +kernel)) (fun _ _ _ _ _ => (pg_name (i := 2) sc__law_same.nd rfl (by first | exact Or.inl rfl | exact Or.inr rfl))) (fun _ _ _ _ _ => pts_nil) (fun _ _ _ _ _ => (pe_calC c__law_same_0 hr (by decide) (by rfl) (pa_cons (pe_ix (ix_seqK K rfl) (pv 0) (pv 2) (fun _ _ => rfl)) (pa_cons (pe_ix (ix_seqK K rfl) (pv 1) (pv 2) (fun _ _ => rfl)) pa_nil))))) pa_nil))))))) pss_nil) (pss_cons (ps_if (pt_val (pe_callB (cr_isK K rfl) (by rfl) T.b_isinstance (by decide +kernel) (pa_cons (pv 0) (pa_cons (pe_gcls T.g_Frac (by rfl)) pa_nil)))) (pss_one (ps_ret (pe_and (pe_callB (cr_isK K rfl) (by rfl) T.b_isinstance (by decide +kernel) (pa_cons (pv 1) (pa_cons (pe_gcls T.g_Frac (by rfl)) pa_nil))) (pe_and (pe_cmpR op_eq (pe_fldK K rfl (pv 0) rfl) (pe_fldK K rfl (pv 1) rfl) (nomark _)) (pe_one (pe_cmpR op_eq (pe_fldK K rfl (pv 0) rfl) (pe_fldK K rfl (pv 1) rfl) (nomark _))))))) pss_nil) (pss_cons (ps_if (PW.pt (pw_or (pt_val (pe_callB (cr_isK K rfl) (by rfl) T.b_isinstance (by decide +kernel) (pa_cons (pv 0) (pa_cons (pe_bltn (v := .ty "bool") (by rfl) T.b_bool (by decide +kernel) rfl) pa_nil)))) (pw_or1 (pt_val (pe_callB (cr_isK K rfl) (by rfl) T.b_isinstance (by decide +kernel) (pa_cons (pv 1) (pa_cons (pe_bltn (v := .ty "bool") (by rfl) T.b_bool (by decide +kernel) rfl) pa_nil))))))) (pss_one (ps_ret (pe_and (pe_callB (cr_isK K rfl) (by rfl) T.b_isinstance (by decide +kernel) (pa_cons (pv 0) (pa_cons (pe_bltn (v := .ty "bool") (by rfl) T.b_bool (by decide +kernel) rfl) pa_nil))) (pe_and (pe_callB (cr_isK K rfl) (by rfl) T.b_isinstance (by decide +kernel) (pa_cons (pv 1) (pa_cons (pe_bltn (v := .ty "bool") (by rfl) T.b_bool (by decide +kernel) rfl) pa_nil))) (pe_one (pe_cmpR op_eq (pv 0) (pv 1) (nomark _))))))) pss_nil) (pss_cons (ps_if (pt_val (pe_callB (cr_isK K rfl) (by rfl) T.b_isinstance (by decide +kernel) (pa_cons (pv 0) (pa_cons (pe_bltn (v := .ty "int") (by rfl) T.b_int (by decide +kernel) rfl) pa_nil)))) (pss_one (ps_ret (pe_and (pe_callB (cr_isK K rfl) (by rfl) T.b_isinstance (by decide +kernel) (pa_cons (pv 1) (pa_cons (pe_bltn (v := .ty "int") (by rfl) T.b_int (by decide +kernel) rfl) pa_nil))) (pe_one (pe_cmpR op_eq (pv 0) (pv 1) (nomark _)))))) pss_nil) (pss_cons (ps_if (pt_val (pe_callB (cr_isK K rfl) (by rfl) T.b_isinstance (by decide +kernel) (pa_cons (pv 0) (pa_cons (pe_bltn (v := .ty "str") (by rfl) T.b_str (by decide +kernel) rfl) pa_nil)))) (pss_one (ps_ret (pe_and (pe_callB (cr_isK K rfl) (by rfl) T.b_isinstance (by decide +kernel) (pa_cons (pv 1) (pa_cons (pe_bltn (v := .ty "str") (by rfl) T.b_str (by decide +kernel) rfl) pa_nil))) (pe_one (pe_cmpR op_eq (pv 0) (pv 1) (nomark _)))))) pss_nil) (pss_one (ps_ret (pe_and (pe_cmpR op_isNon (pv 0) pe_non (nomark _)) (pe_one (pe_cmpR op_isNon (pv 1) pe_non (nomark _))))))))))), ?_⟩)
  intro nn B l Q h
  obtain ⟨g, n, rfl, hn, h⟩ := h
  walk_at "g"
  refine ck_lstK (k := .t) T ?_
  walk_at "g"
  refine ck_lstK (k := .t) T ?_
  walk_at "g"
  refine ck_ty T (.tup _) (.inr (.inr (.inl rfl))) ?_
  walk_at "g"
  refine ck_ty T (.tup _) (.inr (.inr (.inl rfl))) ?_
  refine rk_ne (v1 := .bl false) (v2 := .bl false) rfl rfl rfl ?_
  walk_at "g"
  refine br_p (fun _ => ?_) (fun z => absurd rfl z)
  walk_at "g"
  refine ⟨(n : Int), by rw [vec_len], by omega, by omega, ?_⟩
  refine ⟨Nat, List.range n, _, fun _ => .bl true, rng1, Nat.le_of_lt (small1000 (by simp; omega)), fun W1 x hx => ?_, ?_⟩
  · have hx := List.mem_range.mp hx
    walk_at "g"
    refine x_at (atV rfl hx) ?_
    walk_at "g"
    refine x_at (atV rfl hx) ?_
    walk_at "g"
    exact ⟨_, rfl, .inl ⟨_, rfl⟩, rfl⟩
  · refine ⟨rfl, (List.range n).map fun _ => true, by rw [List.map_map]; rfl, ?_⟩
    rw [show ((List.range n).map fun _ => true).all id = true by simp]
    exact h

def S__law_same_2 : List D → (D → Prop) → Prop := fun l K => ∃ (G : Nat → Nat → Rat) (m n : Nat), l = [.tup ((List.range m).map fun i => .tup (vec (G i) n)), .tup ((List.range m).map fun i => .tup (vec (G i) n))] ∧ m ≤ 1000 ∧ n ≤ 1000 ∧ K (.bl true)
theorem ok__law_same_2 (T : Tx K mg) (c__law_same_1 : Cal P w K mg base 2 "_law_same" ["one", "other"] (SpFam (CL K) S__law_same_1)) : Cal P w K mg base 3 "_law_same" ["one", "other"] (SpFam (CL K) S__law_same_2) := by
  refine cal_mkF (N := ["one", "other", "k"]) T.g__law_same T.d__law_same sc__law_same (fun _ _ _ _ _ _ us hl => match us, hl with | [_, _], _ => rfl) (by intro l Q h; first | (obtain ⟨rfl, _⟩ := h; rfl) | (obtain ⟨_, rfl, _⟩ := h; rfl) | (obtain ⟨_, _, rfl, _⟩ := h; rfl) | (obtain ⟨_, _, _, rfl, _⟩ := h; rfl) | (obtain ⟨_, _, _, _, rfl, _⟩ := h; rfl) | (obtain ⟨_, _, _, _, _, rfl, _⟩ := h; rfl) | (obtain ⟨_, _, _, _, _, _, rfl, _⟩ := h; rfl) | (obtain ⟨_, _, _, _, _, _, _, rfl, _⟩ := h; rfl) | (obtain ⟨_, _, _, _, _, _, _, _, rfl, _⟩ := h; rfl) | (obtain ⟨_, _, _, _, _, _, _, _, _, rfl, _⟩ := h; rfl) | (obtain ⟨_, _, _, _, _, _, _, _, _, _, rfl, _⟩ := h; rfl) | (obtain ⟨_, _, _, _, _, _, _, _, _, _, _, rfl, _⟩ := h; rfl)) (fun f cdv A outer s H E hr => ⟨_, (pss_cons (ps_if (pt_val (pe_callB (cr_isK K rfl) (by rfl) T.b_isinstance (by decide +kernel) (pa_cons (pv 0) (pa_cons (pe_tup (pa_cons (pe_bltn (v := .ty "list") (by rfl) T.b_list (by decide +kernel) rfl) (pa_cons (pe_bltn (v := .ty "tuple") (by rfl) T.b_tuple (by decide +kernel) rfl) pa_nil))) pa_nil)))) (pss_cons (ps_if (PW.pt (pw_or (pt_not (pt_val (pe_callB (cr_isK K rfl) (by rfl) T.b_isinstance (by decide +kernel) (pa_cons (pv 1) (pa_cons (pe_tup (pa_cons (pe_bltn (v := .ty "list") (by rfl) T.b_list (by decide +kernel) rfl) (pa_cons (pe_bltn (v := .ty "tuple") (by rfl) T.b_tuple (by decide +kernel) rfl) pa_nil))) pa_nil))))) (pw_or1 (pt_cmpR op_ne (pe_callB (cr_isK K rfl) (by rfl) T.b_isinstance (by decide +kernel) (pa_cons (pv 0) (pa_cons (pe_bltn (v := .ty "list") (by rfl) T.b_list (by decide +kernel) rfl) pa_nil))) (pe_callB (cr_isK K rfl) (by rfl) T.b_isinstance (by decide +kernel) (pa_cons (pv 1) (pa_cons (pe_bltn (v := .ty "list") (by rfl) T.b_list (by decide +kernel) rfl) pa_nil))) (nomark _))))) (pss_one (ps_ret pe_bl)) pss_nil) (pss_one (ps_ret (pe_and (pe_cmpR op_eq (pe_callB (cr_lenK K rfl) (by rfl) T.b_len PySem.boot_len (pa_cons (pv 0) pa_nil)) (pe_callB (cr_lenK K rfl) (by rfl) T.b_len PySem.boot_len (pa_cons (pv 1) pa_nil)) (nomark _)) (pe_one (pe_callB (cr_allK K rfl rfl) (by rfl) T.b_all (by decide +kernel) (pa_cons (pe_lc (own := [("k", 2)]) (g := gName 2) (tt := tYes) rfl sc__law_same.nd (pi_range1 (by rfl) T.b_range (pa_cons (pe_callB (cr_lenK K rfl) (by rfl) T.b_len PySem.boot_len (pa_cons (pv 0) pa_nil)) pa_nil)) (blkOk_by (own := [("k", 2)]) (N := ["one", "other", "k"]) (sc := defScope s__law_same) (by decide +kernel)) (fun _ _ _ _ _ => (pg_name (i := 2) sc__law_same.nd rfl (by first | exact Or.inl rfl | exact Or.inr rfl))) (fun _ _ _ _ _ => pts_nil) (fun _ _ _ _ _ => (pe_calC c__law_same_1 hr (by decide) (by rfl) (pa_cons (pe_ix (ix_seqK K rfl) (pv 0) (pv 2) (fun _ _ => rfl)) (pa_cons (pe_ix (ix_seqK K rfl) (pv 1) (pv 2) (fun _ _ => rfl)) pa_nil))))) pa_nil))))))) pss_nil) (pss_cons (ps_if (pt_val (pe_callB (cr_isK K rfl) (by rfl) T.b_isinstance (by decide +kernel) (pa_cons (pv 0) (pa_cons (pe_gcls T.g_Frac (by rfl)) pa_nil)))) (pss_one (ps_ret (pe_and (pe_callB (cr_isK K rfl) (by rfl) T.b_isinstance (by decide +kernel) (pa_cons (pv 1) (pa_cons (pe_gcls T.g_Frac (by rfl)) pa_nil))) (pe_and (pe_cmpR op_eq (pe_fldK K rfl (pv 0) rfl) (pe_fldK K rfl (pv 1) rfl) (nomark _)) (pe_one (pe_cmpR op_eq (pe_fldK K rfl (pv 0) rfl) (pe_fldK K rfl (pv 1) rfl) (nomark _))))))) pss_nil) (pss_cons (ps_if (PW.pt (pw_or (pt_val (pe_callB (cr_isK K rfl) (by rfl) T.b_isinstance (by decide +kernel) (pa_cons (pv 0) (pa_cons (pe_bltn (v := .ty "bool") (by rfl) T.b_bool (by decide +kernel) rfl) pa_nil)))) (pw_or1 (pt_val (pe_callB (cr_isK K rfl) (by rfl) T.b_isinstance (by decide +kernel) (pa_cons (pv 1) (pa_cons (pe_bltn (v := .ty "bool") (by rfl) T.b_bool (by decide +kernel) rfl) pa_nil))))))) (pss_one (ps_ret (pe_and (pe_callB (cr_isK K rfl) (by rfl) T.b_isinstance (by decide +kernel) (pa_cons (pv 0) (pa_cons (pe_bltn (v := .ty "bool") (by rfl) T.b_bool (by decide +kernel) rfl) pa_nil))) (pe_and (pe_callB (cr_isK K rfl) (by rfl) T.b_isinstance (by decide +kernel) (pa_cons (pv 1) (pa_cons (pe_bltn (v := .ty "bool") (by rfl) T.b_bool (by decide +kernel) rfl) pa_nil))) (pe_one (pe_cmpR op_eq (pv 0) (pv 1) (nomark _))))))) pss_nil) (pss_cons (ps_if (pt_val (pe_callB (cr_isK K rfl) (by rfl) T.b_isinstance (by decide +kernel) (pa_cons (pv 0) (pa_cons (pe_bltn (v := .ty "int") (by rfl) T.b_int (by decide +kernel) rfl) pa_nil)))) (pss_one (ps_ret (pe_and (pe_callB (cr_isK K rfl) (by rfl) T.b_isinstance (by decide +kernel) (pa_cons (pv 1) (pa_cons (pe_bltn (v := .ty "int") (by rfl) T.b_int (by decide +kernel) rfl) pa_nil))) (pe_one (pe_cmpR op_eq (pv 0) (pv 1) (nomark _)))))) pss_nil) (pss_cons (ps_if (pt_val (pe_callB (cr_isK K rfl) (by rfl) T.b_isinstance (by decide +kernel) (pa_cons (pv 0) (pa_cons (pe_bltn (v := .ty "str") (by rfl) T.b_str (by decide +kernel) rfl) pa_nil)))) (pss_one (ps_ret (pe_and (pe_callB (cr_isK K rfl) (by rfl) T.b_isinstance (by decide +kernel) (pa_cons (pv 1) (pa_cons (pe_bltn (v := .ty "str") (by rfl) T.b_str (by decide +kernel) rfl) pa_nil))) (pe_one (pe_cmpR op_eq (pv 0) (pv 1) (nomark _)))))) pss_nil) (pss_one (ps_ret (pe_and (pe_cmpR op_isNon (pv 0) pe_non (nomark _)) (pe_one (pe_cmpR op_isNon (pv 1) pe_non (nomark _))))))))))), ?_⟩)
  intro nn B l Q h
  obtain ⟨G, m, n, rfl, hm, hn, h⟩ := h
  walk_at "g"
  refine ck_lstK (k := .t) T ?_
  walk_at "g"
  refine ck_lstK (k := .t) T ?_
  walk_at "g"
  refine ck_ty T (.tup _) (.inr (.inr (.inl rfl))) ?_
  walk_at "g"
  refine ck_ty T (.tup _) (.inr (.inr (.inl rfl))) ?_
  refine rk_ne (v1 := .bl false) (v2 := .bl false) rfl rfl rfl ?_
  walk_at "g"
  refine br_p (fun _ => ?_) (fun z => absurd rfl z)
  walk_at "g"
  refine ⟨(m : Int), by simp, by omega, by omega, ?_⟩
  refine ⟨Nat, List.range m, _, fun _ => .bl true, rng1, Nat.le_of_lt (small1000 (by simp; omega)), fun W1 x hx => ?_, ?_⟩
  · have hx := List.mem_range.mp hx
    walk_at "g"
    refine x_at (atI_nat (x := .tup (vec (G x) n)) (by simp [hx])) ?_
    walk_at "g"
    refine x_at (atI_nat (x := .tup (vec (G x) n)) (by simp [hx])) ?_
    walk_at "g"
    exact ⟨_, _, rfl, hn, rfl⟩
  · refine ⟨rfl, (List.range m).map fun _ => true, by rw [List.map_map]; rfl, ?_⟩
    rw [show ((List.range m).map fun _ => true).all id = true by simp]
    exact h

def S__law_written : List D → (D → Prop) → Prop := fun l K => ∃ (m n : Nat) (G : Nat → Nat → Rat), l = [tabG m n G] ∧ m ≤ 1000 ∧ n ≤ 1000 ∧ (∀ i j, SzQ (G i j)) ∧ K (.lst ((List.range m).map fun i => .lst (vec (G i) n)))
theorem ok__law_written (T : Tx K mg) (m_Frac2 : CalM P w K mg base 2 "Frac" [] (SpFamI (CL K) (He.ga K "Frac") S_FracD_initD)) : Cal P w K mg base 4 "_law_written" ["table"] (SpFam (CL K) S__law_written) := by
  refine cal_mkF (N := ["table", "row", "one"]) T.g__law_written T.d__law_written sc__law_written (fun _ _ _ _ _ _ us hl => match us, hl with | [_], _ => rfl) (by intro l Q h; first | (obtain ⟨rfl, _⟩ := h; rfl) | (obtain ⟨_, rfl, _⟩ := h; rfl) | (obtain ⟨_, _, rfl, _⟩ := h; rfl) | (obtain ⟨_, _, _, rfl, _⟩ := h; rfl) | (obtain ⟨_, _, _, _, rfl, _⟩ := h; rfl) | (obtain ⟨_, _, _, _, _, rfl, _⟩ := h; rfl) | (obtain ⟨_, _, _, _, _, _, rfl, _⟩ := h; rfl) | (obtain ⟨_, _, _, _, _, _, _, rfl, _⟩ := h; rfl) | (obtain ⟨_, _, _, _, _, _, _, _, rfl, _⟩ := h; rfl) | (obtain ⟨_, _, _, _, _, _, _, _, _, rfl, _⟩ := h; rfl) | (obtain ⟨_, _, _, _, _, _, _, _, _, _, rfl, _⟩ := h; rfl) | (obtain ⟨_, _, _, _, _, _, _, _, _, _, _, rfl, _⟩ := h; rfl)) (fun f cdv A outer s H E hr => ⟨_, (pss_one (ps_ret (pe_lc (own := [("row", 1)]) (g := gName 1) (tt := tYes) rfl sc__law_written.nd (pi_seqK K rfl (pv 0)) (blkOk_by (own := [("row", 1)]) (N := ["table", "row", "one"]) (sc := defScope s__law_written) (by decide +kernel)) (fun _ _ _ _ _ => (pg_name (i := 1) sc__law_written.nd rfl (by first | exact Or.inl rfl | exact Or.inr rfl))) (fun _ _ _ _ _ => pts_nil) (fun _ _ _ _ _ => (pe_lc (own := [("one", 2)]) (g := gName 2) (tt := tYes) rfl sc__law_written.nd (pi_seqK K rfl (pv 1)) (blkOk_by (by rfl)) (fun _ _ _ _ _ => (pg_name (i := 2) sc__law_written.nd rfl (by first | exact Or.inl rfl | exact Or.inr rfl))) (fun _ _ _ _ _ => pts_nil) (fun _ _ _ _ _ => (pe_mkK K rfl m_Frac2 hr (by decide) (by rfl) (pa_cons (pe_ix (ix_seqK K rfl) (pv 2) pe_int (fun _ _ => rfl)) (pa_cons (pe_ix (ix_seqK K rfl) (pv 2) pe_int (fun _ _ => rfl)) pa_nil))))))))), ?_⟩)
  intro nn B l Q h
  obtain ⟨m, n, G, rfl, hm, hn, hz, h⟩ := h
  unfold tabG
  walk_at "g"
  refine ⟨Nat, List.range m, _, fun i => .lst (vec (G i) n), rfl, Nat.le_of_lt (small1000 (by simp; omega)), fun W1 i hi => ?_, ?_⟩
  · walk_at "g"
    refine ⟨Nat, List.range n, _, fun j => .frac (G i j), rfl, Nat.le_of_lt (small1000 (by simp; omega)), fun W1 j hj => ?_, ?_⟩
    · walk_at "g"
      refine ⟨_, _, rfl, by have := (G i j).den_pos; omega, big_den (hz i j), G i j, by rw [Rat.num_divInt_den], ?_⟩
      rfl
    · rfl
  · exact h

def S__law_written_N : List D → (List (Addr × List D) → D → Prop) → Prop := fun l K => ∃ (m n : Nat) (G : Nat → Nat → Rat), l = [tabG m n G] ∧ m ≤ 1000 ∧ n ≤ 1000 ∧ (∀ i j, SzQ (G i j)) ∧ ∀ (as : List Addr) (a : Addr), as.length = m → K (zipC as ((List.range m).map fun i => vec (G i) n) ++ [(a, as.map .adr)]) (.adr a)
theorem ok__law_written_N (T : Tx K mg) (m_Frac2 : CalM P w K mg base 2 "Frac" [] (SpFamI (CL K) (He.ga K "Frac") S_FracD_initD)) : Cal P w K mg base 4 "_law_written" ["table"] (SpFamN (CL K) S__law_written_N) := by
  refine cal_mkN (N := ["table", "row", "one"]) T.g__law_written T.d__law_written sc__law_written (fun _ _ _ _ _ _ us hl => match us, hl with | [_], _ => rfl) (by intro l Q h; first | (obtain ⟨rfl, _⟩ := h; rfl) | (obtain ⟨_, rfl, _⟩ := h; rfl) | (obtain ⟨_, _, rfl, _⟩ := h; rfl) | (obtain ⟨_, _, _, rfl, _⟩ := h; rfl) | (obtain ⟨_, _, _, _, rfl, _⟩ := h; rfl) | (obtain ⟨_, _, _, _, _, rfl, _⟩ := h; rfl) | (obtain ⟨_, _, _, _, _, _, rfl, _⟩ := h; rfl) | (obtain ⟨_, _, _, _, _, _, _, rfl, _⟩ := h; rfl) | (obtain ⟨_, _, _, _, _, _, _, _, rfl, _⟩ := h; rfl) | (obtain ⟨_, _, _, _, _, _, _, _, _, rfl, _⟩ := h; rfl) | (obtain ⟨_, _, _, _, _, _, _, _, _, _, rfl, _⟩ := h; rfl) | (obtain ⟨_, _, _, _, _, _, _, _, _, _, _, rfl, _⟩ := h; rfl)) (fun f cdv A outer s H E hr => ⟨_, (pss_one (ps_ret (pe_lc (own := [("row", 1)]) (g := gName 1) (tt := tYes) rfl sc__law_written.nd (pi_seqK K rfl (pv 0)) (blkOk_by (own := [("row", 1)]) (N := ["table", "row", "one"]) (sc := defScope s__law_written) (by decide +kernel)) (fun _ _ _ _ _ => (pg_name (i := 1) sc__law_written.nd rfl (by first | exact Or.inl rfl | exact Or.inr rfl))) (fun _ _ _ _ _ => pts_nil) (fun _ _ _ _ _ => (pe_lc (own := [("one", 2)]) (g := gName 2) (tt := tYes) rfl sc__law_written.nd (pi_seqK K rfl (pv 1)) (blkOk_by (by rfl)) (fun _ _ _ _ _ => (pg_name (i := 2) sc__law_written.nd rfl (by first | exact Or.inl rfl | exact Or.inr rfl))) (fun _ _ _ _ _ => pts_nil) (fun _ _ _ _ _ => (pe_mkK K rfl m_Frac2 hr (by decide) (by rfl) (pa_cons (pe_ix (ix_seqK K rfl) (pv 2) pe_int (fun _ _ => rfl)) (pa_cons (pe_ix (ix_seqK K rfl) (pv 2) pe_int (fun _ _ => rfl)) pa_nil))))))))), ?_⟩)
  intro nn B l Q h
  obtain ⟨m, n, G, rfl, hm, hn, hz, h⟩ := h
  unfold tabG
  refine sx_reg rfl ?_
  refine sx_retN (j := 3) (cs := []) rfl ?_
  refine en_lc ?_
  walk_at "v"
  refine ⟨fun i ds acc => ∃ as : List Addr, as.length = i ∧ ds = zipC as ((List.range i).map fun i => vec (G i) n) ∧ acc = as.map .adr, ⟨[], rfl, rfl, rfl⟩, fun W1 i d ds acc hd hJ => ?_, fun ds acc hJ a => ?_⟩
  · obtain ⟨as, h1, rfl, rfl⟩ := hJ
    rw [List.getElem?_map] at hd
    cases hx : (List.range m)[i]? with
    | none => rw [hx] at hd; cases hd
    | some x =>
      rw [hx] at hd; cases hd
      obtain ⟨rfl, hi⟩ := rng_get hx
      walk_at "v"
      refine en_ef ?_
      walk_at "v"
      refine ⟨Nat, List.range n, _, fun j => .frac (G x j), rfl, Nat.le_of_lt (small1000 (by simp; omega)), fun W1 j hj => ?_, ?_⟩
      · walk_at "v"
        refine ⟨_, _, rfl, by have := (G x j).den_pos; omega, big_den (hz x j), G x j, by rw [Rat.num_divInt_den], ?_⟩
        rfl
      · intro a
        refine ⟨small1000 (by simp; omega), as ++ [a], by simp [h1], ?_, by simp⟩
        rw [List.range_succ, List.map_append]
        exact (zipC_app (by simp [h1])).symm
  · obtain ⟨as, h1, rfl, rfl⟩ := hJ
    rw [List.length_map, List.length_range] at h1 ⊢
    exact ⟨3, _, rfl, h as a h1⟩

end

end K
end

section
set_option maxRecDepth 100000
set_option maxHeartbeats 4000000
namespace K
open PySem PySem.Spec PyProof.Rows L2 G

/-- what the law asks of a table -/
def TabP (G : Nat → Nat → Rat) (m n : Nat) (d : D) : Prop := ∃ xs, seqOf d = some xs ∧ xs.length = m ∧ ∀ i, i < m → arF (xs.getD i .non) ((n : Nat) : Int) = true ∧ ∀ j, j < n → valF (xs.getD i .non) j = G i j
theorem isSeq_seqOf {d : D} : d.isSeq = false → seqOf d = none := by cases d <;> intro h <;> first | rfl | cases h
theorem LR.bdl {b : Nat} {q : Rat} (h : Bd b q) : LR b q (lowD q) := ⟨_, _, rfl, by have := q.den_pos; omega, num_mul q, h.1, h.2⟩
theorem vec_allF {g : Nat → Rat} {n : Nat} : (vec g n).all D.isFrac = true := by
  rw [List.all_eq_true]; intro x hx
  obtain ⟨i, _, rfl⟩ := List.mem_map.mp hx
  rfl
theorem vec_prO {g : Nat → Rat} {n : Nat} : (vec g n).map prO = vecL g n := by unfold vec vecL; rw [List.map_map]; rfl
section
local macro_rules | `(tactic| walk_at "e") => `(tactic| first
  | ((with_reducible refine' ek_var ?h1 ?_); (case h1 => exact rfl))
  | (with_reducible refine ek_int ?_)
  | (with_reducible refine ek_bl ?_)
  | (with_reducible refine ek_non ?_)
  | (with_reducible refine ek_str ?_)
  | (with_reducible refine ek_ty ?_)
  | (with_reducible refine ek_cls ?_)
  | (with_reducible refine ek_ix ?_)
  | (with_reducible refine ek_un ?_)
  | (with_reducible refine ek_tup ?_)
  | (with_reducible refine k_call ?_)
  | (with_reducible refine ek_len ?_)
  | (with_reducible refine ek_tuple ?_)
  | (with_reducible refine ek_sum ?_)
  | (with_reducible refine ek_all ?_)
  | (with_reducible refine ek_any ?_)
  | (with_reducible refine ek_chain ?_)
  | (with_reducible refine ek_andV ?_)
  | (with_reducible refine ek_orV ?_)
  | (with_reducible refine ek_notV ?_)
  | (with_reducible refine ek_if ?_)
  | (with_reducible refine ek_ef (ef_lst ?_))
  | (with_reducible refine ek_ef (ef_list ?_))
  | (with_reducible refine ek_ef (ef_cat ?_))
  | (with_reducible refine ek_ef (ef_rep ?_))
  | (with_reducible refine ek_ef (ef_slice ?_))
  | (with_reducible refine ek_ef (ef_rev ?_))
  | (with_reducible refine ek_ef (ef_lstRev ?_))
  | (with_reducible refine ek_ef (ef_map ?_))
  | (with_reducible refine ek_ef (ef_filt ?_))
  | (with_reducible refine ef_lst ?_)
  | (with_reducible refine ef_list ?_)
  | (with_reducible refine ef_cat ?_)
  | (with_reducible refine ef_rep ?_)
  | (with_reducible refine ef_slice ?_)
  | (with_reducible refine ef_rev ?_)
  | (with_reducible refine ef_lstRev ?_)
  | (with_reducible refine ef_map ?_)
  | (with_reducible refine ef_filt ?_)
  | ((with_reducible refine' el_var ?h1 ?_); (case h1 => exact rfl))
  | ((with_reducible refine' el_own ?h1 ?_); (case h1 => exact rfl))
  | (with_reducible refine el_ef (ef_lst ?_))
  | (with_reducible refine el_ef (ef_list ?_))
  | (with_reducible refine el_ef (ef_cat ?_))
  | (with_reducible refine el_ef (ef_rep ?_))
  | (with_reducible refine el_ef (ef_slice ?_))
  | (with_reducible refine el_ef (ef_rev ?_))
  | (with_reducible refine el_ef (ef_lstRev ?_))
  | (with_reducible refine el_ef (ef_map ?_))
  | (with_reducible refine el_ef (ef_filt ?_))
  | (with_reducible refine ek_op ?_)
  | (with_reducible refine ek_cb ?_)
  | (with_reducible refine el_ek ?_)
  | (with_reducible refine tk_test ?_)
  | (with_reducible refine tk_B ?_)
  | (with_reducible refine tk_and ?_)
  | (with_reducible refine tk_or ?_)
  | (with_reducible refine tk_not ?_)
  | (with_reducible refine tk_yes ?_)
  | (with_reducible refine ak_nil ?_)
  | (with_reducible refine ak_cons ?_)
  | (with_reducible refine k_num (‹Tx _ _›) ?_)
  | (with_reducible refine k_den (‹Tx _ _›) ?_)
  | (with_reducible refine k_mk2 ?_)
  | (with_reducible refine k_mkO ?_)
  | (with_reducible refine k_rows (‹Tx _ _›) ?_)
  | (with_reducible refine k_mk1 ?_)
  | (with_reducible refine k_bel ?_)
  | (with_reducible refine k_own ?_)
  | (with_reducible refine rk_U2 (k_own ?_))
  | (with_reducible refine rk_mul (Sz.mul (by assumption) (by assumption)) ?_)
  | (with_reducible refine rk_U1 (rk_mul (Sz.mul (by assumption) (by assumption)) ?_))
  | (with_reducible refine ek_dget ?_)
  | (with_reducible refine uk_neg ?_)
  | (with_reducible refine ek_disp ?_)
  | (with_reducible refine pk_cons ?_)
  | (with_reducible refine pk_nil ?_)
  | (with_reducible refine rk_mod (by assumption) ?_)
  | (with_reducible refine rk_add ?_)
  | (with_reducible refine rk_sub ?_)
  | (with_reducible refine rk_lt ?_)
  | (with_reducible refine rk_le ?_)
  | (with_reducible refine rk_gt ?_)
  | (with_reducible refine rk_ge ?_)
  | (with_reducible refine rk_eqI ?_)
  | (with_reducible refine rk_neI ?_)
  | (with_reducible refine rk_isN ?_)
  | (with_reducible refine rk_notN ?_)
  | (with_reducible refine rk_U1 (rk_add ?_))
  | (with_reducible refine rk_U1 (rk_sub ?_))
  | (with_reducible refine ck_gcd ?_)
  | (with_reducible refine ck_abs ?_)
  | (with_reducible refine ck_int ?_)
  | (with_reducible refine ik_seq ?_)
  | (with_reducible refine ik_range1 ?_)
  | (with_reducible refine ik_range2 ?_)
  | (with_reducible refine ik_enumA ?_)
  | (with_reducible refine ik_zip ?_)
  | (with_reducible refine ik_rev ?_)
  | ((with_reducible refine' cg_name ?_ ?h1 ?h2); (case h1 => exact rfl); (case h2 => decide))
  | ((with_reducible refine' cg_anyT ?h1 ?_); (case h1 => exact rfl))
  | ((with_reducible refine' cg_anyL ?h1 ?_); (case h1 => exact rfl))
  | ((with_reducible refine' cg_anyK ?h1 ?_); (case h1 => exact rfl))
  | ((with_reducible refine' cgs_cons ?_ ?h1 ?h2); (case h1 => exact rfl); (case h2 => decide))
  | (with_reducible refine cgs_nil ?_)
  | ((with_reducible refine' gk_name ?_ ?h1); (case h1 => exact rfl))
  | ((with_reducible refine' gk_anyT ?h1 ?_); (case h1 => exact rfl))
  | ((with_reducible refine' gk_anyL ?h1 ?_); (case h1 => exact rfl))
  | ((with_reducible refine' gk_anyK ?h1 ?_); (case h1 => exact rfl))
  | ((with_reducible refine' gks_cons ?_ ?h1); (case h1 => exact rfl))
  | ((with_reducible refine' gks_consA (n := 0) ?_ ?h1 ?h2); (case h1 => exact rfl); (case h2 => exact rfl))
  | ((with_reducible refine' gks_consB ?h0 ?_ ?h1 ?h2); (case h0 => exact rfl); (case h1 => exact rfl); (case h2 => exact rfl))
  | (with_reducible refine gks_nil ?_)
  | (with_reducible refine ok_none ?_)
  | (with_reducible refine ok_some ?_))
local macro_rules | `(tactic| walk_at "s") => `(tactic| first
  | (with_reducible refine sx_guard ?_ ?_)
  | (with_reducible refine sx_seq ?_)
  | (with_reducible refine sx_ret ?_)
  | (with_reducible refine sx_if ?_)
  | (with_reducible refine sx_next ?_)
  | (with_reducible refine sx_break ?_)
  | (with_reducible refine sx_cont ?_)
  | ((with_reducible refine' sx_append ?h1 ?_); (case h1 => exact rfl))
  | ((with_reducible refine' sx_setI ?h1 ?_); (case h1 => exact rfl))
  | ((with_reducible refine' sx_set ?h1 ?_); (case h1 => exact rfl))
  | (with_reducible refine sx_asg ?_)
  | ((with_reducible refine' sx_par ?h1 ?h2 ?_); (case h1 => exact rfl); (case h2 => exact rfl))
  | (with_reducible refine sx_drop ?_)
  | ((with_reducible refine' k_fldS (‹Tx _ _›) ?h1 ?h2 ?h3 ?_); (case h1 => exact rfl); (case h2 => decide); (case h3 => exact rfl))
  | ((with_reducible refine' k_fldO (‹Tx _ _›) ?h1 ?h3 ?_); (case h1 => exact rfl); (case h3 => exact rfl)))
/-! plain existentials that the rules leave -/
local macro_rules | `(tactic| walk_at "x") => `(tactic| first
  | (with_reducible refine x_bl ?_)
  | (with_reducible refine x_int ?_)
  | (with_reducible refine x_frac ?_)
  | (with_reducible refine x_lst ?_)
  | (with_reducible refine x_off ?_)
  | (with_reducible refine x_low ?_)
  | (with_reducible refine x_ownR ?_)
  | (with_reducible refine x_ownA ?_)
  | (with_reducible refine x_tup ?_)
  | (with_reducible refine x_kd ?_)
  | (with_reducible refine x_oneL ?_)
  | (with_reducible refine x_oneT ?_)
  | (with_reducible refine x_one ?_)
  | ((with_reducible refine' x_at ?h1 ?_); (case h1 => exact rfl))
  | ((with_reducible refine' x_dic ?h1 ?_); (case h1 => exact rfl))
  | (with_reducible refine (⟨rfl, ?_⟩ : Kd.l = Kd.l ∧ _))
  | ((with_reducible refine' x_len ?h1 ?_); (case h1 => exact rfl))
  | ((with_reducible refine' br_t ?h1 ?_); (case h1 => exact rfl))
  | ((with_reducible refine' br_f ?h1 ?_); (case h1 => exact rfl)))
local macro_rules | `(tactic| walk_at "f") => `(tactic| first
  | ((with_reducible refine' sx_forW ?h1 ?_); (case h1 => exact rfl))
  | (with_reducible refine sx_forGW ?_))
local macro_rules | `(tactic| walk_at "g") => `(tactic| repeat (first | walk_at "s" | walk_at "f" | walk_at "e" | walk_at "x"))
local macro_rules | `(tactic| walk_at "v") => `(tactic| repeat (first | walk_at "e" | walk_at "x"))
local macro_rules | `(tactic| walk_at "h") => `(tactic| repeat (first | walk_at "s" | walk_at "e" | walk_at "x"))
variable {P : Program} {w : World} {K : PySem.W.Frag} {mg : Str → Option Value} {base : Heap}

def S__law_table_right : List D → (D → Prop) → Prop := fun l K => ∃ (m n b : Nat) (G : Nat → Nat → Rat) (xs : List D), l = [tabG m n G, .lst xs] ∧ m ≤ 1000 ∧ n ≤ 1000 ∧ 1 ≤ b ∧ b ≤ 4000 ∧ (∀ i j, Bd b (G i j)) ∧ TabK b (.lst xs) ∧ ∀ c : Bool, (c = true ↔ TabP G m n (.lst xs)) → K (.bl c)
theorem ok__law_table_right (T : Tx K mg) (c__law_pairs : Cal P w K mg base 3 "_law_pairs" ["values", "many"] (SpFam (CL K) S__law_pairs)) (c__law_equal : Cal P w K mg base 1 "_law_equal" ["x", "y"] (SpFam (CL K) S__law_equal)) : Cal P w K mg base 4 "_law_table_right" ["table", "value"] (SpFam (CL K) S__law_table_right) := by
  refine cal_mkF (N := ["table", "value", "due", "row", "found", "k"]) T.g__law_table_right T.d__law_table_right sc__law_table_right (fun _ _ _ _ _ _ us hl => match us, hl with | [_, _], _ => rfl) (by intro l Q h; first | (obtain ⟨rfl, _⟩ := h; rfl) | (obtain ⟨_, rfl, _⟩ := h; rfl) | (obtain ⟨_, _, rfl, _⟩ := h; rfl) | (obtain ⟨_, _, _, rfl, _⟩ := h; rfl) | (obtain ⟨_, _, _, _, rfl, _⟩ := h; rfl) | (obtain ⟨_, _, _, _, _, rfl, _⟩ := h; rfl) | (obtain ⟨_, _, _, _, _, _, rfl, _⟩ := h; rfl) | (obtain ⟨_, _, _, _, _, _, _, rfl, _⟩ := h; rfl) | (obtain ⟨_, _, _, _, _, _, _, _, rfl, _⟩ := h; rfl) | (obtain ⟨_, _, _, _, _, _, _, _, _, rfl, _⟩ := h; rfl) | (obtain ⟨_, _, _, _, _, _, _, _, _, _, rfl, _⟩ := h; rfl) | (obtain ⟨_, _, _, _, _, _, _, _, _, _, _, rfl, _⟩ := h; rfl)) (fun f cdv A outer s H E hr => ⟨_, (pss_cons (ps_if (PW.pt (pw_or (pt_not (pt_val (pe_callB (cr_isK K rfl) (by rfl) T.b_isinstance (by decide +kernel) (pa_cons (pv 1) (pa_cons (pe_tup (pa_cons (pe_bltn (v := .ty "list") (by rfl) T.b_list (by decide +kernel) rfl) (pa_cons (pe_bltn (v := .ty "tuple") (by rfl) T.b_tuple (by decide +kernel) rfl) pa_nil))) pa_nil))))) (pw_or1 (pt_cmpR op_ne (pe_callB (cr_lenK K rfl) (by rfl) T.b_len PySem.boot_len (pa_cons (pv 1) pa_nil)) (pe_callB (cr_lenK K rfl) (by rfl) T.b_len PySem.boot_len (pa_cons (pv 0) pa_nil)) (nomark _))))) (pss_one (ps_ret pe_bl)) pss_nil) (pss_cons (ps_for PassesOwn.never rfl (pi_zipK K rfl (by rfl) T.b_zip (pa_cons (pv 0) (pa_cons (pv 1) pa_nil))) (pg_anyK K rfl rfl (pgs_cons (pg_name (i := 2) sc__law_table_right.nd rfl (by first | exact Or.inl rfl | exact Or.inr rfl)) (pgs_cons (pg_name (i := 3) sc__law_table_right.nd rfl (by first | exact Or.inl rfl | exact Or.inr rfl)) pgs_nil))) (pss_cons (ps_if (pt_not (pt_val (pe_callB (cr_isK K rfl) (by rfl) T.b_isinstance (by decide +kernel) (pa_cons (pv 3) (pa_cons (pe_tup (pa_cons (pe_bltn (v := .ty "list") (by rfl) T.b_list (by decide +kernel) rfl) (pa_cons (pe_bltn (v := .ty "tuple") (by rfl) T.b_tuple (by decide +kernel) rfl) pa_nil))) pa_nil))))) (pss_one (ps_ret pe_bl)) pss_nil) (pss_cons (ps_set (i := 4) sc__law_table_right.nd rfl (by first | exact Or.inl rfl | exact Or.inr rfl) (pe_calC c__law_pairs hr (by decide) (by rfl) (pa_cons (pe_callTy (cr_tupK K rfl) (by rfl) T.b_tuple (by decide +kernel) (pa_cons (pv 3) pa_nil)) (pa_cons (pe_callB (cr_lenK K rfl) (by rfl) T.b_len PySem.boot_len (pa_cons (pv 2) pa_nil)) pa_nil)))) (pss_one (ps_if (PW.pt (pw_or (pt_cmpR op_isNon (pv 4) pe_non (nomark _)) (pw_or1 (pt_not (pt_val (pe_callB (cr_allK K rfl rfl) (by rfl) T.b_all (by decide +kernel) (pa_cons (pe_lc (own := [("k", 5)]) (g := gName 5) (tt := tYes) rfl sc__law_table_right.nd (pi_range1 (by rfl) T.b_range (pa_cons (pe_callB (cr_lenK K rfl) (by rfl) T.b_len PySem.boot_len (pa_cons (pv 2) pa_nil)) pa_nil)) (blkOk_by (own := [("k", 5)]) (N := ["table", "value", "due", "row", "found", "k"]) (sc := defScope s__law_table_right) (by decide +kernel)) (fun _ _ _ _ _ => (pg_name (i := 5) sc__law_table_right.nd rfl (by first | exact Or.inl rfl | exact Or.inr rfl))) (fun _ _ _ _ _ => pts_nil) (fun _ _ _ _ _ => (pe_calC c__law_equal hr (by decide) (by rfl) (pa_cons (pe_ix (ix_seqK K rfl) (pv 4) (pv 5) (fun _ _ => rfl)) (pa_cons (pe_ix (ix_seqK K rfl) (pv 2) (pv 5) (fun _ _ => rfl)) pa_nil))))) pa_nil))))))) (pss_one (ps_ret pe_bl)) pss_nil))))) (pss_one (ps_ret pe_bl)))), ?_⟩)
  intro nn B l Q h
  obtain ⟨m, n, b, G, xs, rfl, hm, hn, b1, hb, hG, tk, h⟩ := h
  have hl := tk.len xs rfl
  have hrow := tk.row xs rfl
  unfold tabG
  walk_at "g"
  refine ck_lstK (k := .l) T ?_
  walk_at "g"
  refine br_n (fun h1 => ?_) (fun h1 => ?_)
  · walk_at "g"
    refine h false ⟨fun z => (nomatch z), fun ⟨ys, hy, h2, _⟩ => ?_⟩
    exfalso
    cases hy
    exact h1 (by simp; omega)
  have h1 : xs.length = m := by simp at h1; omega
  refine sx_next ?_
  refine sx_seq ?_
  refine sx_forGS ?_
  walk_at "h"
  refine ⟨.l, _, _, (fun z => nomatch z), rfl, ?_⟩
  refine ⟨Nat, List.range m, fun i => .tup [.lst (vecL (G i) n), xs.getD i .non], Unit, fun _ _ => [.d (.lst ((List.range m).map fun i => .lst (vecL (G i) n))), .d (.lst xs), .no, .no, .no, .no], fun j _ => ∀ i, i < j → arF (xs.getD i .non) ((n : Nat) : Int) = true ∧ ∀ l, l < n → valF (xs.getD i .non) l = G i l, ?_, ⟨(), fun i hi => absurd hi (Nat.not_lt_zero _), Wk.refl⟩, fun B' j x s hp hP => ?_, fun Γ' s hP w => ?_⟩
  · unfold zipD
    apply List.ext_getElem?
    intro i
    by_cases hi : i < m
    · simp [hi, List.getElem?_zip_eq_some, h1]
    · rw [List.getElem?_eq_none (by simp; omega), List.getElem?_eq_none (by simp; omega)]
  · obtain ⟨rfl, hi⟩ := rng_get hp
    have g : xs[x]? = some (xs.getD x .non) := by rw [List.getD_eq_getElem?_getD]; simp [h1, hi]
    have hr := hrow _ (List.mem_of_getElem? g)
    have kn := hr.kn
    have val := hr.val b1
    walk_at "h"
    refine ck_lt T kn ?_
    walk_at "h"
    refine ⟨fun hs => ?_, fun hs => ?_⟩
    · walk_at "h"
      refine h false ⟨fun z => (nomatch z), fun ⟨ys, hy, _, h3⟩ => ?_⟩
      exfalso
      cases hy
      have := (h3 x hi).1
      unfold arF at this
      rw [isSeq_seqOf (by simpa using hs)] at this
      cases this
    · obtain ⟨k1, ys, e⟩ := isSeq_ex (d := xs.getD x .non) (by revert hs; cases (xs.getD x .non).isSeq <;> intro hs <;> first | rfl | cases hs)
      have hsq : seqOf (xs.getD x .non) = some ys := by rw [e]; exact seqOf_kd
      have kl := hr.len ys hsq
      have ki := hr.it ys hsq
      rw [e]
      walk_at "h"
      refine ⟨ys, _, rfl, ki, kl, ?_⟩
      rw [vecL_len]
      by_cases hc : (ys.length : Int) = ((n : Nat) : Int) ∧ ys.all D.isFrac = true
      · rw [if_pos hc]
        have ha : arF (xs.getD x .non) ((n : Nat) : Int) = true := by unfold arF; rw [hsq]; simp [hc.1, hc.2]
        obtain ⟨k2, e2⟩ := vec_valF ha
        have e3 : ys = vec (valF (xs.getD x .non)) n := by
          have := hsq
          rw [e2, seqOf_kd] at this
          exact (Option.some.inj this).symm
        rw [e3, vec_prO]
        walk_at "h"
        refine ⟨(n : Int), by rw [vecL_len], by omega, by omega, ?_⟩
        refine ⟨Nat, List.range n, _, fun i => .bl (decide (valF (xs.getD x .non) i = G x i)), rng1, Nat.le_of_lt (small1000 (by simp; omega)), fun W1 i hi => ?_, ?_⟩
        · have hi := List.mem_range.mp hi
          walk_at "h"
          refine x_at (atI_nat (vecL_at hi)) ?_
          walk_at "h"
          refine x_at (atI_nat (vecL_at hi)) ?_
          walk_at "h"
          exact ⟨_, _, _, _, _, _, rfl, LR.bdl (val i), LR.bdl (hG x i), hb, hb, rfl⟩
        refine ⟨rfl, (List.range n).map fun i => decide (valF (xs.getD x .non) i = G x i), by rw [List.map_map]; rfl, ?_⟩
        have hall : (((List.range n).map fun i => decide (valF (xs.getD x .non) i = G x i)).all id) = true ↔ ∀ l, l < n → valF (xs.getD x .non) l = G x l := by
          rw [List.all_map, List.all_eq_true]
          constructor
          · intro h5 l hl
            have := h5 l (List.mem_range.mpr hl)
            exact of_decide_eq_true this
          · intro h5 l hl
            exact decide_eq_true (h5 l (List.mem_range.mp hl))
        refine ⟨_, rfl, fun h4 => ?_, fun h4 => ?_⟩
        · walk_at "h"
          refine h false ⟨fun z => (nomatch z), fun ⟨zs, hy, _, h3⟩ => ?_⟩
          exfalso
          cases hy
          rw [hall.mpr (h3 x hi).2] at h4
          cases h4
        · walk_at "h"
          have h5 := hall.mp (by revert h4; cases (((List.range n).map fun i => decide (valF (xs.getD x .non) i = G x i)).all id) <;> intro h4 <;> first | rfl | cases h4)
          refine ⟨(), fun i' hi' => ?_, .same (.same (.no (.no (.no (.no .nil)))))⟩
          rcases Nat.lt_or_ge i' x with z | z
          · exact hP i' z
          · have : i' = x := by omega
            subst this
            exact ⟨ha, h5⟩
      · rw [if_neg hc]
        walk_at "h"
        refine h false ⟨fun z => (nomatch z), fun ⟨zs, hy, _, h3⟩ => ?_⟩
        exfalso
        cases hy
        have := (h3 x hi).1
        unfold arF at this
        rw [hsq] at this
        simp only [Bool.and_eq_true, decide_eq_true_eq] at this
        exact hc this
  · refine sx_weak w ?_
    rw [List.length_range] at hP
    walk_at "g"
    exact h true ⟨fun _ => ⟨xs, rfl, h1, hP⟩, fun _ => rfl⟩

end

end K
end

section
set_option maxRecDepth 100000
set_option maxHeartbeats 4000000
namespace K
open PySem PySem.Spec PyProof.Rows L2 G

theorem cutD_mem {l : List D} {lo hi : Option Int} {x : D} (h : x ∈ G.cutD l lo hi) : x ∈ l := List.mem_of_mem_drop (List.mem_of_mem_take h)
theorem cutD_len {l : List D} {lo hi : Option Int} : (G.cutD l lo hi).length ≤ l.length := by
  unfold G.cutD
  rw [List.length_take, List.length_drop]; omega
theorem atI_mem {l : List D} {r : Int} (h0 : 0 ≤ r) (h1 : r < (l.length : Int)) : ∃ x, atI l r = some x ∧ x ∈ l := by
  obtain ⟨i, rfl⟩ : ∃ i : Nat, r = (i : Int) := ⟨r.toNat, by omega⟩
  have hi : i < l.length := by omega
  exact ⟨l[i], atI_nat (by simp [hi]), List.getElem_mem hi⟩
theorem atI_memD {l : List D} {r : Int} {x : D} (h : atI l r = some x) : x ∈ l := by
  unfold atI at h
  cases e : ixN l.length r with
  | none => rw [e] at h; cases h
  | some n => rw [e] at h; exact List.mem_of_getElem? h
theorem rowK_lst {b : Nat} {k : Kd} {l : List D} (h1 : l.length ≤ 1000) (h2 : ∀ y ∈ l, Kn y) (h3 : ∀ q, D.frac q ∈ l → Bd b q) : RowK b (Kd.d k l) where
  kn := kn_kd
  len := fun ys h => by rw [seqOf_kd] at h; cases h; exact h1
  it := fun ys h => by rw [seqOf_kd] at h; cases h; exact h2
  bd := fun ys h => by rw [seqOf_kd] at h; cases h; exact h3
theorem rowK_no {b : Nat} {x : D} (h : Kn x) (hs : seqOf x = none) : RowK b x where
  kn := h
  len := fun ys h => by rw [hs] at h; cases h
  it := fun ys h => by rw [hs] at h; cases h
  bd := fun ys h => by rw [hs] at h; cases h
theorem rowK_vec {b n : Nat} {g : Nat → Rat} (hn : n ≤ 1000) (h : ∀ i, Bd b (g i)) : RowK b (.lst (vec g n)) := rowK_lst (k := .l) (by rw [vec_len]; exact hn) (fun y hy => by obtain ⟨i, _, rfl⟩ := List.mem_map.mp hy; exact .frac _) fun q hq => by obtain ⟨i, _, e⟩ := List.mem_map.mp hq; cases e; exact h i
theorem tabK_lst {b : Nat} {k : Kd} {xs : List D} (h1 : xs.length ≤ 1000) (h2 : ∀ x ∈ xs, RowK b x) : TabK b (Kd.d k xs) where
  kn := kn_kd
  len := fun ys h => by rw [seqOf_kd] at h; cases h; exact h1
  row := fun ys h => by rw [seqOf_kd] at h; cases h; exact h2
theorem RowK.mono {b c : Nat} {x : D} (h : RowK b x) (hb : b ≤ c) : RowK c x := ⟨h.kn, h.len, h.it, fun ys hy q hq => (h.bd ys hy q hq).mono hb⟩
theorem resFL_id {cs : List (Addr × List D)} : ∀ l : List D, ResFL cs l l
  | [] => .nil
  | _ :: l => .cons .id (resFL_id l)
theorem frz_top {b m : Nat} {cs : List (Addr × List D)} {f : Nat → Addr} {L : Nat → List D} (h1 : ∀ i, i < m → (f i, L i) ∈ cs) (h4 : ∀ i, i < m → RowK b (.lst (L i))) : ∀ top : List D, (∀ x ∈ top, (∃ i, i < m ∧ x = .adr (f i)) ∨ RowK b x) → ∃ xs, ResFL cs top xs ∧ (∀ x ∈ xs, RowK b x) ∧ xs.length = top.length
  | [], _ => ⟨[], .nil, fun _ h => (nomatch h), rfl⟩
  | x :: top, h => by
    obtain ⟨xs, r, k, hl⟩ := frz_top h1 h4 top fun y hy => h y (List.mem_cons_of_mem _ hy)
    rcases h x List.mem_cons_self with ⟨i, hi, rfl⟩ | hx
    · exact ⟨.lst (L i) :: xs, .cons (.adr (h1 i hi) (resFL_id _)) r, fun y hy => by
        rcases List.mem_cons.mp hy with rfl | hy
        · exact h4 i hi
        · exact k y hy, by simp [hl]⟩
    · exact ⟨x :: xs, .cons .id r, fun y hy => by
        rcases List.mem_cons.mp hy with rfl | hy
        · exact hx
        · exact k y hy, by simp [hl]⟩
theorem frz_tab {b m : Nat} {cs : List (Addr × List D)} {f : Nat → Addr} {L : Nat → List D} {a : Addr} {top : List D} (h2 : (a, top) ∈ cs) (h1 : ∀ i, i < m → (f i, L i) ∈ cs) (h4 : ∀ i, i < m → RowK b (.lst (L i))) (h3 : ∀ x ∈ top, (∃ i, i < m ∧ x = .adr (f i)) ∨ RowK b x) : ∃ xs, ResF cs (.adr a) (.lst xs) ∧ (∀ x ∈ xs, RowK b x) ∧ xs.length = top.length := by
  obtain ⟨xs, r, k, hl⟩ := frz_top h1 h4 top h3
  exact ⟨xs, .adr h2 r, k, hl⟩
theorem addr_f {as : List Addr} {m : Nat} (h : as.length = m) : ∃ f : Nat → Addr, as = (List.range m).map f := ⟨fun i => as.getD i 0, by
  apply List.ext_getElem?
  intro i
  by_cases hi : i < m
  · have : i < as.length := by omega
    simp [hi, List.getD_eq_getElem?_getD, this]
  · rw [List.getElem?_eq_none (by omega), List.getElem?_eq_none (by simp; omega)]⟩
theorem zipC_map {f : Nat → Addr} {L : Nat → List D} : ∀ l : List Nat, zipC (l.map f) (l.map L) = l.map fun i => (f i, L i)
  | [] => rfl
  | x :: l => by simp [zipC, zipC_map l]
structure CsOk (cs : List (Addr × List D)) (a : Addr) (f : Nat → Addr) (l0 : List D) (L : Nat → List D) (m : Nat) : Prop where
  i : ∀ i, i < m → cs[i]? = some (f i, L i)
  a : cs[m]? = some (a, l0)
  at_ : ∀ i, i < m → l0[i]? = some (.adr (f i))
  len : l0.length = m
  all : ∀ x ∈ l0, ∃ i, i < m ∧ x = .adr (f i)
theorem csOk {as : List Addr} {a : Addr} {L : Nat → List D} {m : Nat} (h : as.length = m) : ∃ f, CsOk ([] ++ (zipC as ((List.range m).map L) ++ [(a, as.map .adr)])) a f (as.map .adr) L m := by
  obtain ⟨f, rfl⟩ := addr_f h
  rw [zipC_map, List.nil_append]
  refine ⟨f, fun i hi => ?_, ?_, fun i hi => ?_, by simp, fun x hx => ?_⟩
  · rw [List.getElem?_append_left (by simp [hi])]; simp [hi]
  · rw [List.getElem?_append_right (by simp)]; simp
  · simp [hi]
  · simp at hx
    obtain ⟨i, hi, e⟩ := hx
    exact ⟨i, hi, e.symm⟩
theorem bd_move {p : Rat} (hp : Bd 400 p) {n d : Int} (hn : n = 1 ∨ n = -1) (hd : d = 1 ∨ d = 7 ∨ d = 1000000000) : Bd 480 (p + Rat.divInt n d) := by
  have : Bd 31 (Rat.divInt n d) := by
    rcases hn with rfl | rfl <;> rcases hd with rfl | rfl | rfl <;> exact bd_div (by decide) (by decide) (by decide)
  exact (hp.add this).mono (by decide)
section
local macro_rules | `(tactic| walk_at "e") => `(tactic| first
  | ((with_reducible refine' ek_var ?h1 ?_); (case h1 => exact rfl))
  | (with_reducible refine ek_int ?_)
  | (with_reducible refine ek_bl ?_)
  | (with_reducible refine ek_non ?_)
  | (with_reducible refine ek_str ?_)
  | (with_reducible refine ek_ty ?_)
  | (with_reducible refine ek_cls ?_)
  | (with_reducible refine ek_ix ?_)
  | (with_reducible refine ek_un ?_)
  | (with_reducible refine ek_tup ?_)
  | (with_reducible refine k_call ?_)
  | (with_reducible refine ek_len ?_)
  | (with_reducible refine ek_tuple ?_)
  | (with_reducible refine ek_sum ?_)
  | (with_reducible refine ek_all ?_)
  | (with_reducible refine ek_any ?_)
  | (with_reducible refine ek_chain ?_)
  | (with_reducible refine ek_andV ?_)
  | (with_reducible refine ek_orV ?_)
  | (with_reducible refine ek_notV ?_)
  | (with_reducible refine ek_if ?_)
  | (with_reducible refine ek_ef (ef_lst ?_))
  | (with_reducible refine ek_ef (ef_list ?_))
  | (with_reducible refine ek_ef (ef_cat ?_))
  | (with_reducible refine ek_ef (ef_rep ?_))
  | (with_reducible refine ek_ef (ef_slice ?_))
  | (with_reducible refine ek_ef (ef_rev ?_))
  | (with_reducible refine ek_ef (ef_lstRev ?_))
  | (with_reducible refine ek_ef (ef_map ?_))
  | (with_reducible refine ek_ef (ef_filt ?_))
  | (with_reducible refine ef_lst ?_)
  | (with_reducible refine ef_list ?_)
  | (with_reducible refine ef_cat ?_)
  | (with_reducible refine ef_rep ?_)
  | (with_reducible refine ef_slice ?_)
  | (with_reducible refine ef_rev ?_)
  | (with_reducible refine ef_lstRev ?_)
  | (with_reducible refine ef_map ?_)
  | (with_reducible refine ef_filt ?_)
  | ((with_reducible refine' el_var ?h1 ?_); (case h1 => exact rfl))
  | ((with_reducible refine' el_own ?h1 ?_); (case h1 => exact rfl))
  | (with_reducible refine el_ef (ef_lst ?_))
  | (with_reducible refine el_ef (ef_list ?_))
  | (with_reducible refine el_ef (ef_cat ?_))
  | (with_reducible refine el_ef (ef_rep ?_))
  | (with_reducible refine el_ef (ef_slice ?_))
  | (with_reducible refine el_ef (ef_rev ?_))
  | (with_reducible refine el_ef (ef_lstRev ?_))
  | (with_reducible refine el_ef (ef_map ?_))
  | (with_reducible refine el_ef (ef_filt ?_))
  | (with_reducible refine ek_op ?_)
  | (with_reducible refine ek_cb ?_)
  | (with_reducible refine el_ek ?_)
  | (with_reducible refine tk_test ?_)
  | (with_reducible refine tk_B ?_)
  | (with_reducible refine tk_and ?_)
  | (with_reducible refine tk_or ?_)
  | (with_reducible refine tk_not ?_)
  | (with_reducible refine tk_yes ?_)
  | (with_reducible refine ak_nil ?_)
  | (with_reducible refine ak_cons ?_)
  | (with_reducible refine k_num (‹Tx _ _›) ?_)
  | (with_reducible refine k_den (‹Tx _ _›) ?_)
  | (with_reducible refine k_mk2 ?_)
  | (with_reducible refine k_mkO ?_)
  | (with_reducible refine k_rows (‹Tx _ _›) ?_)
  | (with_reducible refine k_mk1 ?_)
  | (with_reducible refine k_bel ?_)
  | (with_reducible refine k_own ?_)
  | (with_reducible refine rk_U2 (k_own ?_))
  | (with_reducible refine rk_mul (Sz.mul (by assumption) (by assumption)) ?_)
  | (with_reducible refine rk_U1 (rk_mul (Sz.mul (by assumption) (by assumption)) ?_))
  | (with_reducible refine ek_dget ?_)
  | (with_reducible refine uk_neg ?_)
  | (with_reducible refine ek_disp ?_)
  | (with_reducible refine pk_cons ?_)
  | (with_reducible refine pk_nil ?_)
  | (with_reducible refine rk_mod (by assumption) ?_)
  | (with_reducible refine rk_add ?_)
  | (with_reducible refine rk_sub ?_)
  | (with_reducible refine rk_lt ?_)
  | (with_reducible refine rk_le ?_)
  | (with_reducible refine rk_gt ?_)
  | (with_reducible refine rk_ge ?_)
  | (with_reducible refine rk_eqI ?_)
  | (with_reducible refine rk_neI ?_)
  | (with_reducible refine rk_isN ?_)
  | (with_reducible refine rk_notN ?_)
  | (with_reducible refine rk_U1 (rk_add ?_))
  | (with_reducible refine rk_U1 (rk_sub ?_))
  | (with_reducible refine ck_gcd ?_)
  | (with_reducible refine ck_abs ?_)
  | (with_reducible refine ck_int ?_)
  | (with_reducible refine ik_seq ?_)
  | (with_reducible refine ik_range1 ?_)
  | (with_reducible refine ik_range2 ?_)
  | (with_reducible refine ik_enumA ?_)
  | (with_reducible refine ik_zip ?_)
  | (with_reducible refine ik_rev ?_)
  | ((with_reducible refine' cg_name ?_ ?h1 ?h2); (case h1 => exact rfl); (case h2 => decide))
  | ((with_reducible refine' cg_anyT ?h1 ?_); (case h1 => exact rfl))
  | ((with_reducible refine' cg_anyL ?h1 ?_); (case h1 => exact rfl))
  | ((with_reducible refine' cg_anyK ?h1 ?_); (case h1 => exact rfl))
  | ((with_reducible refine' cgs_cons ?_ ?h1 ?h2); (case h1 => exact rfl); (case h2 => decide))
  | (with_reducible refine cgs_nil ?_)
  | ((with_reducible refine' gk_name ?_ ?h1); (case h1 => exact rfl))
  | ((with_reducible refine' gk_anyT ?h1 ?_); (case h1 => exact rfl))
  | ((with_reducible refine' gk_anyL ?h1 ?_); (case h1 => exact rfl))
  | ((with_reducible refine' gk_anyK ?h1 ?_); (case h1 => exact rfl))
  | ((with_reducible refine' gks_cons ?_ ?h1); (case h1 => exact rfl))
  | ((with_reducible refine' gks_consA (n := 0) ?_ ?h1 ?h2); (case h1 => exact rfl); (case h2 => exact rfl))
  | ((with_reducible refine' gks_consB ?h0 ?_ ?h1 ?h2); (case h0 => exact rfl); (case h1 => exact rfl); (case h2 => exact rfl))
  | (with_reducible refine gks_nil ?_)
  | (with_reducible refine ok_none ?_)
  | (with_reducible refine ok_some ?_))
local macro_rules | `(tactic| walk_at "s") => `(tactic| first
  | (with_reducible refine sx_guard ?_ ?_)
  | (with_reducible refine sx_seq ?_)
  | (with_reducible refine sx_ret ?_)
  | (with_reducible refine sx_if ?_)
  | (with_reducible refine sx_next ?_)
  | (with_reducible refine sx_break ?_)
  | (with_reducible refine sx_cont ?_)
  | ((with_reducible refine' sx_append ?h1 ?_); (case h1 => exact rfl))
  | ((with_reducible refine' sx_setI ?h1 ?_); (case h1 => exact rfl))
  | ((with_reducible refine' sx_set ?h1 ?_); (case h1 => exact rfl))
  | (with_reducible refine sx_asg ?_)
  | ((with_reducible refine' sx_par ?h1 ?h2 ?_); (case h1 => exact rfl); (case h2 => exact rfl))
  | (with_reducible refine sx_drop ?_)
  | ((with_reducible refine' k_fldS (‹Tx _ _›) ?h1 ?h2 ?h3 ?_); (case h1 => exact rfl); (case h2 => decide); (case h3 => exact rfl))
  | ((with_reducible refine' k_fldO (‹Tx _ _›) ?h1 ?h3 ?_); (case h1 => exact rfl); (case h3 => exact rfl)))
/-! plain existentials that the rules leave -/
local macro_rules | `(tactic| walk_at "x") => `(tactic| first
  | (with_reducible refine x_bl ?_)
  | (with_reducible refine x_int ?_)
  | (with_reducible refine x_frac ?_)
  | (with_reducible refine x_lst ?_)
  | (with_reducible refine x_off ?_)
  | (with_reducible refine x_low ?_)
  | (with_reducible refine x_ownR ?_)
  | (with_reducible refine x_ownA ?_)
  | (with_reducible refine x_tup ?_)
  | (with_reducible refine x_kd ?_)
  | (with_reducible refine x_oneL ?_)
  | (with_reducible refine x_oneT ?_)
  | (with_reducible refine x_one ?_)
  | ((with_reducible refine' x_at ?h1 ?_); (case h1 => exact rfl))
  | ((with_reducible refine' x_dic ?h1 ?_); (case h1 => exact rfl))
  | (with_reducible refine (⟨rfl, ?_⟩ : Kd.l = Kd.l ∧ _))
  | ((with_reducible refine' x_len ?h1 ?_); (case h1 => exact rfl))
  | ((with_reducible refine' br_t ?h1 ?_); (case h1 => exact rfl))
  | ((with_reducible refine' br_f ?h1 ?_); (case h1 => exact rfl)))
local macro_rules | `(tactic| walk_at "f") => `(tactic| first
  | ((with_reducible refine' sx_forW ?h1 ?_); (case h1 => exact rfl))
  | (with_reducible refine sx_forGW ?_))
local macro_rules | `(tactic| walk_at "g") => `(tactic| repeat (first | walk_at "s" | walk_at "f" | walk_at "e" | walk_at "x"))
local macro_rules | `(tactic| walk_at "v") => `(tactic| repeat (first | walk_at "e" | walk_at "x"))
local macro_rules | `(tactic| walk_at "h") => `(tactic| repeat (first | walk_at "s" | walk_at "e" | walk_at "x"))
variable {P : Program} {w : World} {K : PySem.W.Frag} {mg : Str → Option Value} {base : Heap}

theorem rk_pow9 {B : Bs} {Q : D → Prop} (k : Q (.int 1000000000)) : RK (CL K nn) B (rI CPow fun i j => .int (i ^ j.toNat)) (.int 10) (.int 9) Q := rk_I (d := .int 1000000000) (fun _ => .int _) ⟨by decide, by decide, by decide⟩ k
theorem el_adrV {C : Cl} {B : Bs} {Γ : List Sl} {Q : Kd → List D → Prop} {i j : Nat} {cs : List (Addr × List D)} {a : Addr} {l : List D} (hi : Γ[i]? = some (.d (.adr a))) (hj : Γ[j]? = some (.reg cs)) (hm : (a, l) ∈ cs) (h : Q .l l) : EL C B Γ (tVar i) Q := el_adr hj (ek_var hi ⟨a, l, rfl, hm, h⟩)
theorem el_adrIx {C : Cl} {B : Bs} {Γ : List Sl} {KK : PySem.W.Frag} {tb : TE} {Q : Kd → List D → Prop} {i j : Nat} {cs : List (Addr × List D)} {a : Addr} {l : List D} (hi : Γ[i]? = some (.d (.adr a))) (hj : Γ[j]? = some (.reg cs)) (hm : (a, l) ∈ cs) (h : EK C B Γ tb fun d2 => ∃ n b l', d2 = .int n ∧ atI l n = some (.adr b) ∧ (b, l') ∈ cs ∧ Q .l l') : EL C B Γ (tOp (rIx KK) (tVar i) tb) Q :=
  el_adr hj (ek_ix (el_adrV hi hj hm fun W H σ e P q => h W H σ e P fun d v W' H' s r ⟨n, b, l', e1, e2, e3, k⟩ => q d v W' H' s r ⟨n, .adr b, e1, e2, b, l', rfl, e3, k⟩))
theorem sx_setE {C : Cl} {B : Bs} {Γ : List Sl} {te to ti : TE} {nx bk ct : List Sl → Prop} {rt : List Sl → D → Prop} {j : Nat} {cs : List (Addr × List D)} (hj : Γ[j]? = some (.reg cs)) (h : EK C B Γ te fun d => EK C B Γ to fun d0 => ∃ a, d0 = .adr a ∧ EK C B Γ ti fun d2 => ∃ k l i n, cs[k]? = some (a, l) ∧ d2 = .int i ∧ ixN l.length i = some n ∧ nx (Γ.set j (.reg (cs.set k (a, l.set n d))))) :
    SX C B Γ (tAsg te (gSub to ti rSetL)) nx rt bk ct := sx_setC hj (en_ek (by
  have e : Γ.set j (.reg (cs ++ [])) = Γ := by
    rw [List.append_nil]
    apply List.ext_getElem?
    intro i
    rw [List.getElem?_set]
    by_cases hi : j = i
    · subst hi
      rw [if_pos rfl, if_pos (List.getElem?_eq_some_iff.mp hj).1, hj]
    · rw [if_neg hi]
  rw [e, List.append_nil]; exact h))
local macro_rules | `(tactic| walk_at "e") => `(tactic| first
  | ((with_reducible refine' el_adrV (j := 7) ?h1 ?h2 ?h3 ?_); (case h1 => exact rfl); (case h2 => exact rfl); (case h3 => assumption))
  | ((with_reducible refine' el_adrIx (j := 7) ?h1 ?h2 ?h3 ?_); (case h1 => exact rfl); (case h2 => exact rfl); (case h3 => assumption))
  | (with_reducible refine rk_pow9 ?_))
def S__law_bent : List D → (D → Prop) → Prop := fun l K => ∃ (m n m' n' : Nat) (G G' : Nat → Nat → Rat), l = [.pool, tabG m n G, tabG m' n' G'] ∧ 1 ≤ m ∧ m ≤ 10 ∧ 1 ≤ n ∧ n ≤ 10 ∧ m' ≤ 10 ∧ n' ≤ 10 ∧ (∀ i j, Bd 400 (G i j)) ∧ (∀ i j, Bd 400 (G' i j)) ∧ ∀ xs, TabK 480 (.lst xs) → K (.lst xs)
theorem ok__law_bent (T : Tx K mg) (c__law_draw : Cal P w K mg base 1 "_law_draw" ["bag", "many"] (SpFam (CL K) S__law_draw)) (c__law_written_N : Cal P w K mg base 4 "_law_written" ["table"] (SpFamN (CL K) S__law_written_N)) (o_add : CalO P w K mg base 4 (He.ga K "Frac") .Add (SpFam (CL K) S_FracD_addD)) (m_Frac2 : CalM P w K mg base 2 "Frac" [] (SpFamI (CL K) (He.ga K "Frac") S_FracD_initD)) (m_Frac1 : CalM P w K mg base 2 "Frac" [.int 1] (SpFamI (CL K) (He.ga K "Frac") S_FracD_initD)) (c__law_written : Cal P w K mg base 4 "_law_written" ["table"] (SpFam (CL K) S__law_written)) : Cal P w K mg base 5 "_law_bent" ["bag", "table", "other"] (SpFam (CL K) S__law_bent) := by
  refine cal_mkF (N := ["bag", "table", "other", "kind", "rows", "at", "left"]) T.g__law_bent T.d__law_bent sc__law_bent (fun _ _ _ _ _ _ us hl => match us, hl with | [_, _, _], _ => rfl) (by intro l Q h; first | (obtain ⟨rfl, _⟩ := h; rfl) | (obtain ⟨_, rfl, _⟩ := h; rfl) | (obtain ⟨_, _, rfl, _⟩ := h; rfl) | (obtain ⟨_, _, _, rfl, _⟩ := h; rfl) | (obtain ⟨_, _, _, _, rfl, _⟩ := h; rfl) | (obtain ⟨_, _, _, _, _, rfl, _⟩ := h; rfl) | (obtain ⟨_, _, _, _, _, _, rfl, _⟩ := h; rfl) | (obtain ⟨_, _, _, _, _, _, _, rfl, _⟩ := h; rfl) | (obtain ⟨_, _, _, _, _, _, _, _, rfl, _⟩ := h; rfl) | (obtain ⟨_, _, _, _, _, _, _, _, _, rfl, _⟩ := h; rfl) | (obtain ⟨_, _, _, _, _, _, _, _, _, _, rfl, _⟩ := h; rfl) | (obtain ⟨_, _, _, _, _, _, _, _, _, _, _, rfl, _⟩ := h; rfl)) (fun f cdv A outer s H E hr => ⟨_, (pss_cons (ps_set (i := 3) sc__law_bent.nd rfl (by first | exact Or.inl rfl | exact Or.inr rfl) (pe_calC c__law_draw hr (by decide) (by rfl) (pa_cons (pv 0) (pa_cons pe_int pa_nil)))) (pss_cons (ps_set (i := 4) sc__law_bent.nd rfl (by first | exact Or.inl rfl | exact Or.inr rfl) (pe_calC c__law_written_N hr (by decide) (by rfl) (pa_cons (pv 1) pa_nil))) (pss_cons (ps_set (i := 5) sc__law_bent.nd rfl (by first | exact Or.inl rfl | exact Or.inr rfl) (pe_calC c__law_draw hr (by decide) (by rfl) (pa_cons (pv 0) (pa_cons (pe_callB (cr_lenK K rfl) (by rfl) T.b_len PySem.boot_len (pa_cons (pv 4) pa_nil)) pa_nil)))) (pss_cons (ps_set (i := 6) sc__law_bent.nd rfl (by first | exact Or.inl rfl | exact Or.inr rfl) (pe_calC c__law_draw hr (by decide) (by rfl) (pa_cons (pv 0) (pa_cons (pe_callB (cr_lenK K rfl) (by rfl) T.b_len PySem.boot_len (pa_cons (pe_ix (ix_seqK K rfl) (pv 4) pe_int (fun _ _ => rfl)) pa_nil)) pa_nil)))) (pss_cons (ps_if (pt_cmpR op_ltI (pv 3) pe_int (nomark _)) (pss_one (ps_asg (pe_op (op_U op_addI (o_add.op hr (by decide))) (pe_ix (ix_seqK K rfl) (pe_ix (ix_seqK K rfl) (pv 4) (pv 5) (fun _ _ => rfl)) (pv 6) (fun _ _ => rfl)) (pe_mkK K rfl m_Frac2 hr (by decide) (by rfl) (pa_cons (pe_ix (ix_seqK K rfl) (pe_tup (pa_cons pe_int (pa_cons (pe_op op_subI pe_int pe_int) pa_nil))) (pe_calC c__law_draw hr (by decide) (by rfl) (pa_cons (pv 0) (pa_cons pe_int pa_nil))) (fun _ _ => rfl)) (pa_cons (pe_ix (ix_seqK K rfl) (pe_tup (pa_cons pe_int (pa_cons pe_int (pa_cons (pe_op op_pow pe_int pe_int) pa_nil)))) (pv 3) (fun _ _ => rfl)) pa_nil)))) (pg_sub (pe_ix (ix_seqK K rfl) (pv 4) (pv 5) (fun _ _ => rfl)) (pv 6) set_list))) (pss_one (ps_if (pt_cmpR op_eq (pv 3) pe_int (nomark _)) (pss_one (ps_set (i := 4) sc__law_bent.nd rfl (by first | exact Or.inl rfl | exact Or.inr rfl) (pe_op op_cat (pe_slice (sl_listK K rfl) (pv 4) po_none (po_some (pv 5))) (pe_slice (sl_listK K rfl) (pv 4) (po_some (pe_op (op_U op_addI (o_add.op hr (by decide))) (pv 5) pe_int)) po_none)))) (pss_one (ps_if (pt_cmpR op_eq (pv 3) pe_int (nomark _)) (pss_one (ps_set (i := 4) sc__law_bent.nd rfl (by first | exact Or.inl rfl | exact Or.inr rfl) (pe_op op_cat (pe_op op_cat (pe_slice (sl_listK K rfl) (pv 4) po_none (po_some (pv 5))) (pe_lst (pa_cons (pe_ix (ix_seqK K rfl) (pv 4) (pv 5) (fun _ _ => rfl)) pa_nil))) (pe_slice (sl_listK K rfl) (pv 4) (po_some (pv 5)) po_none)))) (pss_one (ps_if (pt_cmpR op_eq (pv 3) pe_int (nomark _)) (pss_one (ps_asg (pe_ix (ix_seqK K rfl) (pe_tup (pa_cons (pe_op op_cat (pe_ix (ix_seqK K rfl) (pv 4) (pv 5) (fun _ _ => rfl)) (pe_lst (pa_cons (pe_mkK K rfl m_Frac1 hr (by decide) (by rfl) (pa_cons pe_int pa_nil)) pa_nil))) (pa_cons (pe_slice (sl_listK K rfl) (pe_ix (ix_seqK K rfl) (pv 4) (pv 5) (fun _ _ => rfl)) (po_some pe_int) po_none) pa_nil))) (pe_calC c__law_draw hr (by decide) (by rfl) (pa_cons (pv 0) (pa_cons pe_int pa_nil))) (fun _ _ => rfl)) (pg_sub (pv 4) (pv 5) set_list))) (pss_one (ps_if (pt_cmpR op_eq (pv 3) pe_int (nomark _)) (pss_one (ps_asg (pe_ix (ix_seqK K rfl) (pe_tup (pa_cons pe_int (pa_cons pe_int (pa_cons pe_non (pa_cons pe_str (pa_cons pe_bl pa_nil)))))) (pe_calC c__law_draw hr (by decide) (by rfl) (pa_cons (pv 0) (pa_cons pe_int pa_nil))) (fun _ _ => rfl)) (pg_sub (pe_ix (ix_seqK K rfl) (pv 4) (pv 5) (fun _ _ => rfl)) (pv 6) set_list))) (pss_one (ps_if (pt_cmpR op_eq (pv 3) pe_int (nomark _)) (pss_one (ps_set (i := 4) sc__law_bent.nd rfl (by first | exact Or.inl rfl | exact Or.inr rfl) (pe_calC c__law_written hr (by decide) (by rfl) (pa_cons (pv 2) pa_nil)))) (pss_one (ps_if (pt_cmpR op_eq (pv 3) pe_int (nomark _)) (pss_one (ps_asg (pe_op op_rep (pe_lst (pa_cons (pe_mkK K rfl m_Frac1 hr (by decide) (by rfl) (pa_cons pe_int pa_nil)) pa_nil)) (pe_callB (cr_lenK K rfl) (by rfl) T.b_len PySem.boot_len (pa_cons (pe_ix (ix_seqK K rfl) (pv 4) pe_int (fun _ _ => rfl)) pa_nil))) (pg_sub (pv 4) (pe_op op_subI (pe_callB (cr_lenK K rfl) (by rfl) T.b_len PySem.boot_len (pa_cons (pv 4) pa_nil)) pe_int) set_list))) (pss_one (ps_asg (pe_ix (ix_seqK K rfl) (pe_tup (pa_cons pe_non (pa_cons pe_int (pa_cons pe_str pa_nil)))) (pe_calC c__law_draw hr (by decide) (by rfl) (pa_cons (pv 0) (pa_cons pe_int pa_nil))) (fun _ _ => rfl)) (pg_sub (pv 4) (pv 5) set_list)))))))))))))))) (pss_one (ps_ret (pv 4)))))))), ?_⟩)
  intro nn B l Q h
  obtain ⟨m, n, m', n', G, G', rfl, m1, hm, n1, hn, hm', hn', hG, hG', h⟩ := h
  refine sx_reg rfl ?_
  walk_at "g"
  refine ⟨10, rfl, by decide, by decide, fun kd k0 k1 => ?_⟩
  refine sx_seq ?_
  refine' sx_setN (j := 7) ?h1 ?h2 ?_
  case h1 => exact rfl
  case h2 => exact rfl
  refine en_call ?_
  walk_at "v"
  refine ⟨m, n, G, rfl, by omega, by omega, fun i j => (hG i j).sz (by decide), fun as a hl => ?_⟩
  obtain ⟨f, ok⟩ := csOk (a := a) (L := fun i => vec (G i) n) hl
  generalize [] ++ (zipC as ((List.range m).map fun i => vec (G i) n) ++ [(a, as.map .adr)]) = cs at ok ⊢
  generalize as.map D.adr = l0 at ok
  have mA : (a, l0) ∈ cs := List.mem_of_getElem? ok.a
  have l0l := ok.len
  refine sx_seq ?_
  walk_at "h"
  refine ⟨(m : Int), by rw [ok.len], by omega, by omega, fun at_ a0 a1 => ?_⟩
  obtain ⟨u, rfl⟩ : ∃ u : Nat, at_ = (u : Int) := ⟨at_.toNat, by omega⟩
  have hu : u < m := by omega
  walk_at "h"
  refine ⟨_, f 0, vec (G 0) n, rfl, atI_nat (ok.at_ 0 (by omega)), List.mem_of_getElem? (ok.i 0 (by omega)), ?_⟩
  walk_at "h"
  refine ⟨(n : Int), by rw [vec_len], by omega, by omega, fun lf b0 b1 => ?_⟩
  obtain ⟨v, rfl⟩ : ∃ v : Nat, lf = (v : Int) := ⟨lf.toNat, by omega⟩
  have hv : v < n := by omega
  have g4 : ∀ i j, Bd 480 (G i j) := fun i j => (hG i j).mono (by decide)
  have rk : ∀ i, RowK 480 (.lst (vec (G i) n)) := fun i => rowK_vec (by omega) (g4 i)
  have fin0 : ∃ xs, ResF cs (.adr a) (.lst xs) ∧ (∀ x ∈ xs, RowK 480 x) ∧ xs.length = m := by
    obtain ⟨xs, r, k, hl⟩ := frz_tab (b := 480) (m := m) (L := fun i => vec (G i) n) mA (fun i hi => List.mem_of_getElem? (ok.i i hi)) (fun i _ => rk i) (fun x hx => .inl (ok.all x hx))
    exact ⟨xs, r, k, by rw [hl, l0l]⟩
  have fin1 : ∀ d : D, Kn d → (∀ q, d = .frac q → Bd 480 q) → ∃ xs, ResF (cs.set u (f u, (vec (G u) n).set v d)) (.adr a) (.lst xs) ∧ TabK 480 (.lst xs) := fun d kd bd => by
    have hA : (cs.set u (f u, (vec (G u) n).set v d))[m]? = some (a, l0) := by rw [List.getElem?_set_ne (by omega)]; exact ok.a
    obtain ⟨xs, r, k, hl⟩ := frz_tab (b := 480) (m := m) (f := f) (L := fun i => if i = u then (vec (G u) n).set v d else vec (G i) n) (List.mem_of_getElem? hA) (fun i hi => by
      by_cases hiu : i = u
      · subst hiu
        rw [if_pos rfl]
        have hlt : i < cs.length := (List.getElem?_eq_some_iff.mp (ok.i i hi)).1
        exact List.mem_of_getElem? (i := i) (by rw [List.getElem?_set_self hlt])
      · rw [if_neg hiu]
        exact List.mem_of_getElem? (i := i) (by rw [List.getElem?_set_ne (Ne.symm hiu)]; exact ok.i i hi)) (fun i hi => by
      by_cases hiu : i = u
      · rw [if_pos hiu]
        refine rowK_lst (k := .l) (by rw [List.length_set, vec_len]; omega) (fun y hy => ?_) (fun q hq => ?_)
        · rcases List.mem_or_eq_of_mem_set hy with hy | rfl
          · exact (rk u).it _ rfl y hy
          · exact kd
        · rcases List.mem_or_eq_of_mem_set hq with hq | e
          · exact (rk u).bd _ rfl q hq
          · exact bd q e.symm
      · rw [if_neg hiu]; exact rk i) (fun x hx => .inl (ok.all x hx))
    exact ⟨xs, r, tabK_lst (k := .l) (by rw [hl, l0l]; omega) k⟩
  have fin2 : ∀ (w' : Nat) (d : D), RowK 480 d → ∃ xs, ResF (cs.set m (a, l0.set w' d)) (.adr a) (.lst xs) ∧ TabK 480 (.lst xs) := fun w' d rd => by
    have hlt : m < cs.length := (List.getElem?_eq_some_iff.mp ok.a).1
    have hA : (cs.set m (a, l0.set w' d))[m]? = some (a, l0.set w' d) := by rw [List.getElem?_set_self hlt]
    obtain ⟨xs, r, k, hl⟩ := frz_tab (b := 480) (m := m) (f := f) (L := fun i => vec (G i) n) (List.mem_of_getElem? hA) (fun i hi => List.mem_of_getElem? (i := i) (by rw [List.getElem?_set_ne (by omega)]; exact ok.i i hi)) (fun i _ => rk i) (fun x hx => by
      rcases List.mem_or_eq_of_mem_set hx with hx | rfl
      · exact .inl (ok.all x hx)
      · exact .inr rd)
    exact ⟨xs, r, tabK_lst (k := .l) (by rw [hl, List.length_set, l0l]; omega) k⟩
  walk_at "h"
  refine br_p (fun h3 => ?_) (fun h3 => ?_)
  · refine' sx_setE (j := 7) ?h1 ?_
    case h1 => exact rfl
    walk_at "v"
    refine ⟨_, f u, vec (G u) n, rfl, atI_nat (ok.at_ u hu), List.mem_of_getElem? (ok.i u hu), ?_⟩
    walk_at "v"
    refine x_at (atI_nat (vec_at hv)) ?_
    walk_at "v"
    refine ⟨2, rfl, by decide, by decide, fun r r0 r1 => ?_⟩
    obtain ⟨x1, e1, hx1⟩ := atI_mem (l := [.int 1, .int (0 - 1)]) r0 r1
    refine x_at e1 ?_
    walk_at "v"
    obtain ⟨x2, e2, hx2⟩ := atI_mem (l := [.int 1, .int 7, .int 1000000000]) k0 (show kd < 3 from h3)
    refine x_at e2 ?_
    obtain ⟨i1, rfl, hi1⟩ : ∃ i : Int, x1 = .int i ∧ (i = 1 ∨ i = -1) := by
      simp at hx1; rcases hx1 with rfl | rfl
      · exact ⟨1, rfl, .inl rfl⟩
      · exact ⟨-1, rfl, .inr rfl⟩
    obtain ⟨i2, rfl, hi2⟩ : ∃ i : Int, x2 = .int i ∧ (i = 1 ∨ i = 7 ∨ i = 1000000000) := by
      simp at hx2; rcases hx2 with rfl | rfl | rfl
      · exact ⟨_, rfl, .inl rfl⟩
      · exact ⟨_, rfl, .inr (.inl rfl)⟩
      · exact ⟨_, rfl, .inr (.inr rfl)⟩
    walk_at "v"
    have hb2 : Bd 31 (Rat.divInt i1 i2) := by
      rcases hi1 with rfl | rfl <;> rcases hi2 with rfl | rfl | rfl <;> exact bd_div (by decide) (by decide) (by decide)
    refine ⟨_, _, rfl, by omega, Nat.lt_of_lt_of_le (show i2.natAbs < 2 ^ 31 by omega) (Nat.pow_le_pow_right (by decide) (by decide)), _, rfl, ?_⟩
    refine rk_U2 (k_own ?_)
    refine ⟨_, _, rfl, (hG u v).sz (by decide), hb2.sz (by decide), ?_⟩
    walk_at "v"
    refine x_at (atI_nat (ok.at_ u hu)) ?_
    refine ⟨_, rfl, ?_⟩
    walk_at "v"
    refine ⟨u, _, _, v, ok.i u hu, rfl, ixN_eq' rfl (by rw [vec_len]; exact hv), ?_⟩
    obtain ⟨xs, hr, tk⟩ := fin1 (.frac (G u v + Rat.divInt i1 i2)) (.frac _) (fun q e => by cases e; exact bd_move (hG u v) hi1 hi2)
    refine sx_frz (i := 4) (j := 7) rfl rfl hr ?_
    walk_at "h"
    exact h xs tk
  obtain ⟨xs0, hr0, rk0, xl0⟩ := fin0
  have tk0 : ∀ ys : List D, ys.length ≤ 1000 → (∀ y ∈ ys, y ∈ xs0) → TabK 480 (.lst ys) := fun ys hl hy => tabK_lst (k := .l) hl fun y h => rk0 y (hy y h)
  refine sx_if ?_
  walk_at "v"
  refine br_p (fun _ => ?_) (fun _ => ?_)
  · refine sx_frz (i := 4) (j := 7) rfl rfl hr0 ?_
    walk_at "h"
    have c1 := cutD_len (l := xs0) (lo := none) (hi := some (u : Int))
    have c2 := cutD_len (l := xs0) (lo := some ((u : Int) + 1)) (hi := none)
    refine ⟨Nat.le_of_lt (small1000 (by omega)), ?_⟩
    walk_at "h"
    refine h _ (tk0 _ (by rw [List.length_append]; omega) fun y hy => ?_)
    rcases List.mem_append.mp hy with hy | hy <;> exact cutD_mem hy
  refine sx_if ?_
  walk_at "v"
  refine br_p (fun _ => ?_) (fun _ => ?_)
  · refine sx_frz (i := 4) (j := 7) rfl rfl hr0 ?_
    walk_at "h"
    have c1 := cutD_len (l := xs0) (lo := none) (hi := some (u : Int))
    have c2 := cutD_len (l := xs0) (lo := some (u : Int)) (hi := none)
    obtain ⟨x1, e1, hx1⟩ := atI_mem (l := xs0) (r := (u : Int)) (by omega) (by omega)
    refine x_at e1 ?_
    walk_at "h"
    refine ⟨Nat.le_of_lt (small1000 (by simp; omega)), ?_⟩
    walk_at "h"
    refine ⟨Nat.le_of_lt (small1000 (by simp; omega)), ?_⟩
    walk_at "h"
    refine h _ (tk0 _ (by simp; omega) fun y hy => ?_)
    rcases List.mem_append.mp hy with hy | hy
    · rcases List.mem_append.mp hy with hy | hy
      · exact cutD_mem hy
      · cases List.mem_singleton.mp hy; exact hx1
    · exact cutD_mem hy
  refine sx_if ?_
  walk_at "v"
  refine br_p (fun _ => ?_) (fun _ => ?_)
  · refine' sx_setE (j := 7) ?h1 ?_
    case h1 => exact rfl
    walk_at "v"
    refine ⟨_, f u, vec (G u) n, rfl, atI_nat (ok.at_ u hu), List.mem_of_getElem? (ok.i u hu), ?_⟩
    walk_at "v"
    refine ⟨_, _, rfl, by decide, by decide, _, rfl, ?_⟩
    walk_at "v"
    refine ⟨Nat.le_of_lt (small1000 (by rw [vec_len]; simp; omega)), ?_⟩
    walk_at "v"
    refine ⟨_, f u, vec (G u) n, rfl, atI_nat (ok.at_ u hu), List.mem_of_getElem? (ok.i u hu), ?_⟩
    walk_at "v"
    refine ⟨2, rfl, by decide, by decide, fun r r0 r1 => ?_⟩
    obtain ⟨x1, e1, hx1⟩ := atI_mem (l := [.lst (vec (G u) n ++ [.frac (Rat.divInt 0 1)]), .lst (_root_.G.cutD (vec (G u) n) (some 1) none)]) r0 r1
    refine x_at e1 ?_
    have rx : RowK 480 x1 := by
      simp only [List.mem_cons, List.not_mem_nil, or_false] at hx1
      rcases hx1 with rfl | rfl
      · refine rowK_lst (k := .l) (by simp [vec_len]; omega) (fun y hy => ?_) (fun q hq => ?_)
        · rcases List.mem_append.mp hy with hy | hy
          · exact (rk u).it _ rfl y hy
          · cases List.mem_singleton.mp hy; exact .frac _
        · rcases List.mem_append.mp hq with hq | hq
          · exact (rk u).bd _ rfl q hq
          · cases List.mem_singleton.mp hq; exact bd_div (by decide) (by decide) (by decide)
      · have c1 := cutD_len (l := vec (G u) n) (lo := some 1) (hi := none)
        rw [vec_len] at c1
        exact rowK_lst (k := .l) (by omega) (fun y hy => (rk u).it _ rfl y (cutD_mem hy)) (fun q hq => (rk u).bd _ rfl q (cutD_mem hq))
    walk_at "v"
    refine ⟨_, rfl, ?_⟩
    walk_at "v"
    refine ⟨m, _, _, u, ok.a, rfl, ixN_eq' rfl (by rw [l0l]; exact hu), ?_⟩
    obtain ⟨xs, hr, tk⟩ := fin2 u x1 rx
    refine sx_frz (i := 4) (j := 7) rfl rfl hr ?_
    walk_at "h"
    exact h xs tk
  refine sx_if ?_
  walk_at "v"
  refine br_p (fun _ => ?_) (fun _ => ?_)
  · refine' sx_setE (j := 7) ?h1 ?_
    case h1 => exact rfl
    walk_at "v"
    refine ⟨5, rfl, by decide, by decide, fun r r0 r1 => ?_⟩
    obtain ⟨x1, e1, hx1⟩ := atI_mem (l := [.int 0, .int 1, .non, .str "0", .bl true]) r0 r1
    refine x_at e1 ?_
    have kx : Kn x1 ∧ ∀ q, x1 = .frac q → Bd 480 q := by
      simp only [List.mem_cons, List.not_mem_nil, or_false] at hx1
      rcases hx1 with rfl | rfl | rfl | rfl | rfl <;> exact ⟨by constructor, fun q e => nomatch e⟩
    walk_at "v"
    refine x_at (atI_nat (ok.at_ u hu)) ?_
    refine ⟨_, rfl, ?_⟩
    walk_at "v"
    refine ⟨u, _, _, v, ok.i u hu, rfl, ixN_eq' rfl (by rw [vec_len]; exact hv), ?_⟩
    obtain ⟨xs, hr, tk⟩ := fin1 x1 kx.1 kx.2
    refine sx_frz (i := 4) (j := 7) rfl rfl hr ?_
    walk_at "h"
    exact h xs tk
  refine sx_if ?_
  walk_at "v"
  refine br_p (fun _ => ?_) (fun _ => ?_)
  · walk_at "h"
    refine ⟨m', n', G', rfl, by omega, by omega, fun i j => (hG' i j).sz (by decide), ?_⟩
    walk_at "h"
    refine h _ (tabK_lst (k := .l) (by simp; omega) fun y hy => ?_)
    obtain ⟨i, _, rfl⟩ := List.mem_map.mp hy
    exact rowK_vec (by omega) fun j => (hG' i j).mono (by decide)
  refine sx_if ?_
  walk_at "v"
  refine br_p (fun _ => ?_) (fun _ => ?_)
  · refine' sx_setE (j := 7) ?h1 ?_
    case h1 => exact rfl
    walk_at "v"
    refine ⟨_, _, rfl, by decide, by decide, _, rfl, ?_⟩
    walk_at "v"
    refine ⟨_, f 0, vec (G 0) n, rfl, atI_nat (ok.at_ 0 (by omega)), List.mem_of_getElem? (ok.i 0 (by omega)), ?_⟩
    refine ⟨(n : Int), by rw [vec_len], by omega, by omega, Nat.le_of_lt (small1000 (by simp; omega)), ?_⟩
    walk_at "v"
    refine ⟨_, rfl, ?_⟩
    walk_at "v"
    refine ⟨m, _, _, m - 1, ok.a, rfl, ixN_eq' (by rw [l0l]; omega) (by rw [l0l]; omega), ?_⟩
    obtain ⟨xs, hr, tk⟩ := fin2 (m - 1) (.lst (List.replicate (n : Int).toNat [D.frac (Rat.divInt 1 1)]).flatten) (by
      refine rowK_lst (k := .l) (by simp; omega) (fun y hy => ?_) (fun q hq => ?_)
      · simp at hy; rw [hy.2]; exact .frac _
      · simp at hq; rw [hq.2]; exact bd_div (n := 1) (d := 1) (by decide) (by decide) (by decide))
    refine sx_frz (i := 4) (j := 7) rfl rfl hr ?_
    walk_at "h"
    exact h xs tk
  refine' sx_setE (j := 7) ?h1 ?_
  case h1 => exact rfl
  walk_at "v"
  refine ⟨3, rfl, by decide, by decide, fun r r0 r1 => ?_⟩
  obtain ⟨x1, e1, hx1⟩ := atI_mem (l := [.non, .int 4, .str "ab"]) r0 r1
  refine x_at e1 ?_
  have kx : RowK 480 x1 := by
    simp only [List.mem_cons, List.not_mem_nil, or_false] at hx1
    rcases hx1 with rfl | rfl | rfl <;> exact rowK_no (by constructor) rfl
  walk_at "v"
  refine ⟨_, rfl, ?_⟩
  walk_at "v"
  refine ⟨m, _, _, u, ok.a, rfl, ixN_eq' rfl (by rw [l0l]; exact hu), ?_⟩
  obtain ⟨xs, hr, tk⟩ := fin2 u x1 kx
  refine sx_frz (i := 4) (j := 7) rfl rfl hr ?_
  walk_at "h"
  exact h xs tk

end

end K
end

section
set_option maxRecDepth 100000
set_option maxHeartbeats 4000000
namespace K
open PySem PySem.Spec PyProof.Rows L2 G

theorem rowB_congr {r : ORow} {f g : Nat → Rat} {n : Nat} (h : ∀ i, i < n → f i = g i) : ∀ j, j < n → rowB r f j = rowB r g j
  | 0, _ => rfl
  | j + 1, hj => by
    show (r.map fun p => share r p.1 * rmax (p.2 + f j) (f (j + 1))).sum = (r.map fun p => share r p.1 * rmax (p.2 + g j) (g (j + 1))).sum
    rw [h j (by omega), h (j + 1) hj]
theorem TT_drop' {rs : List ORow} {i : Nat} (h : i < rs.length) : TT (rs.drop i) = rowB (rowAt rs i) (TT (rs.drop (i + 1))) := by
  have e : rs[i]? = some rs[i] := by simp [h]
  rw [rowAt_of e, List.drop_eq_getElem_cons h]; rfl
/-- the table that is asked is the one that stands due -/
theorem shows_tab {rs : List ORow} {n : Nat} {d : D} : ShowsP rs n d ↔ TabP (fun i => TT (rs.drop i)) (rs.length + 1) (n + 1) d := by
  constructor
  · rintro ⟨xs, h1, h2, h3, h4, h5⟩
    refine ⟨xs, h1, h2, fun i hi => ⟨h3 _ ?_, ?_⟩⟩
    · have : i < xs.length := by omega
      rw [List.getD_eq_getElem?_getD]; simp [this]
    · have key : ∀ k i, i + k = rs.length → ∀ j, j < n + 1 → valF (xs.getD i .non) j = TT (rs.drop i) j := by
        intro k
        induction k with
        | zero =>
          intro i hi j hj
          have : i = rs.length := by omega
          subst this
          rw [h4 j hj, List.drop_length]; rfl
        | succ k ih =>
          intro i hi j hj
          rw [h5 i (by omega) j hj, TT_drop' (by omega)]
          exact rowB_congr (ih (i + 1) (by omega)) j hj
      exact key (rs.length - i) i (by omega)
  · rintro ⟨xs, h1, h2, h3⟩
    refine ⟨xs, h1, h2, fun x hx => ?_, fun j hj => ?_, fun i hi j hj => ?_⟩
    · obtain ⟨i, hi, rfl⟩ := List.mem_iff_getElem.mp hx
      have := (h3 i (by omega)).1
      rw [List.getD_eq_getElem?_getD] at this
      simpa [hi] using this
    · rw [(h3 rs.length (by omega)).2 j hj]
      show G.TT (rs.drop rs.length) j = 0
      rw [List.drop_length]; rfl
    · rw [(h3 i (by omega)).2 j hj]
      dsimp only
      rw [TT_drop' hi]
      exact rowB_congr (fun l hl => ((h3 (i + 1) (by omega)).2 l hl).symm) j hj
/-- lists as tuples -/
def tupF : D → D
  | .lst l => .tup l
  | .mls l => .tup l
  | d => d
theorem seqOf_tupF (d : D) : seqOf (tupF d) = seqOf d := by cases d <;> rfl
theorem arF_tupF (d : D) (n : Int) : arF (tupF d) n = arF d n := by unfold arF; rw [seqOf_tupF]
theorem valF_tupF (d : D) : valF (tupF d) = valF d := by funext i; unfold valF; rw [seqOf_tupF]
theorem getD_map {xs : List D} {i : Nat} (h : i < xs.length) : (xs.map tupF).getD i .non = tupF (xs.getD i .non) := by
  rw [List.getD_eq_getElem?_getD, List.getD_eq_getElem?_getD, List.getElem?_map]
  have : xs[i]? = some xs[i] := by simp [h]
  rw [this]; rfl
theorem tabP_tup {G : Nat → Nat → Rat} {m n : Nat} {xs : List D} : TabP G m n (.tup (xs.map tupF)) ↔ TabP G m n (.lst xs) := by
  constructor
  · rintro ⟨ys, h1, h2, h3⟩
    cases h1
    rw [List.length_map] at h2
    refine ⟨xs, rfl, h2, fun i hi => ?_⟩
    have := h3 i hi
    rwa [getD_map (by omega), arF_tupF, valF_tupF] at this
  · rintro ⟨ys, h1, h2, h3⟩
    cases h1
    refine ⟨_, rfl, by rw [List.length_map]; exact h2, fun i hi => ?_⟩
    rw [getD_map (by omega), arF_tupF, valF_tupF]
    exact h3 i hi
theorem RowK.tupF {b : Nat} {x : D} (h : RowK b x) : RowK b (tupF x) where
  kn := by cases x <;> first | exact h.kn | exact .tup _
  len := by rw [seqOf_tupF]; exact h.len
  it := by rw [seqOf_tupF]; exact h.it
  bd := by rw [seqOf_tupF]; exact h.bd
theorem TabK.tup {b : Nat} {xs : List D} (h : TabK b (.lst xs)) : TabK b (.tup (xs.map K.tupF)) where
  kn := .tup _
  len := fun ys e => by cases e; rw [List.length_map]; exact h.len xs rfl
  row := fun ys e x hx => by
    cases e
    obtain ⟨y, hy, rfl⟩ := List.mem_map.mp hx
    exact (h.row xs rfl y hy).tupF
theorem tabK_tab {b m n : Nat} {G : Nat → Nat → Rat} (hm : m ≤ 1000) (hn : n ≤ 1000) (h : ∀ i j, Bd b (G i j)) : TabK b (.tup ((List.range m).map fun i => .tup (vec (G i) n))) := tabK_lst (k := .t) (by simp; exact hm) fun x hx => by
  obtain ⟨i, _, rfl⟩ := List.mem_map.mp hx
  refine rowK_lst (k := .t) (by rw [vec_len]; exact hn) (fun y hy => ?_) (fun q hq => ?_)
  · obtain ⟨i, _, rfl⟩ := List.mem_map.mp hy; exact .frac _
  · obtain ⟨j, _, e⟩ := List.mem_map.mp hq; cases e; exact h i j
theorem tabK_tabl {b m n : Nat} {G : Nat → Nat → Rat} (hm : m ≤ 1000) (hn : n ≤ 1000) (h : ∀ i j, Bd b (G i j)) : TabK b (.lst ((List.range m).map fun i => .lst (vec (G i) n))) := tabK_lst (k := .l) (by simp; exact hm) fun x hx => by
  obtain ⟨i, _, rfl⟩ := List.mem_map.mp hx
  exact rowK_vec hn fun j => h i j
theorem tabP_self {k : Kd} {G : Nat → Nat → Rat} {m n : Nat} {r : (Nat → Rat) → D} (hr : ∀ g, seqOf (r g) = some (vec g n)) : TabP G m n (Kd.d k ((List.range m).map fun i => r (G i))) := by
  refine ⟨_, seqOf_kd, by simp, fun i hi => ?_⟩
  have e : ((List.range m).map fun i => r (G i)).getD i .non = r (G i) := by
    rw [List.getD_eq_getElem?_getD]; simp [hi]
  rw [e]
  constructor
  · unfold arF
    rw [hr]
    simp [vec_len, vec_allF]
  · intro j hj
    unfold valF
    rw [hr]
    simp [List.getD_eq_getElem?_getD, vec_at hj]
theorem TT_bd {rs : List ORow} (h : ∀ r ∈ rs, RowOk r) (hl : rs.length ≤ 5) (i j : Nat) : Bd 400 (TT (rs.drop i) j) :=
  ((NiceF.TT (rs := rs.drop i) fun r hr => h r (List.mem_of_mem_drop hr)) j).bd.mono (by rw [List.length_drop]; omega)

end K
end

section
set_option maxRecDepth 100000
set_option maxHeartbeats 4000000
namespace K
open PySem PySem.Spec PyProof.Rows L2 G

def SpLaw : Sp := fun vs H Q _ => ∃ (a : Addr) (o : Obj) (xs : List Int), vs = [.ref a] ∧ H a = some (.frz o (.lst (xs.map V.int))) ∧ xs.length ≤ 63 ∧ ∀ H', Q (.bl true) H'
theorem fn_mkR {P : Program} {w : World} {K : PySem.W.Frag} {mg : Str → Option Value} {base : Heap} {k : Nat} {x : Str} {st : Stmt} {N ps : List Str} {sp : Sp} {fd : FuncData} (Fd : FnP K x st fd) (sc : FnScope N ps (defScope st))
    (len : ∀ vs H Q E, sp vs H Q E → vs.length = ps.length)
    (hb : ∀ (f : Addr) (cdv : Value) (A : Around) (outer : List Env) (s : Shared) (H : Hp) (E : XK), Room k (A.deeper (envOfC x (defScope st) s.heap.objs.size f cdv)) →
      ∃ t, PSs (cxOf (L2.CX P w) P w K mg base N x (defScope st) f cdv A outer s H E).nox (defBody st) t ∧ ∀ vs H Q E, sp vs H Q E → t { nx := fun _ H' => Q .non H', rt := Q } (L2.start N vs) H) : FnOk P w K mg base (L2.CX P w) (k + 1) (He.ga K x) fd ps sp :=
  Fd.ok sc len fun cdv A outer s H vs Q E hr hsp => by
    obtain ⟨t, h1, h2⟩ := hb _ cdv A outer s H E hr
    exact ⟨t, h1.nox, h2 vs H Q E hsp⟩
theorem ints_rep {C : Cl} {P : Option Addr} {W : Hp} : ∀ xs : List Int, RepL C P W (xs.map V.int) (xs.map D.int)
  | [] => .nil
  | x :: xs => .cons (.int x) (ints_rep xs)
theorem rep_ints {C : Cl} {P : Option Addr} {W : Hp} : ∀ {xs : List Int} {vs : List V}, RepL C P W vs (xs.map D.int) → vs = xs.map V.int
  | [], _, h => by cases h; rfl
  | x :: xs, _, h => by
    cases h with
    | cons r rr => cases r; rw [rep_ints rr]; rfl
def bagD (ys : List Int) (n : Int) : D := .dic [(.inr "cells", .lst (ys.map .int)), (.inr "at", .int 0), (.inr "big", .int 0), (.inr "mixed", .int n), (.inr "count", .int 0)]
theorem LenOk_eq {σ : L2.St} {Γ : List Sl} (h : LenOk σ Γ) (hn : ∀ s ∈ Γ, s.isR = false) : σ.length = Γ.length := by
  refine Nat.le_antisymm h.le ?_
  rcases Nat.lt_or_ge σ.length Γ.length with z | z
  · have e : Γ[σ.length]? = some Γ[σ.length] := by simp [z]
    have := (h.c σ.length _ e).mp (Nat.le_refl _)
    rw [hn _ (List.getElem_mem z)] at this; cases this
  · exact z
abbrev nn0 : Hp := fun _ => none
/-- the base of the law's own walk: nothing is kept -/
def B0 (b : Addr) : Bs := ⟨some b, noS, fun _ => none, fun _ => none, fun _ => none⟩
theorem law_start {K : PySem.W.Frag} {N : List Str} {Γ1 : List Sl} {te : TE} {u : TS} {a : Addr} {o : Obj} {xs ys : List Int} {n : Int} {H : Hp} {Q : VK} (ha : H a = some (.frz o (.lst (xs.map V.int)))) (hQ : ∀ H', Q (.bl true) H') (hN : 1 < N.length)
    (hy : ys.length ≤ 63) (hy0 : ∀ y ∈ ys, 0 ≤ y) (n0 : 0 ≤ n) (n1 : n < 2 ^ 61) (hΓ : Γ1 = .no :: .d .pool :: List.replicate (N.length - 2) .no)
    (h1 : ∀ B, EK (CL K nn0) B (G0 N [.raw (xs.map .int)]) te fun d => d = bagD ys n)
    (h2 : ∀ b, SX (CL K nn0) (B0 b) Γ1 u (fun _ => False) (fun _ d => d = .bl true) (fun _ => False) (fun _ => False)) : tSeq (tAsg te (gName 1)) u { nx := fun _ H' => Q .non H', rt := Q } (L2.start N [.ref a]) H := by
  have hw : Same (fun x => if x = a then H x else none) H := fun x o z => by
    by_cases hx : x = a
    · subst hx; simpa using z
    · simp [hx] at z
  have e0 := env_start (C := CL K nn0) (P := none) (N := N) hw ⟨fun _ z => (nomatch z), fun _ _ z => (nomatch z)⟩ (RepL.cons (Rep.raw (a := a) (vs := xs.map V.int) (by show (if a = a then H a else none) = _; rw [if_pos rfl]; exact ha) (ints_rep xs)) .nil)
  refine h1 _ _ H _ e0 _ fun d v W1 H1 s1 r1 hd => ?_
  subst hd
  obtain ⟨b, fs, rfl, hb, hk, hr⟩ := rep_dic r1
  have e1 := e0.step s1
  match fs, hk, hr with
  | [(k1, u1), (k2, u2), (k3, u3), (k4, u4), (k5, u5)], hk, hr =>
    have hk : [k1, k2, k3, k4, k5] = [(.inr "cells" : Key), .inr "at", .inr "big", .inr "mixed", .inr "count"] := hk
    injection hk with e1' hk; injection hk with e2' hk; injection hk with e3' hk; injection hk with e4' hk; injection hk with e5' hk
    subst e1'; subst e2'; subst e3'; subst e4'; subst e5'
    cases hr with
    | cons q1 hr => cases hr with
      | cons q2 hr => cases hr with
        | cons q3 hr => cases hr with
          | cons q4 hr => cases hr with
            | cons q5 hr =>
              cases q2; cases q3; cases q4; cases q5
              cases q1 with
              | @lst c vs _ hc rl =>
                have ev := rep_ints rl
                subst ev
                have hHb := s1.wh _ _ hb
                have hHc := s1.wh _ _ hc
                have ncb : b ≠ c := fun z => by rw [z, hHc] at hHb; cases hHb
                have hG0 : ∀ s ∈ (G0 N [D.raw (xs.map .int)]), s.isR = false := fun s hs => by
                  unfold G0 at hs
                  simp at hs
                  rcases hs with rfl | ⟨_, rfl⟩ <;> rfl
                have hl1 := LenOk_eq e1.len hG0
                have hG1 : ∀ s ∈ Γ1, s = .no ∨ s = .d .pool := fun s hs => by
                  subst hΓ
                  rcases List.mem_cons.mp hs with rfl | hs
                  · exact .inl rfl
                  rcases List.mem_cons.mp hs with rfl | hs
                  · exact .inr rfl
                  · exact .inl (List.eq_of_mem_replicate hs)
                have noO : ∀ (i : Nat) (s : Sl), Γ1[i]? = some s → s.isO = true → False := fun i s h1 h2 => by
                  rcases hG1 s (List.mem_of_getElem? h1) with rfl | rfl <;> cases h2
                have noR : ∀ (i : Nat) (cs : List (Addr × List D)), Γ1[i]? = some (.reg cs) → False := fun i cs h1 => by
                  rcases hG1 _ (List.mem_of_getElem? h1) with z | z <;> cases z
                have hlen : ((L2.start N [V.ref a]).set 1 (some (.ref b))).length = Γ1.length := by
                  rw [List.length_set, hl1, hΓ]
                  simp [G0]; omega
                show u _ ((L2.start N [V.ref a]).set 1 (some (.ref b))) H1
                refine h2 b (fun x => if x = c then H1 x else none) H1 _ ⟨⟨fun _ _ z => (nomatch z), fun x o z => ?_, fun _ _ z => (nomatch z), fun _ _ z => (nomatch z), fun _ _ z => (nomatch z), fun y _ z => ?_⟩, fun _ _ z => (nomatch z), ⟨fun y hy => ?_, fun _ _ z => (nomatch z)⟩, fun _ _ z => (nomatch z), ⟨by omega, fun i s h1 => ?_⟩, fun _ => 0, ⟨fun i j s t h1 _ h2 => (noO i s h1 h2).elim, fun i s h1 h2 => (noO i s h1 h2).elim, fun i s hi => ?_, fun i j cs ds h1 => (noR i cs h1).elim, fun i cs h1 => (noR i cs h1).elim, fun i cs p h1 => (noR i cs h1).elim, fun i cs p j s h1 => (noR i cs h1).elim⟩⟩ _ ⟨fun _ _ _ _ _ z => z.elim, fun Γ d v W' H' _ _ r z => ?_, fun _ _ _ _ _ z => z.elim, fun _ _ _ _ _ z => z.elim⟩
                · by_cases hx : x = c
                  · subst hx; simpa using z
                  · simp [hx] at z
                · obtain ⟨_, z⟩ := (CL K nn0).pks z; cases z
                · cases hy
                  exact ⟨by simp [ncb], c, ys, 0, 0, n, 0, hHb, by simpa using hHc, Nat.zero_le _, ‹ys.length ≤ 63›, hy0, Int.le_refl _, n0, n1, Int.le_refl _⟩
                · have hi := (List.getElem?_eq_some_iff.mp h1).1
                  constructor
                  · intro z; omega
                  · intro z
                    rcases hG1 s (List.mem_of_getElem? h1) with rfl | rfl <;> cases z
                · rw [hΓ] at hi
                  match i, hi with
                  | 0, hi => cases hi; trivial
                  | 1, hi =>
                    cases hi
                    refine ⟨.ref b, ?_, .pool rfl⟩
                    rw [List.getD_eq_getElem?_getD, List.getElem?_set_self]
                    · rfl
                    · rw [hl1]; simp [G0]; omega
                  | i + 2, hi =>
                    have := List.eq_of_mem_replicate (List.mem_of_getElem? (show (List.replicate (N.length - 2) Sl.no)[i]? = some s from hi))
                    subst this; trivial
                · subst z
                  cases r
                  exact hQ _

end K
end

section
set_option maxRecDepth 100000
set_option maxHeartbeats 4000000
namespace K
open PySem PySem.Spec PyProof.Rows L2 G

theorem dvd_EE : ∀ d : Nat, d ≤ 15 → 0 < d → d ∣ EE := by decide
theorem nice1 {q : Rat} (h1 : q.num.natAbs ≤ 32) (h2 : q.den ≤ 15) : Nice 1 q := by
  obtain ⟨m, hm⟩ := dvd_EE q.den h2 q.den_pos
  have hd : 0 < q.den := q.den_pos
  refine ⟨q.num * (m : Int), ?_, ?_⟩
  · rw [Int.natAbs_mul, Int.natAbs_natCast, Nat.pow_one, show MM = 32 * EE from rfl]
    refine Nat.mul_le_mul h1 ?_
    rw [hm]; exact Nat.le_mul_of_pos_left m hd
  · rw [Nat.pow_one, hm]
    push_cast
    rw [num_mul q]
    have e : (((q.den : Nat) : Int) : Rat) = ((q.den : Nat) : Rat) := Rat.intCast_natCast _
    have e2 : (((m : Nat) : Int) : Rat) = ((m : Nat) : Rat) := Rat.intCast_natCast _
    rw [e]; try rw [e2]
    grind
theorem OwnOk.whole_le {r : ORow} (h : OwnOk r) : whole r ≤ 15 := by
  have h1 := sum_le (l := r.map (·.1)) (b := 5) fun i hi => by obtain ⟨p, hp, rfl⟩ := List.mem_map.mp hi; exact h.w2 p hp
  have h2 := h.len
  rw [List.length_map] at h1
  unfold whole; omega
theorem OwnOk.whole_pos {r : ORow} (h : OwnOk r) : 0 < whole r := by
  have h1 := sum_pos (l := r.map (·.1)) fun i hi => by obtain ⟨p, hp, rfl⟩ := List.mem_map.mp hi; exact h.w1 p hp
  have h2 : 0 < r.length := List.length_pos_iff.mpr h.ne
  rw [List.length_map] at h1
  unfold whole; omega
theorem OwnOk.row {r : ORow} (h : OwnOk r) : RowOk r where
  ne := h.ne
  len := by have := h.len; omega
  w1 := h.w1
  w2 := fun p hp => by have := h.w2 p hp; omega
  n := fun p hp => by
    have w := h.ok p hp
    exact nice1 (by have := w.nn; have := w.n1; omega) (by have := w.d1; omega)
  sh := fun p hp => by
    have w0 := h.whole_pos
    have w1 := h.whole_le
    have a1 := h.w1 p hp
    have a2 := h.w2 p hp
    refine nice1 ?_ ?_
    · unfold share
      rw [divInt_num w0]
      exact Nat.le_trans (Int.natAbs_ediv_le_natAbs _ _) (by omega)
    · have e := divInt_den (n := p.1) w0
      have h2 := Int.ediv_le_self (a := whole r) ((Nat.gcd p.1.natAbs (whole r).natAbs : Nat) : Int) (by omega)
      show (share r p.1).den ≤ 15
      unfold share
      omega
theorem sx_stay {C : Cl} {B : Bs} {Γ : List Sl} {t u : TS} {nx bk ct : List Sl → Prop} {rt : List Sl → D → Prop} (h : SX C B Γ t (fun Γ' => Γ' = Γ) rt bk ct) (k : SX C B Γ u nx rt bk ct) : SX C B Γ (tSeq t u) nx rt bk ct := sx_cut (fun Γ' => Γ' = Γ) h fun Γ' e => e ▸ k
section
local macro_rules | `(tactic| walk_at "e") => `(tactic| first
  | ((with_reducible refine' ek_var ?h1 ?_); (case h1 => exact rfl))
  | (with_reducible refine ek_int ?_)
  | (with_reducible refine ek_bl ?_)
  | (with_reducible refine ek_non ?_)
  | (with_reducible refine ek_str ?_)
  | (with_reducible refine ek_ty ?_)
  | (with_reducible refine ek_cls ?_)
  | (with_reducible refine ek_ix ?_)
  | (with_reducible refine ek_un ?_)
  | (with_reducible refine ek_tup ?_)
  | (with_reducible refine k_call ?_)
  | (with_reducible refine ek_len ?_)
  | (with_reducible refine ek_tuple ?_)
  | (with_reducible refine ek_sum ?_)
  | (with_reducible refine ek_all ?_)
  | (with_reducible refine ek_any ?_)
  | (with_reducible refine ek_chain ?_)
  | (with_reducible refine ek_andV ?_)
  | (with_reducible refine ek_orV ?_)
  | (with_reducible refine ek_notV ?_)
  | (with_reducible refine ek_if ?_)
  | (with_reducible refine ek_ef (ef_lst ?_))
  | (with_reducible refine ek_ef (ef_list ?_))
  | (with_reducible refine ek_ef (ef_cat ?_))
  | (with_reducible refine ek_ef (ef_rep ?_))
  | (with_reducible refine ek_ef (ef_slice ?_))
  | (with_reducible refine ek_ef (ef_rev ?_))
  | (with_reducible refine ek_ef (ef_lstRev ?_))
  | (with_reducible refine ek_ef (ef_map ?_))
  | (with_reducible refine ek_ef (ef_filt ?_))
  | (with_reducible refine ef_lst ?_)
  | (with_reducible refine ef_list ?_)
  | (with_reducible refine ef_cat ?_)
  | (with_reducible refine ef_rep ?_)
  | (with_reducible refine ef_slice ?_)
  | (with_reducible refine ef_rev ?_)
  | (with_reducible refine ef_lstRev ?_)
  | (with_reducible refine ef_map ?_)
  | (with_reducible refine ef_filt ?_)
  | ((with_reducible refine' el_var ?h1 ?_); (case h1 => exact rfl))
  | ((with_reducible refine' el_own ?h1 ?_); (case h1 => exact rfl))
  | (with_reducible refine el_ef (ef_lst ?_))
  | (with_reducible refine el_ef (ef_list ?_))
  | (with_reducible refine el_ef (ef_cat ?_))
  | (with_reducible refine el_ef (ef_rep ?_))
  | (with_reducible refine el_ef (ef_slice ?_))
  | (with_reducible refine el_ef (ef_rev ?_))
  | (with_reducible refine el_ef (ef_lstRev ?_))
  | (with_reducible refine el_ef (ef_map ?_))
  | (with_reducible refine el_ef (ef_filt ?_))
  | (with_reducible refine ek_op ?_)
  | (with_reducible refine ek_cb ?_)
  | (with_reducible refine el_ek ?_)
  | (with_reducible refine tk_test ?_)
  | (with_reducible refine tk_B ?_)
  | (with_reducible refine tk_and ?_)
  | (with_reducible refine tk_or ?_)
  | (with_reducible refine tk_not ?_)
  | (with_reducible refine tk_yes ?_)
  | (with_reducible refine ak_nil ?_)
  | (with_reducible refine ak_cons ?_)
  | (with_reducible refine k_num (‹Tx _ _›) ?_)
  | (with_reducible refine k_den (‹Tx _ _›) ?_)
  | (with_reducible refine k_mk2 ?_)
  | (with_reducible refine k_mkO ?_)
  | (with_reducible refine k_rows (‹Tx _ _›) ?_)
  | (with_reducible refine k_mk1 ?_)
  | (with_reducible refine k_bel ?_)
  | (with_reducible refine k_own ?_)
  | (with_reducible refine rk_U2 (k_own ?_))
  | (with_reducible refine rk_mul (Sz.mul (by assumption) (by assumption)) ?_)
  | (with_reducible refine rk_U1 (rk_mul (Sz.mul (by assumption) (by assumption)) ?_))
  | (with_reducible refine ek_dget ?_)
  | (with_reducible refine uk_neg ?_)
  | (with_reducible refine ek_disp ?_)
  | (with_reducible refine pk_cons ?_)
  | (with_reducible refine pk_nil ?_)
  | (with_reducible refine rk_mod (by assumption) ?_)
  | (with_reducible refine rk_add ?_)
  | (with_reducible refine rk_sub ?_)
  | (with_reducible refine rk_lt ?_)
  | (with_reducible refine rk_le ?_)
  | (with_reducible refine rk_gt ?_)
  | (with_reducible refine rk_ge ?_)
  | (with_reducible refine rk_eqI ?_)
  | (with_reducible refine rk_neI ?_)
  | (with_reducible refine rk_isN ?_)
  | (with_reducible refine rk_notN ?_)
  | (with_reducible refine rk_U1 (rk_add ?_))
  | (with_reducible refine rk_U1 (rk_sub ?_))
  | (with_reducible refine ck_gcd ?_)
  | (with_reducible refine ck_abs ?_)
  | (with_reducible refine ck_int ?_)
  | (with_reducible refine ik_seq ?_)
  | (with_reducible refine ik_range1 ?_)
  | (with_reducible refine ik_range2 ?_)
  | (with_reducible refine ik_enumA ?_)
  | (with_reducible refine ik_zip ?_)
  | (with_reducible refine ik_rev ?_)
  | ((with_reducible refine' cg_name ?_ ?h1 ?h2); (case h1 => exact rfl); (case h2 => decide))
  | ((with_reducible refine' cg_anyT ?h1 ?_); (case h1 => exact rfl))
  | ((with_reducible refine' cg_anyL ?h1 ?_); (case h1 => exact rfl))
  | ((with_reducible refine' cg_anyK ?h1 ?_); (case h1 => exact rfl))
  | ((with_reducible refine' cgs_cons ?_ ?h1 ?h2); (case h1 => exact rfl); (case h2 => decide))
  | (with_reducible refine cgs_nil ?_)
  | ((with_reducible refine' gk_name ?_ ?h1); (case h1 => exact rfl))
  | ((with_reducible refine' gk_anyT ?h1 ?_); (case h1 => exact rfl))
  | ((with_reducible refine' gk_anyL ?h1 ?_); (case h1 => exact rfl))
  | ((with_reducible refine' gk_anyK ?h1 ?_); (case h1 => exact rfl))
  | ((with_reducible refine' gks_cons ?_ ?h1); (case h1 => exact rfl))
  | ((with_reducible refine' gks_consA (n := 0) ?_ ?h1 ?h2); (case h1 => exact rfl); (case h2 => exact rfl))
  | ((with_reducible refine' gks_consB ?h0 ?_ ?h1 ?h2); (case h0 => exact rfl); (case h1 => exact rfl); (case h2 => exact rfl))
  | (with_reducible refine gks_nil ?_)
  | (with_reducible refine ok_none ?_)
  | (with_reducible refine ok_some ?_))
local macro_rules | `(tactic| walk_at "s") => `(tactic| first
  | (with_reducible refine sx_guard ?_ ?_)
  | (with_reducible refine sx_seq ?_)
  | (with_reducible refine sx_ret ?_)
  | (with_reducible refine sx_if ?_)
  | (with_reducible refine sx_next ?_)
  | (with_reducible refine sx_break ?_)
  | (with_reducible refine sx_cont ?_)
  | ((with_reducible refine' sx_append ?h1 ?_); (case h1 => exact rfl))
  | ((with_reducible refine' sx_setI ?h1 ?_); (case h1 => exact rfl))
  | ((with_reducible refine' sx_set ?h1 ?_); (case h1 => exact rfl))
  | (with_reducible refine sx_asg ?_)
  | ((with_reducible refine' sx_par ?h1 ?h2 ?_); (case h1 => exact rfl); (case h2 => exact rfl))
  | (with_reducible refine sx_drop ?_)
  | ((with_reducible refine' k_fldS (‹Tx _ _›) ?h1 ?h2 ?h3 ?_); (case h1 => exact rfl); (case h2 => decide); (case h3 => exact rfl))
  | ((with_reducible refine' k_fldO (‹Tx _ _›) ?h1 ?h3 ?_); (case h1 => exact rfl); (case h3 => exact rfl)))
/-! plain existentials that the rules leave -/
local macro_rules | `(tactic| walk_at "x") => `(tactic| first
  | (with_reducible refine x_bl ?_)
  | (with_reducible refine x_int ?_)
  | (with_reducible refine x_frac ?_)
  | (with_reducible refine x_lst ?_)
  | (with_reducible refine x_off ?_)
  | (with_reducible refine x_low ?_)
  | (with_reducible refine x_ownR ?_)
  | (with_reducible refine x_ownA ?_)
  | (with_reducible refine x_tup ?_)
  | (with_reducible refine x_kd ?_)
  | (with_reducible refine x_oneL ?_)
  | (with_reducible refine x_oneT ?_)
  | (with_reducible refine x_one ?_)
  | ((with_reducible refine' x_at ?h1 ?_); (case h1 => exact rfl))
  | ((with_reducible refine' x_dic ?h1 ?_); (case h1 => exact rfl))
  | (with_reducible refine (⟨rfl, ?_⟩ : Kd.l = Kd.l ∧ _))
  | ((with_reducible refine' x_len ?h1 ?_); (case h1 => exact rfl))
  | ((with_reducible refine' br_t ?h1 ?_); (case h1 => exact rfl))
  | ((with_reducible refine' br_f ?h1 ?_); (case h1 => exact rfl)))
local macro_rules | `(tactic| walk_at "f") => `(tactic| first
  | ((with_reducible refine' sx_forW ?h1 ?_); (case h1 => exact rfl))
  | (with_reducible refine sx_forGW ?_))
local macro_rules | `(tactic| walk_at "g") => `(tactic| repeat (first | walk_at "s" | walk_at "f" | walk_at "e" | walk_at "x"))
local macro_rules | `(tactic| walk_at "v") => `(tactic| repeat (first | walk_at "e" | walk_at "x"))
local macro_rules | `(tactic| walk_at "h") => `(tactic| repeat (first | walk_at "s" | walk_at "e" | walk_at "x"))
variable {P : Program} {w : World} {K : PySem.W.Frag} {mg : Str → Option Value} {base : Heap}

theorem ok_law (T : Tx K mg) (c__law_bag : Cal P w K mg base 1 "_law_bag" ["script"] (SpFam (CL K) S__law_bag)) (c__law_draw : Cal P w K mg base 1 "_law_draw" ["bag", "many"] (SpFam (CL K) S__law_draw)) (c__law_offer : Cal P w K mg base 3 "_law_offer" ["bag"] (SpFam (CL K) S__law_offer)) (m_Offers1 : CalM P w K mg base 8 "Offers" [] (SpFamI (CL K) (He.ga K "Offers") S_OffersD_initD)) (c__law_offered : Cal P w K mg base 4 "_law_offered" ["bag", "offers"] (SpFam (CL K) S__law_offered)) (c__law_turns : Cal P w K mg base 3 "_law_turns" ["offers", "many"] (SpFam (CL K) S__law_turns)) (c_turn_certificate : Cal P w K mg base 8 "turn_certificate" ["offers", "many"] (SpFam (CL K) S_turn_certificate)) (c__law_written : Cal P w K mg base 4 "_law_written" ["table"] (SpFam (CL K) S__law_written)) (c__law_same_2 : Cal P w K mg base 3 "_law_same" ["one", "other"] (SpFam (CL K) S__law_same_2)) (c__law_is : Cal P w K mg base 3 "_law_is" ["value", "due"] (SpFam (CL K) S__law_is)) (c_turn_worth : Cal P w K mg base 8 "turn_worth" ["offers", "many"] (SpFam (CL K) S_turn_worth)) (c__law_same_0 : Cal P w K mg base 1 "_law_same" ["one", "other"] (SpFam (CL K) S__law_same_0)) (c_shows_turn : Cal P w K mg base 7 "shows_turn" ["offers", "many", "rows"] (SpFam (CL K) S_shows_turn)) (c__law_bent : Cal P w K mg base 5 "_law_bent" ["bag", "table", "other"] (SpFam (CL K) S__law_bent)) (c__law_table_right : Cal P w K mg base 4 "_law_table_right" ["table", "value"] (SpFam (CL K) S__law_table_right)) {fd : FuncData} (FD : FnP K "law" s_law fd) : FnOk P w K mg base (L2.CX P w) 10 (He.ga K "law") fd ["script"] SpLaw := by
  refine fn_mkR (N := ["script", "bag", "own", "offers", "many", "table", "told", "due", "others", "other", "k", "rows", "verdict", "listed", "row"]) FD sc_law (by rintro vs H Q E ⟨a, o, xs, rfl, _⟩; rfl) (fun f cdv A outer s H E hr => ⟨_, (pss_cons (ps_set (i := 1) sc_law.nd rfl (by first | exact Or.inl rfl | exact Or.inr rfl) (pe_calC c__law_bag hr (by decide) (by rfl) (pa_cons (pv 0) pa_nil))) (pss_cons (ps_setLc (i := 2) (own := [("k", 10)]) (g := gName 10) (tt := tYes) rfl sc_law.nd rfl rfl (sw_true rfl rfl rfl (by decide +kernel)) (pi_range1 (by rfl) T.b_range (pa_cons (pe_op op_addI pe_int (pe_calC c__law_draw hr (by decide) (by rfl) (pa_cons (pv 1) (pa_cons pe_int pa_nil)))) pa_nil)) (blkOk_by (own := [("k", 10)]) (N := ["script", "bag", "own", "offers", "many", "table", "told", "due", "others", "other", "k", "rows", "verdict", "listed", "row"]) (sc := defScope s_law) (by decide +kernel)) (fun _ _ _ _ _ => (pg_name (i := 10) sc_law.nd rfl (by first | exact Or.inl rfl | exact Or.inr rfl))) (fun _ _ _ _ _ => pts_nil) (fun _ _ _ _ _ => (pe_calC c__law_offer hr (by decide) (by rfl) (pa_cons (pv 1) pa_nil)))) (pss_cons (ps_set (i := 3) sc_law.nd rfl (by first | exact Or.inl rfl | exact Or.inr rfl) (pe_mkK K rfl m_Offers1 hr (by decide) (by rfl) (pa_cons (pe_calC c__law_offered hr (by decide) (by rfl) (pa_cons (pv 1) (pa_cons (pv 2) pa_nil))) pa_nil))) (pss_cons (ps_set (i := 4) sc_law.nd rfl (by first | exact Or.inl rfl | exact Or.inr rfl) (pe_op op_addI pe_int (pe_calC c__law_draw hr (by decide) (by rfl) (pa_cons (pv 1) (pa_cons pe_int pa_nil))))) (pss_cons (ps_set (i := 5) sc_law.nd rfl (by first | exact Or.inl rfl | exact Or.inr rfl) (pe_calC c__law_turns hr (by decide) (by rfl) (pa_cons (pv 2) (pa_cons (pv 4) pa_nil)))) (pss_cons (ps_set (i := 6) sc_law.nd rfl (by first | exact Or.inl rfl | exact Or.inr rfl) (pe_calC c_turn_certificate hr (by decide) (by rfl) (pa_cons (pv 3) (pa_cons (pv 4) pa_nil)))) (pss_cons (ps_set (i := 7) sc_law.nd rfl (by first | exact Or.inl rfl | exact Or.inr rfl) (pe_callTy (cr_tupK K rfl) (by rfl) T.b_tuple (by decide +kernel) (pa_cons (pe_lc (own := [("row", 14)]) (g := gName 14) (tt := tYes) rfl sc_law.nd (pi_seqK K rfl (pe_calC c__law_written hr (by decide) (by rfl) (pa_cons (pv 5) pa_nil))) (blkOk_by (own := [("row", 14)]) (N := ["script", "bag", "own", "offers", "many", "table", "told", "due", "others", "other", "k", "rows", "verdict", "listed", "row"]) (sc := defScope s_law) (by decide +kernel)) (fun _ _ _ _ _ => (pg_name (i := 14) sc_law.nd rfl (by first | exact Or.inl rfl | exact Or.inr rfl))) (fun _ _ _ _ _ => pts_nil) (fun _ _ _ _ _ => (pe_callTy (cr_tupK K rfl) (by rfl) T.b_tuple (by decide +kernel) (pa_cons (pv 14) pa_nil)))) pa_nil))) (pss_cons (ps_if (PW.pt (pw_or (pt_not (pt_val (pe_calC c__law_same_2 hr (by decide) (by rfl) (pa_cons (pv 7) (pa_cons (pv 6) pa_nil))))) (pw_or1 (pt_not (pt_val (pe_calC c__law_is hr (by decide) (by rfl) (pa_cons (pe_calC c_turn_worth hr (by decide) (by rfl) (pa_cons (pv 3) (pa_cons (pv 4) pa_nil))) (pa_cons (pe_ix (ix_seqK K rfl) (pe_ix (ix_seqK K rfl) (pv 5) pe_int (fun _ _ => rfl)) (pv 4) (fun _ _ => rfl)) pa_nil)))))))) (pss_one (ps_ret pe_bl)) pss_nil) (pss_cons (ps_if (PW.pt (pw_or (pt_not (pt_val (pe_calC c__law_same_0 hr (by decide) (by rfl) (pa_cons pe_bl (pa_cons (pe_calC c_shows_turn hr (by decide) (by rfl) (pa_cons (pv 3) (pa_cons (pv 4) (pa_cons (pv 6) pa_nil)))) pa_nil))))) (pw_or1 (pt_not (pt_val (pe_calC c__law_same_0 hr (by decide) (by rfl) (pa_cons pe_bl (pa_cons (pe_calC c_shows_turn hr (by decide) (by rfl) (pa_cons (pv 3) (pa_cons (pv 4) (pa_cons (pe_calC c__law_written hr (by decide) (by rfl) (pa_cons (pv 5) pa_nil)) pa_nil)))) pa_nil)))))))) (pss_one (ps_ret pe_bl)) pss_nil) (pss_cons (ps_setLc (i := 8) (own := [("k", 10)]) (g := gName 10) (tt := tYes) rfl sc_law.nd rfl rfl (sw_true rfl rfl rfl (by decide +kernel)) (pi_range1 (by rfl) T.b_range (pa_cons (pe_callB (cr_lenK K rfl) (by rfl) T.b_len PySem.boot_len (pa_cons (pv 2) pa_nil)) pa_nil)) (blkOk_by (own := [("k", 10)]) (N := ["script", "bag", "own", "offers", "many", "table", "told", "due", "others", "other", "k", "rows", "verdict", "listed", "row"]) (sc := defScope s_law) (by decide +kernel)) (fun _ _ _ _ _ => (pg_name (i := 10) sc_law.nd rfl (by first | exact Or.inl rfl | exact Or.inr rfl))) (fun _ _ _ _ _ => pts_nil) (fun _ _ _ _ _ => (pe_calC c__law_offer hr (by decide) (by rfl) (pa_cons (pv 1) pa_nil)))) (pss_cons (ps_set (i := 9) sc_law.nd rfl (by first | exact Or.inl rfl | exact Or.inr rfl) (pe_ix (ix_seqK K rfl) (pe_tup (pa_cons (pe_calC c__law_turns hr (by decide) (by rfl) (pa_cons (pv 8) (pa_cons (pv 4) pa_nil))) (pa_cons (pe_calC c__law_turns hr (by decide) (by rfl) (pa_cons (pv 2) (pa_cons (pe_op op_addI (pv 4) pe_int) pa_nil))) (pa_cons (pe_calC c__law_turns hr (by decide) (by rfl) (pa_cons (pe_revK K rfl (pv 2)) (pa_cons (pv 4) pa_nil))) pa_nil)))) (pe_calC c__law_draw hr (by decide) (by rfl) (pa_cons (pv 1) (pa_cons pe_int pa_nil))) (fun _ _ => rfl))) (pss_cons (ps_for PassesOwn.never rfl (pi_range1 (by rfl) T.b_range (pa_cons pe_int pa_nil)) (pg_name (i := 10) sc_law.nd rfl (by first | exact Or.inl rfl | exact Or.inr rfl)) (pss_cons (ps_set (i := 11) sc_law.nd rfl (by first | exact Or.inl rfl | exact Or.inr rfl) (pe_calC c__law_bent hr (by decide) (by rfl) (pa_cons (pv 1) (pa_cons (pv 5) (pa_cons (pv 9) pa_nil))))) (pss_cons (ps_set (i := 12) sc_law.nd rfl (by first | exact Or.inl rfl | exact Or.inr rfl) (pe_calC c__law_table_right hr (by decide) (by rfl) (pa_cons (pv 5) (pa_cons (pv 11) pa_nil)))) (pss_cons (ps_if (pt_not (pt_val (pe_calC c__law_same_0 hr (by decide) (by rfl) (pa_cons (pv 12) (pa_cons (pe_calC c_shows_turn hr (by decide) (by rfl) (pa_cons (pv 3) (pa_cons (pv 4) (pa_cons (pv 11) pa_nil)))) pa_nil))))) (pss_one (ps_ret pe_bl)) pss_nil) (pss_cons (ps_set (i := 13) sc_law.nd rfl (by first | exact Or.inl rfl | exact Or.inr rfl) (pe_callTy (cr_tupK K rfl) (by rfl) T.b_tuple (by decide +kernel) (pa_cons (pe_lc (own := [("row", 14)]) (g := gName 14) (tt := tYes) rfl sc_law.nd (pi_seqK K rfl (pv 11)) (blkOk_by (own := [("row", 14)]) (N := ["script", "bag", "own", "offers", "many", "table", "told", "due", "others", "other", "k", "rows", "verdict", "listed", "row"]) (sc := defScope s_law) (by decide +kernel)) (fun _ _ _ _ _ => (pg_name (i := 14) sc_law.nd rfl (by first | exact Or.inl rfl | exact Or.inr rfl))) (fun _ _ _ _ _ => pts_nil) (fun _ _ _ _ _ => (pe_ifExp (pt_val (pe_callB (cr_isK K rfl) (by rfl) T.b_isinstance (by decide +kernel) (pa_cons (pv 14) (pa_cons (pe_bltn (v := .ty "list") (by rfl) T.b_list (by decide +kernel) rfl) pa_nil)))) (pe_callTy (cr_tupK K rfl) (by rfl) T.b_tuple (by decide +kernel) (pa_cons (pv 14) pa_nil)) (pv 14)))) pa_nil))) (pss_one (ps_if (pt_not (pt_val (pe_calC c__law_same_0 hr (by decide) (by rfl) (pa_cons (pv 12) (pa_cons (pe_calC c_shows_turn hr (by decide) (by rfl) (pa_cons (pv 3) (pa_cons (pv 4) (pa_cons (pv 13) pa_nil)))) pa_nil))))) (pss_one (ps_ret pe_bl)) pss_nil))))))) (pss_one (ps_ret (pe_calC c__law_same_0 hr (by decide) (by rfl) (pa_cons pe_bl (pa_cons (pe_calC c_shows_turn hr (by decide) (by rfl) (pa_cons (pv 3) (pa_cons (pv 4) (pa_cons (pe_ix (ix_seqK K rfl) (pe_tup (pa_cons pe_non (pa_cons pe_int (pa_cons pe_str (pa_cons (pe_tup pa_nil) (pa_cons (pe_lst pa_nil) pa_nil)))))) (pe_calC c__law_draw hr (by decide) (by rfl) (pa_cons (pv 1) (pa_cons pe_int pa_nil))) (fun _ _ => rfl)) pa_nil)))) pa_nil))))))))))))))))), ?_⟩)
  rintro vs H Q E ⟨a, o, xs, rfl, ha, hl, hQ⟩
  refine law_start (K := K) (ys := xs.map fun i => (i.natAbs : Int)) (n := 7 + (xs.length : Nat)) (Γ1 := .no :: .d .pool :: List.replicate 13 .no) ha hQ (by decide) (by rw [List.length_map]; exact hl) (by intro y hy; obtain ⟨i, _, rfl⟩ := List.mem_map.mp hy; omega) (by omega) (by omega) rfl (fun B => ?_) (fun b => ?_)
  · walk_at "g"
    exact ⟨xs, rfl, hl, rfl⟩
  refine sx_seq ?_
  refine' sx_setO ?h1 ?_
  case h1 => exact rfl
  refine ef_lc ?_
  walk_at "h"
  refine ⟨5, rfl, by decide, by decide, fun m hm0 hm1 => ?_⟩
  walk_at "h"
  refine ⟨1 + m, rfl, by omega, by omega, ?_⟩
  obtain ⟨n, hn⟩ : ∃ n : Nat, 1 + m = (n : Int) := ⟨(1 + m).toNat, by omega⟩
  rw [hn, rng1']
  refine ⟨fun i acc => ∃ rs : List ORow, acc = rs.map ownD ∧ rs.length = i ∧ ∀ r ∈ rs, OwnOk r, ⟨[], rfl, rfl, fun _ h => (nomatch h)⟩, fun W1 i d acc hd hJ => ?_, fun acc hJ => ?_⟩
  · obtain ⟨rs, rfl, hrl, hro⟩ := hJ
    have hi := (List.getElem?_eq_some_iff.mp hd).1
    rw [List.length_map, List.length_range] at hi
    walk_at "h"
    refine ⟨rfl, fun r hr => ?_⟩
    refine ⟨small1000 (by rw [List.length_map]; omega), rs ++ [r], by rw [List.map_append]; rfl, by simp [hrl], fun q hq => ?_⟩
    rcases List.mem_append.mp hq with hq | hq
    · exact hro q hq
    · cases List.mem_singleton.mp hq
      exact hr
  obtain ⟨rs, rfl, hrl, ok⟩ := hJ
  rw [List.length_map, List.length_range] at hrl
  have okr : ∀ r ∈ rs, RowOk r := fun r hr => (ok r hr).row
  refine sx_freeze 2 rfl ?_
  walk_at "h"
  refine ⟨rs, rfl, ok, by omega, fun k rws hrw hro => ?_⟩
  walk_at "v"
  have hlw : rws.length = rs.length := by rw [← hrw, List.length_map]
  refine ⟨k, rws, rfl, by omega, by omega, hro, ?_⟩
  rw [hrw]
  dsimp only
  rw [show D.obj 0 [("rows", .tup (rs.map rowD))] = offD rs from rfl]
  walk_at "h"
  refine ⟨4, rfl, by decide, by decide, fun m hm0 hm1 => ?_⟩
  walk_at "v"
  obtain ⟨q, hq⟩ : ∃ q : Nat, 1 + m = (q : Int) := ⟨(1 + m).toNat, by omega⟩
  rw [hq]
  walk_at "h"
  refine ⟨rs, q, rfl, okr, by omega, by omega, ?_⟩
  walk_at "h"
  refine ⟨rs, q, rfl, okr, by omega, by omega, ?_⟩
  walk_at "h"
  have hG : ∀ i j, Bd 400 (TT (rs.drop i) j) := TT_bd okr (by omega)
  have hq5 : q ≤ 4 := by omega
  have hr5 : rs.length ≤ 5 := by omega
  have etab : tabL rs q = tabG (rs.length + 1) (q + 1) fun i => TT (rs.drop i) := rfl
  have hz : ∀ i j, SzQ (TT (rs.drop i) j) := fun i j => (hG i j).sz (by decide)
  refine ⟨rs.length + 1, q + 1, fun i => TT (rs.drop i), rfl, by omega, by omega, hz, ?_⟩
  walk_at "h"
  refine ⟨Nat, List.range (rs.length + 1), _, fun i => .tup (vec (TT (rs.drop i)) (q + 1)), rfl, Nat.le_of_lt (small1000 (by simp; omega)), fun W1 x hx => ?_, ?_⟩
  · walk_at "h"
    rfl
  walk_at "h"
  refine ⟨fun i => TT (rs.drop i), rs.length + 1, q + 1, rfl, by omega, by omega, ?_⟩
  walk_at "h"
  refine ⟨rs, q, rfl, okr, by omega, by omega, ?_⟩
  walk_at "h"
  have tabI : ∀ i, i < rs.length + 1 → atI ((List.range (rs.length + 1)).map fun i => D.lst (vecL (TT (rs.drop i)) (q + 1))) (i : Int) = some (.lst (vecL (TT (rs.drop i)) (q + 1))) := fun i hi => atI_nat (by simp [hi])
  unfold tabL
  walk_at "h"
  refine x_at (tabI 0 (by omega)) ?_
  walk_at "h"
  refine x_at (atI_nat (vecL_at (i := q) (by omega))) ?_
  walk_at "h"
  refine ⟨_, _, _, 400, rfl, hz 0 q, LR.bdl (hG 0 q), by decide, ?_⟩
  walk_at "h"
  refine br_n (fun z => absurd rfl z) (fun _ => ?_)
  refine sx_next ?_
  have tkt : TabK 400 (.tup ((List.range (rs.length + 1)).map fun i => .tup (vec (TT (rs.drop i)) (q + 1)))) := tabK_tab (by omega) (by omega) hG
  have tkl : TabK 400 (.lst ((List.range (rs.length + 1)).map fun i => .lst (vec (TT (rs.drop i)) (q + 1)))) := tabK_tabl (by omega) (by omega) hG
  have tpt : ShowsP rs q (.tup ((List.range (rs.length + 1)).map fun i => .tup (vec (TT (rs.drop i)) (q + 1)))) := shows_tab.mpr (tabP_self (k := .t) (G := fun i => TT (rs.drop i)) (r := fun g => .tup (vec g (q + 1))) fun g => rfl)
  have tpl : ShowsP rs q (.lst ((List.range (rs.length + 1)).map fun i => .lst (vec (TT (rs.drop i)) (q + 1)))) := shows_tab.mpr (tabP_self (k := .l) (G := fun i => TT (rs.drop i)) (r := fun g => .lst (vec g (q + 1))) fun g => rfl)
  walk_at "h"
  refine ⟨rs, q, _, 400, rfl, okr, by omega, by omega, tkt, by omega, by omega, fun c hc => ?_⟩
  have hc : c = true := hc.mpr tpt
  subst hc
  walk_at "h"
  refine ⟨_, rfl, .inr ⟨true, rfl⟩, ?_⟩
  walk_at "h"
  refine ⟨rs.length + 1, q + 1, fun i => TT (rs.drop i), rfl, by omega, by omega, hz, ?_⟩
  walk_at "h"
  refine ⟨rs, q, _, 400, rfl, okr, by omega, by omega, tkl, by omega, by omega, fun c hc => ?_⟩
  have hc : c = true := hc.mpr tpl
  subst hc
  walk_at "h"
  refine ⟨_, rfl, .inr ⟨true, rfl⟩, ?_⟩
  refine x_bl ?_
  refine br_f rfl ?_
  refine sx_next ?_
  refine sx_seq ?_
  refine' sx_setO ?h1 ?_
  case h1 => exact rfl
  refine ef_lc ?_
  walk_at "h"
  refine ⟨(rs.length : Nat), by rw [List.length_map], by omega, by omega, ?_⟩
  rw [rng1']
  refine ⟨fun i acc => ∃ rs : List ORow, acc = rs.map ownD ∧ rs.length = i ∧ ∀ r ∈ rs, OwnOk r, ⟨[], rfl, rfl, fun _ h => (nomatch h)⟩, fun W1 i d acc hd hJ => ?_, fun acc hJ => ?_⟩
  · obtain ⟨os, rfl, hol, hoo⟩ := hJ
    have hi := (List.getElem?_eq_some_iff.mp hd).1
    rw [List.length_map, List.length_range] at hi
    walk_at "h"
    refine ⟨rfl, fun r hr => ?_⟩
    refine ⟨small1000 (by rw [List.length_map]; omega), os ++ [r], by rw [List.map_append]; rfl, by simp [hol], fun q hq => ?_⟩
    rcases List.mem_append.mp hq with hq | hq
    · exact hoo q hq
    · cases List.mem_singleton.mp hq
      exact hr
  obtain ⟨os, rfl, hol, oko⟩ := hJ
  rw [List.length_map, List.length_range] at hol
  refine sx_freeze 8 rfl ?_
  walk_at "h"
  refine ⟨os, q, rfl, fun r hr => (oko r hr).row, by omega, by omega, ?_⟩
  walk_at "h"
  refine ⟨rs, q + 1, rfl, okr, by omega, by omega, ?_⟩
  walk_at "h"
  rw [← List.map_reverse]
  refine ⟨rs.reverse, q, rfl, fun r hr => okr r (List.mem_reverse.mp hr), by rw [List.length_reverse]; omega, by omega, ?_⟩
  walk_at "h"
  refine ⟨3, rfl, by decide, by decide, fun d hd0 hd1 => ?_⟩
  obtain ⟨x1, e1, hx1⟩ := atI_mem (l := [tabL os q, tabL rs (q + 1), tabL rs.reverse q]) hd0 hd1
  refine x_at e1 ?_
  obtain ⟨os2, q2, rfl, ok2, hl2, hq2⟩ : ∃ (os2 : List ORow) (q2 : Nat), x1 = tabL os2 q2 ∧ (∀ r ∈ os2, RowOk r) ∧ os2.length ≤ 5 ∧ q2 ≤ 5 := by
    simp only [List.mem_cons, List.not_mem_nil, or_false] at hx1
    rcases hx1 with rfl | rfl | rfl
    · exact ⟨os, q, rfl, fun r hr => (oko r hr).row, by omega, by omega⟩
    · exact ⟨rs, q + 1, rfl, okr, by omega, by omega⟩
    · exact ⟨rs.reverse, q, rfl, fun r hr => okr r (List.mem_reverse.mp hr), by rw [List.length_reverse]; omega, by omega⟩
  have hG2 : ∀ i j, Bd 400 (TT (os2.drop i) j) := TT_bd ok2 hl2
  refine sx_seq ?_
  refine' sx_forW ?h1 ?_
  case h1 => exact rfl
  walk_at "h"
  refine ⟨8, rfl, by decide, by decide, ?_⟩
  refine ⟨Nat, List.range 8, _, fun j => [.no, .d .pool, .d (.lst (rs.map ownD)), .d (offD rs), .d (.int (q : Nat)), .d (tabL rs q), .no, .no, .no, .d (tabL os2 q2), .no, .no, .no, .no, .no], rng1' (n := 8), ?_, fun j => rfl, fun B' j x hx => ?_, fun Γ' w => sx_weak w ?_⟩
  · exact .same (.same (.same (.same (.same (.same (.no (.no (.no (.same (.same (.same (.same (.same (.same .nil))))))))))))))
  · obtain ⟨rfl, hj⟩ := rng_get' hx
    walk_at "h"
    refine ⟨rs.length + 1, q + 1, os2.length + 1, q2 + 1, fun i => TT (rs.drop i), fun i => TT (os2.drop i), rfl, by omega, by omega, by omega, by omega, by omega, by omega, hG, hG2, fun ys tk => ?_⟩
    walk_at "h"
    refine ⟨rs.length + 1, q + 1, 480, fun i => TT (rs.drop i), ys, rfl, by omega, by omega, by omega, by omega, fun i j => (hG i j).mono (by decide), tk, fun c hc => ?_⟩
    walk_at "h"
    refine ⟨rs, q, .lst ys, 480, rfl, okr, by omega, by omega, tk, by omega, by omega, fun c2 hc2 => ?_⟩
    have hcc : c2 = c := by
      rw [shows_tab, ← hc] at hc2
      cases c <;> cases c2 <;> simp at hc2 <;> rfl
    subst hcc
    walk_at "h"
    refine ⟨_, rfl, .inr ⟨c2, rfl⟩, ?_⟩
    walk_at "h"
    have yl := tk.len ys rfl
    have yr := tk.row ys rfl
    refine ⟨D, ys, id, tupF, by simp, Nat.le_of_lt (small1000 yl), fun W1 y hy => ?_, ?_⟩
    · have kn := (yr y hy).kn
      walk_at "h"
      refine ck_ty T kn (.inr (.inr (.inl rfl))) ?_
      cases kn <;> (walk_at "h"; first | rfl | exact ⟨.l, _, rfl, rfl⟩ | exact ⟨.m, _, rfl, rfl⟩)
    walk_at "h"
    refine ⟨rs, q, .tup (ys.map tupF), 480, rfl, okr, by omega, by omega, tk.tup, by omega, by omega, fun c3 hc3 => ?_⟩
    have hcc : c3 = c2 := by
      rw [shows_tab, tabP_tup, ← hc] at hc3
      cases c2 <;> cases c3 <;> simp at hc3 <;> rfl
    subst hcc
    walk_at "h"
    refine ⟨_, rfl, .inr ⟨c3, rfl⟩, ?_⟩
    walk_at "h"
    exact .same (.same (.same (.same (.same (.same (.no (.no (.no (.same (.no (.no (.no (.no (.no .nil))))))))))))))
  · walk_at "h"
    refine ⟨5, rfl, by decide, by decide, fun d hd0 hd1 => ?_⟩
    obtain ⟨x1, e1, hx1⟩ := atI_mem (l := [.non, .int 4, .str "ab", .tup [], .lst []]) hd0 hd1
    refine x_at e1 ?_
    walk_at "h"
    have hx2 : TabK 480 x1 ∧ ¬ ShowsP rs q x1 := by
      simp only [List.mem_cons, List.not_mem_nil, or_false] at hx1
      rcases hx1 with rfl | rfl | rfl | rfl | rfl
      · exact ⟨⟨.non, fun _ h => (nomatch h), fun _ h => (nomatch h)⟩, fun ⟨_, h, _⟩ => nomatch h⟩
      · exact ⟨⟨.int _, fun _ h => (nomatch h), fun _ h => (nomatch h)⟩, fun ⟨_, h, _⟩ => nomatch h⟩
      · exact ⟨⟨.str _, fun _ h => (nomatch h), fun _ h => (nomatch h)⟩, fun ⟨_, h, _⟩ => nomatch h⟩
      · exact ⟨tabK_lst (k := .t) (by simp) (by simp), fun ⟨ys, h, h2, _⟩ => by cases h; simp at h2⟩
      · exact ⟨tabK_lst (k := .l) (by simp) (by simp), fun ⟨ys, h, h2, _⟩ => by cases h; simp at h2⟩
    refine ⟨rs, q, x1, 480, rfl, okr, by omega, by omega, hx2.1, by omega, by omega, fun c hc => ?_⟩
    have hcf : c = false := by
      cases c with
      | false => rfl
      | true => exact absurd (hc.mp rfl) hx2.2
    subst hcf
    walk_at "h"
    exact ⟨_, rfl, .inr ⟨false, rfl⟩, rfl⟩

end

end K
end

set_option maxRecDepth 100000
set_option maxHeartbeats 0
namespace KH
open PySem PySem.Spec PyProof.Rows L2 G K
abbrev spl : Sp := SpLaw
theorem law_ok {P : Program} {w : World} {K : PySem.W.Frag} {mg : Str → Option Value} {base : Heap} (T : Tx K mg) {fd : FuncData} (FD : FnP K "law" s_law fd) : FnOk P w K mg base (L2.CX P w) 10 (He.ga K "law") fd ["script"] SpLaw := by
  have c_is_integer := ok_is_integer (P := P) (w := w) (base := base) T 
  have c_is_between := ok_is_between (P := P) (w := w) (base := base) T c_is_integer
  have c_is_sequence := ok_is_sequence (P := P) (w := w) (base := base) T 
  obtain ⟨fd_FracD_initD, F_FracD_initD⟩ := T.d_FracD_initD
  have I_FracD_initD := ok_FracD_initD (P := P) (w := w) (base := base) T c_is_integer F_FracD_initD
  have m_Frac1 : CalM P w K mg base 2 "Frac" [.int 1] (SpFamI (CL K) (He.ga K "Frac") S_FracD_initD) := by
    obtain ⟨ds, hv, hb⟩ := F_FracD_initD.binds1 (ps := ["self", "num", "den"]) 2 0 (by simp) rfl (fun T kV doc pm an cdv ct us its h1 h2 => match us, its, h1, h2 with | [_, _], [_], _, _ => ⟨_, rfl, rfl⟩)
    exact ⟨T.g_Frac, _, fd_FracD_initD, _, ds, T.mk_Frac, I_FracD_initD, hb, hv⟩
  have m_Frac2 : CalM P w K mg base 2 "Frac" [] (SpFamI (CL K) (He.ga K "Frac") S_FracD_initD) := by
    obtain ⟨ds, hv, hb⟩ := F_FracD_initD.binds1 (ps := ["self", "num", "den"]) 3 1 (by simp) rfl (fun T kV doc pm an cdv ct us its h1 h2 => match us, its, h1, h2 with | [_, _, _], [_], _, _ => ⟨_, rfl, rfl⟩)
    exact ⟨T.g_Frac, _, fd_FracD_initD, _, ds, T.mk_Frac, I_FracD_initD, hb, hv⟩
  obtain ⟨fd_FracD_addD, F_FracD_addD, B_FracD_addD⟩ := ok_FracD_addD (P := P) (w := w) (base := base) T m_Frac2
  have o_add : CalO P w K mg base 4 (He.ga K "Frac") .Add _ := ⟨T.op_Frac_Add.2.2, _, fd_FracD_addD, _, T.op_Frac_Add.1, T.op_Frac_Add.2.1, F_FracD_addD, B_FracD_addD⟩
  obtain ⟨fd_FracD_subD, F_FracD_subD, B_FracD_subD⟩ := ok_FracD_subD (P := P) (w := w) (base := base) T m_Frac2
  have o_sub : CalO P w K mg base 4 (He.ga K "Frac") .Sub _ := ⟨T.op_Frac_Sub.2.2, _, fd_FracD_subD, _, T.op_Frac_Sub.1, T.op_Frac_Sub.2.1, F_FracD_subD, B_FracD_subD⟩
  obtain ⟨fd_FracD_mulD, F_FracD_mulD, B_FracD_mulD⟩ := ok_FracD_mulD (P := P) (w := w) (base := base) T m_Frac2
  have o_mul : CalO P w K mg base 4 (He.ga K "Frac") .Mult _ := ⟨T.op_Frac_Mult.2.2, _, fd_FracD_mulD, _, T.op_Frac_Mult.1, T.op_Frac_Mult.2.1, F_FracD_mulD, B_FracD_mulD⟩
  obtain ⟨fd_Frac_is_below, F_Frac_is_below, B_Frac_is_below⟩ := ok_Frac_is_below (P := P) (w := w) (base := base) T 
  have c_Frac_is_below : CalT P w K mg base 1 (He.ga K "Frac") "is_below" _ := ⟨T.cl_Frac, _, fd_Frac_is_below, _, T.m_Frac_is_below, F_Frac_is_below, B_Frac_is_below⟩
  have c_as_frac := ok_as_frac (P := P) (w := w) (base := base) T c_is_integer m_Frac1
  have c_is_amount := ok_is_amount (P := P) (w := w) (base := base) T c_is_integer c_as_frac
  obtain ⟨fd_FracD_eqD, F_FracD_eqD, B_FracD_eqD⟩ := ok_FracD_eqD (P := P) (w := w) (base := base) T 
  have e_Frac : CalS P w K mg base 1 (He.ga K "Frac") "__eq__" _ := ⟨_, fd_FracD_eqD, _, T.sp_Frac_eq.1, T.sp_Frac_eq.2, F_FracD_eqD, B_FracD_eqD⟩
  have c_are_fracs := ok_are_fracs (P := P) (w := w) (base := base) T c_is_sequence
  have c__law_gcd := ok__law_gcd (P := P) (w := w) (base := base) T 
  have c__law_low := ok__law_low (P := P) (w := w) (base := base) T c__law_gcd
  have c__law_plus := ok__law_plus (P := P) (w := w) (base := base) T 
  have c__law_times := ok__law_times (P := P) (w := w) (base := base) T 
  have c__law_below := ok__law_below (P := P) (w := w) (base := base) T 
  have c__law_equal := ok__law_equal (P := P) (w := w) (base := base) T 
  have c__law_greater := ok__law_greater (P := P) (w := w) (base := base) T c__law_below
  have c__law_pair := ok__law_pair (P := P) (w := w) (base := base) T c__law_gcd
  have c__law_pairs := ok__law_pairs (P := P) (w := w) (base := base) T c__law_pair
  have c__law_is := ok__law_is (P := P) (w := w) (base := base) T c__law_pair c__law_equal
  have c_greatest_of := ok_greatest_of (P := P) (w := w) (base := base) T c_Frac_is_below
  have c_total := ok_total (P := P) (w := w) (base := base) T m_Frac1 o_add
  have c_is_shown := ok_is_shown (P := P) (w := w) (base := base) T c_is_sequence c_is_between c_is_amount c_as_frac
  have c_is_offer := ok_is_offer (P := P) (w := w) (base := base) T c_is_sequence c_is_shown
  obtain ⟨fd_OffersD_initD, F_OffersD_initD⟩ := T.d_OffersD_initD
  have I_OffersD_initD := ok_OffersD_initD (P := P) (w := w) (base := base) T c_is_sequence c_is_offer c_as_frac F_OffersD_initD
  have m_Offers1 : CalM P w K mg base 8 "Offers" [] (SpFamI (CL K) (He.ga K "Offers") S_OffersD_initD) := ⟨T.g_Offers, _, fd_OffersD_initD, _, [], T.mk_Offers, I_OffersD_initD, F_OffersD_initD.bindsN (fun _ _ _ _ _ _ us hl => match us, hl with | [_, _], _ => rfl), .nil⟩
  have c_shown_shares := ok_shown_shares (P := P) (w := w) (base := base) T m_Frac2
  have c_row_before := ok_row_before (P := P) (w := w) (base := base) T m_Frac1 o_add c_shown_shares o_mul c_greatest_of c_total
  obtain ⟨fd_OffersD_lenD, F_OffersD_lenD, B_OffersD_lenD⟩ := ok_OffersD_lenD (P := P) (w := w) (base := base) T 
  have l_Offers : CalS P w K mg base 1 (He.ga K "Offers") "__len__" _ := ⟨_, fd_OffersD_lenD, _, T.sp_Offers_len.1, T.sp_Offers_len.2, F_OffersD_lenD, B_OffersD_lenD⟩
  have c_turn_rows := ok_turn_rows (P := P) (w := w) (base := base) T m_Frac1 c_row_before
  have c_turn_worth := ok_turn_worth (P := P) (w := w) (base := base) T c_turn_rows
  have c_turn_certificate := ok_turn_certificate (P := P) (w := w) (base := base) T c_turn_rows
  have c_shows_turn := ok_shows_turn (P := P) (w := w) (base := base) T c_is_sequence l_Offers c_are_fracs e_Frac c_row_before
  have c__law_turns := ok__law_turns (P := P) (w := w) (base := base) T c__law_greater c__law_plus c__law_times c__law_low
  have c__law_bag := ok__law_bag (P := P) (w := w) (base := base) T 
  have c__law_draw := ok__law_draw (P := P) (w := w) (base := base) T 
  have c__law_offer := ok__law_offer (P := P) (w := w) (base := base) T c__law_draw c__law_low
  have c__law_offered := ok__law_offered (P := P) (w := w) (base := base) T m_Frac2 c__law_draw
  have c__law_same_0 := ok__law_same_0 (P := P) (w := w) (base := base) T 
  have c__law_same_1 := ok__law_same_1 (P := P) (w := w) (base := base) T c__law_same_0
  have c__law_same_2 := ok__law_same_2 (P := P) (w := w) (base := base) T c__law_same_1
  have c__law_written := ok__law_written (P := P) (w := w) (base := base) T m_Frac2
  have c__law_written_N := ok__law_written_N (P := P) (w := w) (base := base) T m_Frac2
  have c__law_table_right := ok__law_table_right (P := P) (w := w) (base := base) T c__law_pairs c__law_equal
  have c__law_bent := ok__law_bent (P := P) (w := w) (base := base) T c__law_draw c__law_written_N o_add m_Frac2 m_Frac1 c__law_written
  exact ok_law (P := P) (w := w) (base := base) T c__law_bag c__law_draw c__law_offer m_Offers1 c__law_offered c__law_turns c_turn_certificate c__law_written c__law_same_2 c__law_is c_turn_worth c__law_same_0 c_shows_turn c__law_bent c__law_table_right FD
end KH
open PySem PySem.W PySem.Calls PyProof.Rows
set_option maxRecDepth 100000 in
set_option maxHeartbeats 0 in
theorem PySem.Challenge.cw_nextprices_k77_whole_shown_turns_holds : PySem.Challenge.rw_nextprices_k77_whole_shown_turns.Holds := by
  w_on; o_law
  refine HandSHeadRun.head_imp (r := OpenLaw.row PySem.Challenge.rw_nextprices_k77_whole_shown_turns) (q := KH.qv) (H := KH.hk) (ob := KH.ob) (M := 12000) (loose := KH.loose) (d := HandSHeadRun.topDef (OpenLaw.row PySem.Challenge.rw_nextprices_k77_whole_shown_turns).prog 76) (kwd := []) KH.ob_eq KH.run
    (by kernel_rfl) (by kernel_rfl) (by kernel_rfl) (by rfl) (by first | assumption | decide +kernel) (by decide +kernel) ⟨rfl, rfl, rfl, rfl, rfl, by decide +kernel⟩ ?hw ?hc
  case hw => w_witness2
  case hc =>
    refine HG.walk_ofX (l := PySem.Challenge.rw_nextprices_k77_whole_shown_turns) (n := 63) (k := 10) (x := "script") (CX := fun w => L2.CX (PySem.Challenge.rw_nextprices_k77_whole_shown_turns).prog w) rfl (by decide) (by kernel_rfl) ⟨rfl, by decide, by decide⟩ ?F HG.cx_none
    intro w mg fa h Y G hmg0
    obtain ⟨K, KX, hL, c⟩ := Y
    have hmg : mg ("law" : PySem.Str) = some (.ref fa) := by
      have e : (HandSHeadRun.topDef (OpenLaw.row PySem.Challenge.rw_nextprices_k77_whole_shown_turns).prog 76).name = ("law" : PySem.Str) := by kernel_rfl
      rw [← e]
      exact hmg0
    have T := KH.facts KX G c
    have e := hmg.symm.trans T.g_law
    injection e with e
    injection e with e
    subst e
    obtain ⟨fd, FD⟩ := T.d_law
    refine ⟨K, fd, KH.spl, KX, fun s u => FD.bindsA (ps := ["script"]) (fun _ _ _ _ _ _ us hl => match us, hl with | [_], _ => rfl) s [u] rfl, fun H a ns hl hO hS => ?_, fun base _ _ => ?_⟩
    · obtain ⟨o, z⟩ := HG.script_frz hL hO hS
      exact ⟨a, o, ns, rfl, z, hl, fun _ => rfl⟩
    · exact KH.law_ok (P := (PySem.Challenge.rw_nextprices_k77_whole_shown_turns).prog) (w := w) (base := base) T FD
