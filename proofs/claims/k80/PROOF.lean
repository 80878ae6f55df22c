import PyProof.Rows.All
import Wide.All
import OpenK.AllK
import Wide.FinOn
import HandS.ForMost
import HandS.Wide
import HandS.Gcd
import HandS.IsInst
import HandS.Defaults
import HandS.Zip
import HandS.Rev
import HandS.WordsExc
import HandS.HeadHook1
import HandS.HeadHook2
import HandS.Style
import HandS.Deep
import HandS.TryOnly
import KE.GoesMore
import PyProof.EqAt
import PyProof.EqKinds
import PyProof.NeKinds
import PyProof.TupleCall
import HandS.OwnEq
import HandS.NamedTupGet
import KE.KStateDown
import HandS.Head0
import HandS.Head1
import HandS.Head2
import HandS.Head3
import HandS.HeadEnd
import KE.KExcIs
import HandS.ExcInit
import HandS.ExcIs
import HandS.ExcField
import HandS.HotCalls
import HandS.More
import PySem.Challenge.RW_nextprices_k80_boxes_made
set_option Elab.async false
set_option linter.all false
section
set_option maxRecDepth 100000
set_option maxHeartbeats 2000000
/-! the data layer: trees of data, what stands for them, environments of slots -/
namespace G
open PySem PySem.Spec PyProof.Rows L2

/-- data -/
inductive D where
  | non | bl (b : Bool) | int (i : Int) | str (s : Str)
  | lst (l : List D) | tup (l : List D)
  | raw (l : List D)
  | mls (l : List D)
  | adr (a : Addr)
  | frac (q : Rat)
  | obj (c : Nat) (l : List (Str × D))
  | dic (l : List (Key × D))
  | pool
  | ty (n : String) | cls (a : Addr)

/-- the classes' addresses, what the pool holds -/
structure Cl where
  frac : Addr
  cls : Nat → Addr
  pk : Hp → Option HO → Prop
  pkm : ∀ {W W' : Hp} {o}, Same W W' → pk W o → pk W' o
  pks : ∀ {W : Hp} {o}, pk W o → ∃ x, o = some x
  m : Hp

def fracF (q : Rat) : List (Str × V) := [("num", .int q.num), ("den", .int q.den)]

mutual
inductive Rep (C : Cl) (P : Option Addr) (W : Hp) : V → D → Prop where
  | non : Rep C P W .non .non
  | bl (b : Bool) : Rep C P W (.bl b) (.bl b)
  | int (i : Int) : Rep C P W (.int i) (.int i)
  | str (s : Str) : Rep C P W (.str s) (.str s)
  | lst {a : Addr} {vs : List V} {l : List D} : W a = some (.lst vs) → RepL C P W vs l → Rep C P W (.ref a) (.lst l)
  | tup {a : Addr} {vs : List V} {l : List D} : W a = some (.tup vs) → RepL C P W vs l → Rep C P W (.ref a) (.tup l)
  | raw {a : Addr} {o : Obj} {vs : List V} {l : List D} : W a = some (.frz o (.lst vs)) → RepL C P W vs l → Rep C P W (.ref a) (.raw l)
  | mls {a : Addr} {vs : List V} {l : List D} : C.m a = some (.lst vs) → RepL C P W vs l → Rep C P W (.ref a) (.mls l)
  | adr (a : Addr) : Rep C P W (.ref a) (.adr a)
  | frac {a dx : Addr} {q : Rat} : W a = some (.ins C.frac dx (fracF q)) → Rep C P W (.ref a) (.frac q)
  | obj {a dx : Addr} {c : Nat} {fs : List (Str × V)} {l : List (Str × D)} : W a = some (.ins (C.cls c) dx fs) → fs.map (·.1) = l.map (·.1) → RepL C P W (fs.map (·.2)) (l.map (·.2)) → Rep C P W (.ref a) (.obj c l)
  | dic {a : Addr} {fs : List (Key × V)} {l : List (Key × D)} : W a = some (.dK fs) → fs.map (·.1) = l.map (·.1) → RepL C P W (fs.map (·.2)) (l.map (·.2)) → Rep C P W (.ref a) (.dic l)
  | pool {a : Addr} : P = some a → Rep C P W (.ref a) .pool
  | ty (n : String) : Rep C P W (.ty n) (.ty n)
  | cls (a : Addr) : Rep C P W (.ref a) (.cls a)
inductive RepL (C : Cl) (P : Option Addr) (W : Hp) : List V → List D → Prop where
  | nil : RepL C P W [] []
  | cons {v : V} {d : D} {vs : List V} {l : List D} : Rep C P W v d → RepL C P W vs l → RepL C P W (v :: vs) (d :: l)
end

section
variable {C : Cl} {P : Option Addr} {W W' : Hp}
mutual
theorem Rep.mono (s : Same W W') : ∀ {v : V} {d : D}, Rep C P W v d → Rep C P W' v d
  | _, _, .non => .non
  | _, _, .bl b => .bl b
  | _, _, .int i => .int i
  | _, _, .str i => .str i
  | _, _, .lst h r => .lst (s _ _ h) (RepL.mono s r)
  | _, _, .tup h r => .tup (s _ _ h) (RepL.mono s r)
  | _, _, .raw h r => .raw (s _ _ h) (RepL.mono s r)
  | _, _, .mls h r => .mls h (RepL.mono s r)
  | _, _, .adr a => .adr a
  | _, _, .frac h => .frac (s _ _ h)
  | _, _, .obj h e r => .obj (s _ _ h) e (RepL.mono s r)
  | _, _, .dic h e r => .dic (s _ _ h) e (RepL.mono s r)
  | _, _, .pool h => .pool h
  | _, _, .ty n => .ty n
  | _, _, .cls n => .cls n
theorem RepL.mono (s : Same W W') : ∀ {vs : List V} {l : List D}, RepL C P W vs l → RepL C P W' vs l
  | _, _, .nil => .nil
  | _, _, .cons h r => .cons (Rep.mono s h) (RepL.mono s r)
end
theorem RepL.length : ∀ {vs : List V} {l : List D}, RepL C P W vs l → vs.length = l.length
  | _, _, .nil => rfl
  | _, _, .cons _ r => congrArg Nat.succ r.length
theorem RepL.get : ∀ {vs : List V} {l : List D} {i : Nat} {d : D}, RepL C P W vs l → l[i]? = some d → ∃ v, vs[i]? = some v ∧ Rep C P W v d
  | _, _, _, _, .nil, e => by simp at e
  | _, _, 0, d, .cons h r, e => by simp at e; subst e; exact ⟨_, rfl, h⟩
  | _, _, i + 1, d, .cons h r, e => by
    obtain ⟨v, h1, h2⟩ := RepL.get (i := i) r (by simpa using e)
    exact ⟨v, by simpa using h1, h2⟩
theorem RepL.getV : ∀ {vs : List V} {l : List D} {i : Nat} {v : V}, RepL C P W vs l → vs[i]? = some v → ∃ d, l[i]? = some d ∧ Rep C P W v d
  | _, _, _, _, .nil, e => by simp at e
  | _, _, 0, d, .cons h r, e => by simp at e; subst e; exact ⟨_, rfl, h⟩
  | _, _, i + 1, d, .cons h r, e => by
    obtain ⟨v, h1, h2⟩ := RepL.getV (i := i) r (by simpa using e)
    exact ⟨v, by simpa using h1, h2⟩
theorem RepL.append : ∀ {vs ws : List V} {l m : List D}, RepL C P W vs l → RepL C P W ws m → RepL C P W (vs ++ ws) (l ++ m)
  | _, _, _, _, .nil, s => s
  | _, _, _, _, .cons h r, s => .cons h (RepL.append r s)
theorem RepL.one {v : V} {d : D} (h : Rep C P W v d) : RepL C P W [v] [d] := .cons h .nil
theorem RepL.take : ∀ {vs : List V} {l : List D} (n : Nat), RepL C P W vs l → RepL C P W (vs.take n) (l.take n)
  | _, _, 0, _ => .nil
  | _, _, _ + 1, .nil => .nil
  | _, _, n + 1, .cons h r => .cons h (RepL.take n r)
theorem RepL.drop : ∀ {vs : List V} {l : List D} (n : Nat), RepL C P W vs l → RepL C P W (vs.drop n) (l.drop n)
  | _, _, 0, r => r
  | _, _, _ + 1, .nil => .nil
  | _, _, n + 1, .cons _ r => RepL.drop n r
theorem RepL.set {v : V} {d : D} (h : Rep C P W v d) : ∀ {vs : List V} {l : List D} (i : Nat), RepL C P W vs l → RepL C P W (vs.set i v) (l.set i d)
  | _, _, _, .nil => .nil
  | _, _, 0, .cons _ r => .cons h r
  | _, _, i + 1, .cons q r => .cons q (RepL.set h i r)
theorem RepL.reverse : ∀ {vs : List V} {l : List D}, RepL C P W vs l → RepL C P W vs.reverse l.reverse
  | _, _, .nil => .nil
  | _, _, .cons h r => by
    rw [List.reverse_cons, List.reverse_cons]
    exact (RepL.reverse r).append (.one h)
theorem RepL.rep {vs : List V} {l : List D} (h : RepL C P W vs l) : ∀ k : Nat, RepL C P W (List.replicate k vs).flatten (List.replicate k l).flatten
  | 0 => .nil
  | k + 1 => by
    rw [List.replicate_succ, List.replicate_succ, List.flatten_cons, List.flatten_cons]
    exact h.append (RepL.rep h k)
theorem RepL.cut {vs : List V} {l : List D} (h : RepL C P W vs l) (lo hi : Option Int) : RepL C P W (cutV vs lo hi) ((l.drop (HT.sIx l.length 0 lo)).take (HT.sIx l.length l.length hi - HT.sIx l.length 0 lo)) := by
  unfold cutV
  rw [h.length]
  exact (h.drop _).take _
theorem RepL.ints : ∀ {vs : List V} {ns : List Int}, RepL C P W vs (ns.map D.int) → vs = ns.map V.int
  | vs, [], h => by cases h; rfl
  | vs, n :: ns, h => by
    cases h with
    | cons h r =>
      cases h
      rw [RepL.ints r]
      rfl
theorem RepL.bls : ∀ {vs : List V} {bs : List Bool}, RepL C P W vs (bs.map D.bl) → vs = bs.map V.bl
  | vs, [], h => by cases h; rfl
  | vs, n :: ns, h => by
    cases h with
    | cons h r =>
      cases h
      rw [RepL.bls r]
      rfl
theorem repL_ints : ∀ {ns : List Int}, RepL C P W (ns.map V.int) (ns.map D.int)
  | [] => .nil
  | n :: ns => .cons (.int n) repL_ints
end

/-- nothing is given to be changed -/
abbrev noS : Addr → Prop := fun _ => False
/-- a step of the heap: the world grows, what was tracked stands but for the pool (P) and what is given to be changed (S) -/
structure Stp (C : Cl) (P : Option Addr) (S : Addr → Prop) (W H W' H' : Hp) : Prop where
  ww : Same W W'
  wh : Same W' H'
  hh : ∀ a o, H a = some o → P ≠ some a → ¬ S a → H' a = some o
  dom : ∀ a o, H a = some o → ∃ o', H' a = some o'
  old : ∀ a o, H a = some o → W' a = W a
  pool : ∀ a, P = some a → C.pk W (H a) → C.pk W' (H' a)

section
variable {C : Cl} {P : Option Addr} {S : Addr → Prop} {W H W' H' W2 H2 : Hp}
theorem Stp.refl (h : Same W H) : Stp C P S W H W H := ⟨.refl _, h, fun _ _ e _ _ => e, fun _ o e => ⟨o, e⟩, fun _ _ _ => rfl, fun _ _ q => q⟩
theorem Stp.trans (a : Stp C P S W H W' H') (b : Stp C P S W' H' W2 H2) : Stp C P S W H W2 H2 where
  ww := a.ww.trans b.ww
  wh := b.wh
  hh := fun x o e p s => b.hh x o (a.hh x o e p s) p s
  dom := fun x o e => let ⟨o', e'⟩ := a.dom x o e; b.dom x o' e'
  old := fun x o e => let ⟨o', e'⟩ := a.dom x o e; (b.old x o' e').trans (a.old x o e)
  pool := fun x e q => b.pool x e (a.pool x e q)
theorem Stp.self (a : Stp C P noS W H W' H') : Stp C P S W H W' H' := ⟨a.ww, a.wh, fun x o e p _ => a.hh x o e p (fun z => z), a.dom, a.old, a.pool⟩
theorem Stp.free (a : Stp C P S W H W' H') {x : Addr} (h : H' x = none) : H x = none := by
  cases e : H x with
  | none => rfl
  | some o =>
    obtain ⟨o', e'⟩ := a.dom x o e
    rw [e'] at h; cases h
/-- a new object, persistent -/
theorem Stp.new (hw : Same W H) {p : Addr} {o : HO} (hp : H p = none) (hP : ∀ a, P = some a → H a ≠ none) : Stp C P S W H (upd W p o) (upd H p o) where
  ww := fun a u e => by rw [upd_ne (ne_of_none (hw a u e) hp)]; exact e
  wh := fun a u e => by
    by_cases h : a = p
    · subst h; rw [upd_same] at e ⊢; exact e
    · rw [upd_ne h] at e ⊢; exact hw a u e
  hh := fun a u e _ _ => by rw [upd_ne (ne_of_none e hp)]; exact e
  dom := fun a u e => ⟨u, by rw [upd_ne (ne_of_none e hp)]; exact e⟩
  old := fun a u e => by rw [upd_ne (ne_of_none e hp)]
  pool := fun a e q => by
    have h : a ≠ p := fun z => by subst z; exact hP a e hp
    rw [upd_ne h]
    exact C.pkm (fun b u e => by rw [upd_ne (ne_of_none (hw b u e) hp)]; exact e) q
/-- a new object, not yet in the world -/
theorem Stp.own (hw : Same W H) {p : Addr} {o : HO} (hp : H p = none) (hP : ∀ a, P = some a → H a ≠ none) : Stp C P S W H W (upd H p o) where
  ww := .refl _
  wh := fun a u e => by rw [upd_ne (ne_of_none (hw a u e) hp)]; exact hw a u e
  hh := fun a u e _ _ => by rw [upd_ne (ne_of_none e hp)]; exact e
  dom := fun a u e => ⟨u, by rw [upd_ne (ne_of_none e hp)]; exact e⟩
  old := fun a u e => rfl
  pool := fun a e q => by
    have h : a ≠ p := fun z => by subst z; exact hP a e hp
    rw [upd_ne h]
    exact q
end

/-- slots of a frame: unknown; data; a list that only this frame knows; an instance that is being made; behind the slots: the lists that this frame may change, by their addresses -/
inductive Sl where
  | no
  | d (x : D)
  | own (l : List D)
  | ins (c : Addr) (l : List (Str × D))
  | reg (cs : List (Addr × List D))

def Sl.isO : Sl → Bool
  | .own _ => true
  | .ins _ _ => true
  | _ => false
def Sl.isR : Sl → Bool
  | .reg _ => true
  | _ => false
/-- the i-th is a slot -/
def isSlot : List Sl → Nat → Bool
  | [], _ => false
  | s :: _, 0 => !s.isR
  | _ :: r, i + 1 => isSlot r i
theorem isSlot_at : ∀ {Γ : List Sl} {i : Nat}, isSlot Γ i = true → ∃ s, Γ[i]? = some s ∧ s.isR = false
  | [], _, h => by cases h
  | s :: _, 0, h => ⟨s, rfl, by simpa [isSlot] using h⟩
  | _ :: r, i + 1, h => by
    obtain ⟨s, h1, h2⟩ := isSlot_at (Γ := r) (i := i) h
    exact ⟨s, by simpa using h1, h2⟩
theorem isSlot_set {s : Sl} (hs : s.isR = false) : ∀ {Γ : List Sl} {i j : Nat}, isSlot Γ j = true → isSlot (Γ.set i s) j = true
  | [], _, _, h => by cases h
  | _ :: _, 0, 0, h => by simp [isSlot, hs]
  | _ :: _, 0, _ + 1, h => h
  | _ :: _, _ + 1, 0, h => h
  | _ :: r, i + 1, j + 1, h => isSlot_set hs (Γ := r) (i := i) (j := j) h
theorem isSlot_lt {Γ : List Sl} {i : Nat} (h : isSlot Γ i = true) : i < Γ.length := by
  obtain ⟨s, h1, _⟩ := isSlot_at h
  exact (List.getElem?_eq_some_iff.mp h1).1

def SlOk (C : Cl) (P : Option Addr) (W H : Hp) (ov : Option V) (a : Addr) : Sl → Prop
  | .no => True
  | .d x => ∃ v, ov = some v ∧ Rep C P W v x
  | .own l => ov = some (.ref a) ∧ ∃ vs, H a = some (.lst vs) ∧ RepL C P W vs l
  | .ins c l => ov = some (.ref a) ∧ ∃ dx fs, H a = some (.ins c dx fs) ∧ fs.map (·.1) = l.map (·.1) ∧ RepL C P W (fs.map (·.2)) (l.map (·.2))
  | .reg _ => True

/-- where a body began: the pool, what is given to be changed, world and heap at its entry, and what of the world is surely there -/
structure Bs where
  P : Option Addr
  S : Addr → Prop
  W0 : Hp
  H0 : Hp
  kp : Hp

def Bs.keep (B : Bs) (W : Hp) : Bs := { B with kp := W }

/-- the pool is there, and what may be read but not kept -/
structure PlOk (C : Cl) (P : Option Addr) (W H : Hp) : Prop where
  po : ∀ a, P = some a → W a = none ∧ C.pk W (H a)
  rg : ∀ a o, C.m a = some o → H a = some o ∧ W a = none ∧ P ≠ some a
theorem PlOk.ne {C : Cl} {P : Option Addr} {W H : Hp} (h : PlOk C P W H) : ∀ a, P = some a → H a ≠ none := fun a e z => by
  obtain ⟨x, q⟩ := C.pks (h.po a e).2
  rw [z] at q; cases q
theorem PlOk.step {C : Cl} {P : Option Addr} {W H W' H' : Hp} (h : PlOk C P W H) (s : Stp C P noS W H W' H') : PlOk C P W' H' where
  po := fun a e => by
    obtain ⟨h1, h2⟩ := h.po a e
    obtain ⟨x, q⟩ := C.pks h2
    exact ⟨(s.old a x q).trans h1, s.pool a e h2⟩
  rg := fun a o e => by
    obtain ⟨h1, h2, h3⟩ := h.rg a o e
    exact ⟨s.hh a o h1 h3 (fun z => z), (s.old a o h1).trans h2, h3⟩

def Fr (B : Bs) (W : Hp) (a : Addr) : Sl → Prop
  | .ins _ _ => W a = none ∧ B.P ≠ some a ∧ B.S a
  | _ => W a = none ∧ B.P ≠ some a ∧ B.H0 a = none
theorem Fr.w {B : Bs} {W : Hp} {a : Addr} {s : Sl} (h : Fr B W a s) : W a = none := by cases s <;> exact h.1
theorem Fr.p {B : Bs} {W : Hp} {a : Addr} {s : Sl} (h : Fr B W a s) : B.P ≠ some a := by cases s <;> exact h.2.1
theorem Fr.h {B : Bs} {W : Hp} {a : Addr} {s : Sl} (h : Fr B W a s) : B.H0 a = none ∨ B.S a := by cases s <;> first | exact .inl h.2.2 | exact .inr h.2.2
theorem Fr.mono {B : Bs} {W W' : Hp} {a : Addr} {s : Sl} (h : Fr B W a s) (z : W' a = none) : Fr B W' a s := by cases s <;> exact ⟨z, h.2.1, h.2.2⟩

/-- a list that the frame may change -/
structure CellOk (C : Cl) (B : Bs) (W H : Hp) (p : Addr × List D) : Prop where
  w : W p.1 = none
  np : B.P ≠ some p.1
  h : B.H0 p.1 = none
  at_ : ∃ vs, H p.1 = some (.lst vs) ∧ RepL C B.P W vs p.2

structure Owns (C : Cl) (B : Bs) (W H : Hp) (σ : L2.St) (Γ : List Sl) (ow : Nat → Addr) : Prop where
  inj : ∀ (i j : Nat) (s t : Sl), Γ[i]? = some s → Γ[j]? = some t → s.isO = true → t.isO = true → ow i = ow j → i = j
  fr : ∀ (i : Nat) (s : Sl), Γ[i]? = some s → s.isO = true → Fr B W (ow i) s
  ok : ∀ (i : Nat) (s : Sl), Γ[i]? = some s → SlOk C B.P W H (σ.getD i none) (ow i) s
  one : ∀ (i j : Nat) (cs ds : List (Addr × List D)), Γ[i]? = some (.reg cs) → Γ[j]? = some (.reg ds) → i = j
  nd : ∀ (i : Nat) (cs : List (Addr × List D)), Γ[i]? = some (.reg cs) → (cs.map (·.1)).Nodup
  cl : ∀ (i : Nat) (cs : List (Addr × List D)) (p : Addr × List D), Γ[i]? = some (.reg cs) → p ∈ cs → CellOk C B W H p
  df : ∀ (i : Nat) (cs : List (Addr × List D)) (p : Addr × List D) (j : Nat) (s : Sl), Γ[i]? = some (.reg cs) → p ∈ cs → Γ[j]? = some s → s.isO = true → ow j ≠ p.1

structure LenOk (σ : L2.St) (Γ : List Sl) : Prop where
  le : σ.length ≤ Γ.length
  c : ∀ (i : Nat) (s : Sl), Γ[i]? = some s → (σ.length ≤ i ↔ s.isR = true)
theorem LenOk.lt {σ : L2.St} {Γ : List Sl} (h : LenOk σ Γ) {i : Nat} (hi : isSlot Γ i = true) : i < σ.length := by
  obtain ⟨s, h1, h2⟩ := isSlot_at hi
  rcases Nat.lt_or_ge i σ.length with z | z
  · exact z
  · rw [(h.c i s h1).mp z] at h2; cases h2
theorem LenOk.set {σ : L2.St} {Γ : List Sl} (h : LenOk σ Γ) {i : Nat} {x : Option V} {s : Sl} (hi : i < σ.length) (hs : s.isR = false) : LenOk (σ.set i x) (Γ.set i s) where
  le := by rw [List.length_set, List.length_set]; exact h.le
  c := fun j t h1 => by
    rw [List.length_set]
    by_cases hj : i = j
    · subst hj
      rw [List.getElem?_set_self (by have := h.le; omega)] at h1
      cases h1
      exact ⟨fun z => by omega, fun z => by rw [hs] at z; cases z⟩
    · rw [List.getElem?_set_ne hj] at h1
      exact h.c j t h1
theorem LenOk.setG {σ : L2.St} {Γ : List Sl} (h : LenOk σ Γ) {i : Nat} {s t : Sl} (hs : Γ[i]? = some s) (e : s.isR = t.isR) : LenOk σ (Γ.set i t) where
  le := by rw [List.length_set]; exact h.le
  c := fun j u h1 => by
    by_cases hj : i = j
    · subst hj
      rw [List.getElem?_set_self (List.getElem?_eq_some_iff.mp hs).1] at h1
      cases h1
      rw [← e]
      exact h.c i s hs
    · rw [List.getElem?_set_ne hj] at h1
      exact h.c j u h1

structure EnvOk (C : Cl) (B : Bs) (W H : Hp) (σ : L2.St) (Γ : List Sl) : Prop where
  stp : Stp C B.P B.S B.W0 B.H0 W H
  kp : Same B.kp W
  pl : PlOk C B.P W H
  p0 : ∀ a o, C.m a = some o → B.H0 a = some o ∧ ¬ B.S a
  len : LenOk σ Γ
  ow : ∃ ow : Nat → Addr, Owns C B W H σ Γ ow

section
variable {C : Cl} {B : Bs} {W H W' H' : Hp} {σ : L2.St} {Γ Γ' : List Sl}
theorem EnvOk.wh (e : EnvOk C B W H σ Γ) : Same W H := e.stp.wh
/-- an address that may be changed is none of those that are only read -/
theorem EnvOk.nm (e : EnvOk C B W H σ Γ) {a b : Addr} {o : HO} (h : B.H0 a = none ∨ B.S a) (hm : C.m b = some o) : b ≠ a := fun z => by
  subst z
  obtain ⟨h1, h2⟩ := e.p0 b o hm
  rcases h with h | h
  · rw [h1] at h; cases h
  · exact h2 h
theorem SlOk.isO_at {ov : Option V} {a : Addr} {s : Sl} {P : Option Addr} (h : SlOk C P W H ov a s) (o : s.isO = true) : ∃ u, H a = some u := by
  cases s with
  | no => cases o
  | d x => cases o
  | own l => obtain ⟨_, vs, q, _⟩ := h; exact ⟨_, q⟩
  | ins c l => obtain ⟨_, dx, fs, q, _⟩ := h; exact ⟨_, q⟩
  | reg cs => cases o
theorem CellOk.step {p : Addr × List D} (k : CellOk C B W H p) (s : Stp C B.P noS W H W' H') : CellOk C B W' H' p := by
  obtain ⟨vs, h1, h2⟩ := k.at_
  exact ⟨(s.old _ _ h1).trans k.w, k.np, k.h, vs, s.hh _ _ h1 k.np (fun z => z), h2.mono s.ww⟩
theorem Owns.step {ow : Nat → Addr} (o : Owns C B W H σ Γ ow) (s : Stp C B.P noS W H W' H') : Owns C B W' H' σ Γ ow := by
  refine ⟨o.inj, fun i t h1 h2 => ?_, fun i t h1 => ?_, o.one, o.nd, fun i cs p h1 h2 => (o.cl i cs p h1 h2).step s, o.df⟩
  · obtain ⟨u, hu⟩ := (o.ok i t h1).isO_at h2
    exact (o.fr i t h1 h2).mono ((s.old _ _ hu).trans (o.fr i t h1 h2).w)
  · have k := o.ok i t h1
    cases t with
    | no => trivial
    | d x => obtain ⟨v, h3, h4⟩ := k; exact ⟨v, h3, h4.mono s.ww⟩
    | own l =>
      obtain ⟨h3, vs, h4, h5⟩ := k
      exact ⟨h3, vs, s.hh _ _ h4 (o.fr i _ h1 rfl).p (fun z => z), h5.mono s.ww⟩
    | ins c l =>
      obtain ⟨h3, dx, fs, h4, h5, h6⟩ := k
      exact ⟨h3, dx, fs, s.hh _ _ h4 (o.fr i _ h1 rfl).p (fun z => z), h5, h6.mono s.ww⟩
    | reg cs => trivial
theorem Owns.at_ {ow : Nat → Addr} (o : Owns C B W H σ Γ ow) {i : Nat} {s : Sl} (h : Γ[i]? = some s) (hs : s.isO = true) : ∃ u, H (ow i) = some u := (o.ok i s h).isO_at hs
theorem Owns.ne {ow : Nat → Addr} (o : Owns C B W H σ Γ ow) {p : Addr} (hp : H p = none) : ∀ i s, Γ[i]? = some s → s.isO = true → ow i ≠ p := fun i s h1 h2 z => by
  obtain ⟨u, hu⟩ := o.at_ h1 h2
  rw [z, hp] at hu; cases hu
theorem Owns.neC {ow : Nat → Addr} (o : Owns C B W H σ Γ ow) {p : Addr} (hp : H p = none) : ∀ (i : Nat) (cs : List (Addr × List D)) (q : Addr × List D), Γ[i]? = some (.reg cs) → q ∈ cs → q.1 ≠ p := fun i cs q h1 h2 z => by
  obtain ⟨vs, hu, _⟩ := (o.cl i cs q h1 h2).at_
  rw [z, hp] at hu; cases hu
theorem EnvOk.step (e : EnvOk C B W H σ Γ) (s : Stp C B.P noS W H W' H') : EnvOk C B W' H' σ Γ where
  stp := e.stp.trans s.self
  kp := e.kp.trans s.ww
  pl := e.pl.step s
  p0 := e.p0
  len := e.len
  ow := let ⟨ow, o⟩ := e.ow; ⟨ow, o.step s⟩
/-- the heap changes at one address that the frame may change -/
theorem EnvOk.stpAt (e : EnvOk C B W H σ Γ) {p : Addr} {u : HO} (hp : W p = none) (hP : B.P ≠ some p) (h0 : B.H0 p = none ∨ B.S p) : Stp C B.P B.S B.W0 B.H0 W (upd H p u) ∧ PlOk C B.P W (upd H p u) := by
  refine ⟨⟨e.stp.ww, fun a x q => ?_, fun a x q p' z => ?_, fun a x q => ?_, e.stp.old, fun a q z => ?_⟩, fun a q => ?_, fun a o q => ?_⟩
  · rw [upd_ne (fun z => by subst z; rw [hp] at q; cases q)]
    exact e.wh a x q
  · by_cases ha : a = p
    · subst ha
      rcases h0 with h0 | h0
      · rw [h0] at q; cases q
      · exact absurd h0 z
    · rw [upd_ne ha]; exact e.stp.hh a x q p' z
  · by_cases ha : a = p
    · subst ha; exact ⟨u, upd_same⟩
    · rw [upd_ne ha]; exact e.stp.dom a x q
  · rw [upd_ne (fun z => by subst z; exact hP q)]
    exact e.stp.pool a q z
  · rw [upd_ne (fun z => by subst z; exact hP q)]
    exact e.pl.po a q
  · rw [upd_ne (e.nm h0 q)]
    exact e.pl.rg a o q
/-- an object beside the frame changes -/
theorem EnvOk.poke (e : EnvOk C B W H σ Γ) {ow : Nat → Addr} (o : Owns C B W H σ Γ ow) {p : Addr} {u : HO} (hp : W p = none) (hP : B.P ≠ some p) (h0 : B.H0 p = none ∨ B.S p) (hn : ∀ i s, Γ[i]? = some s → s.isO = true → ow i ≠ p)
    (hc : ∀ (i : Nat) (cs : List (Addr × List D)) (q : Addr × List D), Γ[i]? = some (.reg cs) → q ∈ cs → q.1 ≠ p) : EnvOk C B W (upd H p u) σ Γ ∧ Owns C B W (upd H p u) σ Γ ow := by
  have o' : Owns C B W (upd H p u) σ Γ ow := ⟨o.inj, o.fr, fun i s h1 => by
    have k := o.ok i s h1
    cases s with
    | no => trivial
    | d x => exact k
    | own l => obtain ⟨q1, vs, q2, q3⟩ := k; exact ⟨q1, vs, by rw [upd_ne (hn i _ h1 rfl)]; exact q2, q3⟩
    | ins c l => obtain ⟨q1, dx, fs, q2, q3⟩ := k; exact ⟨q1, dx, fs, by rw [upd_ne (hn i _ h1 rfl)]; exact q2, q3⟩
    | reg cs => trivial, o.one, o.nd, fun i cs q h1 h2 => by
      have k := o.cl i cs q h1 h2
      obtain ⟨vs, k1, k2⟩ := k.at_
      exact ⟨k.w, k.np, k.h, vs, by rw [upd_ne (hc i cs q h1 h2)]; exact k1, k2⟩, o.df⟩
  obtain ⟨s1, s2⟩ := e.stpAt (u := u) hp hP h0
  exact ⟨⟨s1, e.kp, s2, e.p0, e.len, ow, o'⟩, o'⟩
theorem EnvOk.keep (e : EnvOk C B W H σ Γ) (W1 : Hp) (h : Same W1 W) : EnvOk C (B.keep W1) W H σ Γ := by
  obtain ⟨ow, o⟩ := e.ow
  exact ⟨e.stp, h, e.pl, e.p0, e.len, ow, o.inj, o.fr, o.ok, o.one, o.nd, fun i cs p h1 h2 => let k := o.cl i cs p h1 h2; ⟨k.w, k.np, k.h, k.at_⟩, o.df⟩
theorem EnvOk.unkeep {W1 : Hp} (e : EnvOk C (B.keep W1) W H σ Γ) (h : Same B.kp W1) : EnvOk C B W H σ Γ := by
  obtain ⟨ow, o⟩ := e.ow
  exact ⟨e.stp, h.trans e.kp, e.pl, e.p0, e.len, ow, o.inj, o.fr, o.ok, o.one, o.nd, fun i cs p h1 h2 => let k := o.cl i cs p h1 h2; ⟨k.w, k.np, k.h, k.at_⟩, o.df⟩

/-- fewer things known -/
inductive Wk : List Sl → List Sl → Prop where
  | nil : Wk [] []
  | cut {cs : List (Addr × List D)} {l : List Sl} (w : Wk l []) : Wk (.reg cs :: l) []
  | sub {cs ds : List (Addr × List D)} {l : List Sl} (w : Wk l []) (h : ∀ p ∈ ds, p ∈ cs) (n : (ds.map (·.1)).Nodup) : Wk (.reg cs :: l) [.reg ds]
  | same {s : Sl} {l m : List Sl} : Wk l m → Wk (s :: l) (s :: m)
  | no {s : Sl} {l m : List Sl} (w : Wk l m) (h : s.isR = false := by rfl) : Wk (s :: l) (.no :: m)
theorem Wk.refl : ∀ {l : List Sl}, Wk l l
  | [] => .nil
  | _ :: _ => .same Wk.refl
theorem Wk.len : ∀ {l m : List Sl}, Wk l m → m.length ≤ l.length ∧ ∀ (i : Nat) (s : Sl), m.length ≤ i → l[i]? = some s → s.isR = true
  | _, _, .nil => ⟨Nat.le_refl _, fun i s _ h => by simp at h⟩
  | _, _, .cut w => ⟨Nat.zero_le _, fun i s _ h => by
    cases i with
    | zero => simp at h; subst h; rfl
    | succ i => exact w.len.2 i s (Nat.zero_le _) (by simpa using h)⟩
  | _, _, .sub w _ _ => ⟨Nat.succ_le_succ (Nat.zero_le _), fun i s z h => by
    cases i with
    | zero => simp at z
    | succ i => exact w.len.2 i s (Nat.zero_le _) (by simpa using h)⟩
  | _, _, .same w => ⟨Nat.succ_le_succ w.len.1, fun i s z h => by
    cases i with
    | zero => simp at z
    | succ i => exact w.len.2 i s (Nat.le_of_succ_le_succ z) (by simpa using h)⟩
  | _, _, .no w _ => ⟨Nat.succ_le_succ w.len.1, fun i s z h => by
    cases i with
    | zero => simp at z
    | succ i => exact w.len.2 i s (Nat.le_of_succ_le_succ z) (by simpa using h)⟩
theorem Wk.get : ∀ {l m : List Sl} {i : Nat} {t : Sl}, Wk l m → m[i]? = some t → (t = .no ∧ ∃ s, l[i]? = some s ∧ s.isR = false) ∨ l[i]? = some t ∨ ∃ cs ds, t = .reg ds ∧ l[i]? = some (.reg cs) ∧ (∀ p ∈ ds, p ∈ cs) ∧ (ds.map (·.1)).Nodup
  | _, _, _, _, .nil, e => by simp at e
  | _, _, _, _, .cut _, e => by simp at e
  | _, _, 0, t, .sub _ h n, e => by right; right; simp at e; exact ⟨_, _, e.symm, rfl, h, n⟩
  | _, _, i + 1, t, .sub _ h n, e => by simp at e
  | _, _, 0, t, .same h, e => by right; left; simpa using e
  | _, _, 0, t, .no h z, e => by left; exact ⟨by simpa using e.symm, _, rfl, z⟩
  | _, _, i + 1, t, .same h, e => by
    have := Wk.get (i := i) h (by simpa using e)
    simpa using this
  | _, _, i + 1, t, .no h _, e => by
    have := Wk.get (i := i) h (by simpa using e)
    simpa using this
theorem Wk.slot : ∀ {l m : List Sl} {i : Nat}, Wk l m → isSlot m i = true → isSlot l i = true
  | _, _, _, .nil, e => e
  | _, _, _, .cut _, e => by cases e
  | _, _, 0, .sub _ _ _, e => by cases e
  | _, _, _ + 1, .sub _ _ _, e => by cases e
  | _, _, 0, .same h, e => e
  | _, _, 0, .no h z, e => by simp [isSlot, z]
  | _, _, i + 1, .same h, e => Wk.slot (i := i) h e
  | _, _, i + 1, .no h _, e => Wk.slot (i := i) h e
theorem LenOk.weak {σ : L2.St} (h : LenOk σ Γ) (w : Wk Γ Γ') : LenOk σ Γ' where
  le := by
    rcases Nat.lt_or_ge Γ'.length σ.length with z | z
    · have hl : Γ'.length < Γ.length := Nat.lt_of_lt_of_le z h.le
      have hg : Γ[Γ'.length]? = some Γ[Γ'.length] := by simp [hl]
      have := (h.c _ _ hg).mpr (w.len.2 _ _ (Nat.le_refl _) hg)
      omega
    · exact z
  c := fun i s h1 => by
    rcases w.get h1 with ⟨rfl, t, z, y⟩ | z | ⟨cs, ds, rfl, z, _⟩
    · have := h.c i t z
      rw [y] at this
      exact this
    · exact h.c i s z
    · exact h.c i (.reg cs) z
theorem Owns.weak {ow : Nat → Addr} (o : Owns C B W H σ Γ ow) (w : Wk Γ Γ') : Owns C B W H σ Γ' ow := by
  have gO : ∀ {i : Nat} {s : Sl}, Γ'[i]? = some s → s.isO = true → Γ[i]? = some s := fun h1 h2 => by
    rcases w.get h1 with ⟨rfl, _⟩ | z | ⟨cs, ds, rfl, z, _⟩
    · cases h2
    · exact z
    · cases h2
  have gR : ∀ {i : Nat} {ds}, Γ'[i]? = some (.reg ds) → ∃ cs, Γ[i]? = some (.reg cs) ∧ (∀ p ∈ ds, p ∈ cs) ∧ (ds.map (·.1)).Nodup := fun {i ds} h1 => by
    rcases w.get h1 with ⟨z, _⟩ | z | ⟨cs, ds, e, z, y⟩
    · cases z
    · exact ⟨ds, z, fun _ h => h, o.nd _ _ z⟩
    · cases e; exact ⟨cs, z, y⟩
  refine ⟨fun i j s t h1 h2 h3 h4 => o.inj i j s t (gO h1 h3) (gO h2 h4) h3 h4, fun i s h1 h2 => o.fr i s (gO h1 h2) h2, fun i s h1 => ?_, fun i j cs ds h1 h2 => ?_, fun i cs h1 => ?_, fun i cs p h1 h2 => ?_, fun i cs p j s h1 h2 h3 h4 => ?_⟩
  · rcases w.get h1 with ⟨rfl, _⟩ | z | ⟨cs, ds, rfl, z, _⟩
    · trivial
    · exact o.ok i s z
    · trivial
  · obtain ⟨cs', z1, _⟩ := gR h1
    obtain ⟨ds', z2, _⟩ := gR h2
    exact o.one i j _ _ z1 z2
  · obtain ⟨_, _, _, z⟩ := gR h1; exact z
  · obtain ⟨cs', z1, z2, _⟩ := gR h1
    exact o.cl i cs' p z1 (z2 p h2)
  · obtain ⟨cs', z1, z2, _⟩ := gR h1
    exact o.df i cs' p j s z1 (z2 p h2) (gO h3 h4) h4
theorem EnvOk.weak (e : EnvOk C B W H σ Γ) (w : Wk Γ Γ') : EnvOk C B W H σ Γ' := by
  obtain ⟨ow, o⟩ := e.ow
  exact ⟨e.stp, e.kp, e.pl, e.p0, e.len.weak w, ow, o.weak w⟩
theorem getD_set_same {σ : L2.St} {i : Nat} {x : Option V} (h : i < σ.length) : (σ.set i x).getD i none = x := by
  rw [List.getD_eq_getElem?_getD, List.getElem?_set_self h]; rfl
theorem getD_set_ne {σ : L2.St} {i j : Nat} {x : Option V} (h : i ≠ j) : (σ.set i x).getD j none = σ.getD j none := by
  rw [List.getD_eq_getElem?_getD, List.getD_eq_getElem?_getD, List.getElem?_set_ne h]
theorem set_cases {i a : Nat} {s t : Sl} (h : (Γ.set i t)[a]? = some s) : (a = i ∧ s = t) ∨ (a ≠ i ∧ Γ[a]? = some s) := by
  by_cases ha : i = a
  · subst ha
    by_cases hi : i < Γ.length
    · rw [List.getElem?_set_self hi] at h; cases h; exact .inl ⟨rfl, rfl⟩
    · rw [List.getElem?_eq_none (by simpa using hi)] at h; cases h
  · rw [List.getElem?_set_ne ha] at h; exact .inr ⟨Ne.symm ha, h⟩
/-- a slot gets something that is not owned -/
theorem Owns.put {ow : Nat → Addr} {s : Sl} {i : Nat} {x : Option V} (o : Owns C B W H σ Γ ow) (hi : i < σ.length) (s0 : s.isO = false) (s1 : s.isR = false) (k : SlOk C B.P W H x (ow i) s) : Owns C B W H (σ.set i x) (Γ.set i s) ow := by
  have gO : ∀ {a : Nat} {t : Sl}, (Γ.set i s)[a]? = some t → t.isO = true → Γ[a]? = some t := fun h1 h2 => by
    rcases set_cases h1 with ⟨_, rfl⟩ | ⟨_, z⟩
    · rw [s0] at h2; cases h2
    · exact z
  have gR : ∀ {a : Nat} {cs}, (Γ.set i s)[a]? = some (.reg cs) → Γ[a]? = some (.reg cs) := fun h1 => by
    rcases set_cases h1 with ⟨_, z⟩ | ⟨_, z⟩
    · rw [← z] at s1; cases s1
    · exact z
  refine ⟨fun a b u t h1 h2 h3 h4 => o.inj a b u t (gO h1 h3) (gO h2 h4) h3 h4, fun a u h1 h2 => o.fr a u (gO h1 h2) h2, fun a u h1 => ?_, fun a b cs ds h1 h2 => o.one a b cs ds (gR h1) (gR h2), fun a cs h1 => o.nd a cs (gR h1), fun a cs p h1 h2 => o.cl a cs p (gR h1) h2, fun a cs p b u h1 h2 h3 h4 => o.df a cs p b u (gR h1) h2 (gO h3 h4) h4⟩
  rcases set_cases h1 with ⟨rfl, rfl⟩ | ⟨ha, z⟩
  · rw [getD_set_same hi]; exact k
  · rw [getD_set_ne (Ne.symm ha)]; exact o.ok a u z
theorem Owns.setD {ow : Nat → Addr} (o : Owns C B W H σ Γ ow) (hl : LenOk σ Γ) {i : Nat} {v : V} {x : D} (hi : isSlot Γ i = true) (r : Rep C B.P W v x) : Owns C B W H (σ.set i (some v)) (Γ.set i (.d x)) ow :=
  o.put (hl.lt hi) rfl rfl ⟨v, rfl, r⟩
/-- a slot gets data -/
theorem EnvOk.setD (e : EnvOk C B W H σ Γ) {i : Nat} {v : V} {x : D} (hi : isSlot Γ i = true) (r : Rep C B.P W v x) : EnvOk C B W H (σ.set i (some v)) (Γ.set i (.d x)) := by
  obtain ⟨ow, o⟩ := e.ow
  exact ⟨e.stp, e.kp, e.pl, e.p0, e.len.set (e.len.lt hi) rfl, ow, o.setD e.len hi r⟩
/-- a slot gets a list that nobody else knows -/
theorem EnvOk.setO (e : EnvOk C B W H σ Γ) {i : Nat} {p : Addr} {vs : List V} {l : List D} (hi : isSlot Γ i = true) (hp : B.H0 p = none) (hW : W p = none) (hP : B.P ≠ some p) (hf : ∃ ow : Nat → Addr, Owns C B W H σ Γ ow ∧ (∀ j s, Γ[j]? = some s → s.isO = true → ow j ≠ p) ∧ ∀ (j : Nat) (cs : List (Addr × List D)) (q : Addr × List D), Γ[j]? = some (.reg cs) → q ∈ cs → q.1 ≠ p)
    (hh : H p = some (.lst vs)) (r : RepL C B.P W vs l) : EnvOk C B W H (σ.set i (some (.ref p))) (Γ.set i (.own l)) := by
  obtain ⟨ow, o, hf, hg⟩ := hf
  have hl := e.len.lt hi
  have gR : ∀ {a : Nat} {cs}, (Γ.set i (.own l))[a]? = some (.reg cs) → Γ[a]? = some (.reg cs) := fun h1 => by
    rcases set_cases h1 with ⟨_, z⟩ | ⟨_, z⟩
    · cases z
    · exact z
  refine ⟨e.stp, e.kp, e.pl, e.p0, e.len.set hl rfl, fun j => if j = i then p else ow j, fun a b s t h1 h2 h3 h4 => ?_, fun a s h1 h2 => ?_, fun a s h1 => ?_, fun a b cs ds h1 h2 => o.one a b cs ds (gR h1) (gR h2), fun a cs h1 => o.nd a cs (gR h1), fun a cs q h1 h2 => o.cl a cs q (gR h1) h2, fun a cs q b u h1 h2 h3 h4 => ?_⟩
  · rcases set_cases h1 with ⟨rfl, rfl⟩ | ⟨ha, h1⟩
    · rcases set_cases h2 with ⟨rfl, rfl⟩ | ⟨hb, h2⟩
      · exact fun _ => rfl
      · simp only [if_true, if_neg hb]
        exact fun z => absurd z.symm (hf b t h2 h4)
    · rcases set_cases h2 with ⟨rfl, rfl⟩ | ⟨hb, h2⟩
      · simp only [if_true, if_neg ha]
        rcases set_cases h1 with ⟨z, _⟩ | ⟨_, h1⟩
        · exact absurd z ha
        · exact fun z => absurd z (hf a s h1 h3)
      · simp only [if_neg ha, if_neg hb]
        exact o.inj a b s t h1 h2 h3 h4
  · rcases set_cases h1 with ⟨rfl, rfl⟩ | ⟨ha, h1⟩
    · simp only [if_true]
      exact ⟨hW, hP, hp⟩
    · simp only [if_neg ha]
      exact o.fr a s h1 h2
  · rcases set_cases h1 with ⟨rfl, rfl⟩ | ⟨ha, h1⟩
    · rw [getD_set_same hl]
      simp only [if_true]
      exact ⟨rfl, vs, hh, r⟩
    · rw [getD_set_ne (Ne.symm ha)]
      simp only [if_neg ha]
      exact o.ok a s h1
  · rcases set_cases h3 with ⟨rfl, rfl⟩ | ⟨ha, h3⟩
    · simp only [if_true]
      exact fun z => hg a cs q (gR h1) h2 z.symm
    · simp only [if_neg ha]
      exact o.df a cs q b u (gR h1) h2 h3 h4
/-- an own object changes -/
theorem EnvOk.chg (e : EnvOk C B W H σ Γ) {i : Nat} {s t : Sl} {u : HO} (hs : Γ[i]? = some s) (hs1 : s.isO = true) (ht1 : t.isO = true) (hst : ∀ a, Fr B W a s → Fr B W a t) : ∃ ow : Nat → Addr, Owns C B W H σ Γ ow ∧
    (SlOk C B.P W (upd H (ow i) u) (σ.getD i none) (ow i) t → EnvOk C B W (upd H (ow i) u) σ (Γ.set i t)) := by
  obtain ⟨ow, o⟩ := e.ow
  have hi : i < Γ.length := (List.getElem?_eq_some_iff.mp hs).1
  have f := o.fr i s hs hs1
  have sR : s.isR = false := by cases s <;> first | rfl | cases hs1
  have tR : t.isR = false := by cases t <;> first | rfl | cases ht1
  have gO : ∀ (j : Nat) (x : Sl), (Γ.set i t)[j]? = some x → x.isO = true → ∃ y, Γ[j]? = some y ∧ y.isO = true := fun j x h5 h6 => by
    rcases set_cases h5 with ⟨rfl, rfl⟩ | ⟨_, z⟩
    · exact ⟨s, hs, hs1⟩
    · exact ⟨x, z, h6⟩
  have gR : ∀ {a : Nat} {cs}, (Γ.set i t)[a]? = some (.reg cs) → Γ[a]? = some (.reg cs) := fun h1 => by
    rcases set_cases h1 with ⟨_, z⟩ | ⟨_, z⟩
    · rw [← z] at tR; cases tR
    · exact z
  obtain ⟨s1, s2⟩ := e.stpAt (u := u) f.w f.p f.h
  refine ⟨ow, o, fun k => ⟨s1, e.kp, s2, e.p0, e.len.setG hs (sR.trans tR.symm), ow, fun a b s' t' h1 h2 h3 h4 => ?_, fun a s' h1 h2 => ?_, fun a s' h1 => ?_, fun a b cs ds h1 h2 => o.one a b cs ds (gR h1) (gR h2), fun a cs h1 => o.nd a cs (gR h1), fun a cs q h1 h2 => ?_, fun a cs q b u h1 h2 h3 h4 => ?_⟩⟩
  · obtain ⟨y1, g1, g2⟩ := gO a s' h1 h3
    obtain ⟨y2, g3, g4⟩ := gO b t' h2 h4
    exact o.inj a b y1 y2 g1 g3 g2 g4
  · rcases set_cases h1 with ⟨rfl, rfl⟩ | ⟨ha, h1⟩
    · exact hst _ f
    · exact o.fr a s' h1 h2
  · rcases set_cases h1 with ⟨rfl, rfl⟩ | ⟨ha, h1⟩
    · exact k
    · have q := o.ok a s' h1
      have ne : s'.isO = true → ow a ≠ ow i := fun z w => ha (o.inj a i s' s h1 hs z hs1 w)
      cases s' with
      | no => trivial
      | d x => exact q
      | own l => obtain ⟨q1, vs, q2, q3⟩ := q; exact ⟨q1, vs, by rw [upd_ne (ne rfl)]; exact q2, q3⟩
      | ins c l => obtain ⟨q1, dx, fs, q2, q3⟩ := q; exact ⟨q1, dx, fs, by rw [upd_ne (ne rfl)]; exact q2, q3⟩
      | reg cs => trivial
  · have k := o.cl a cs q (gR h1) h2
    obtain ⟨vs, k1, k2⟩ := k.at_
    exact ⟨k.w, k.np, k.h, vs, by rw [upd_ne (Ne.symm (o.df a cs q i s (gR h1) h2 hs hs1))]; exact k1, k2⟩
  · obtain ⟨y, g1, g2⟩ := gO b u h3 h4
    exact o.df a cs q b y (gR h1) h2 g1 g2
/-- a slot is forgotten -/
def forget (Γ : List Sl) (v : Nat) : List Sl := match isSlot Γ v with
  | true => Γ.set v .no
  | false => Γ
def wipeG (Γ : List Sl) : List Nat → List Sl
  | [] => Γ
  | v :: vs => forget (wipeG Γ vs) v
theorem slot_none {σ : L2.St} (h : LenOk σ Γ) {i : Nat} (hi : isSlot Γ i = false) : σ.length ≤ i := by
  rcases Nat.lt_or_ge i σ.length with z | z
  · exfalso
    have hl : i < Γ.length := Nat.lt_of_lt_of_le z h.le
    have hg : Γ[i]? = some Γ[i] := by simp [hl]
    have hr : Γ[i].isR = false := by
      cases q : Γ[i].isR with
      | false => rfl
      | true => have := (h.c i _ hg).mpr q; omega
    have key : ∀ (l : List Sl) (j : Nat) (s : Sl), l[j]? = some s → s.isR = false → isSlot l j = true := by
      intro l
      induction l with
      | nil => intro j s h; simp at h
      | cons x l ih =>
        intro j s h1 h2
        cases j with
        | zero => simp at h1; subst h1; simp [isSlot, h2]
        | succ j => exact ih j s (by simpa using h1) h2
    rw [key Γ i _ hg hr] at hi
    cases hi
  · exact z
theorem Owns.wipe1 {ow : Nat → Addr} (o : Owns C B W H σ Γ ow) (hl : LenOk σ Γ) (i : Nat) : Owns C B W H (σ.set i none) (forget Γ i) ow := by
  unfold forget
  cases h : isSlot Γ i with
  | true => exact o.put (hl.lt h) rfl rfl trivial
  | false =>
    rw [List.set_eq_of_length_le (slot_none hl h)]
    exact o
theorem LenOk.wipe1 (hl : LenOk σ Γ) (i : Nat) : LenOk (σ.set i none) (forget Γ i) := by
  unfold forget
  cases h : isSlot Γ i with
  | true => exact hl.set (hl.lt h) rfl
  | false =>
    rw [List.set_eq_of_length_le (slot_none hl h)]
    exact hl
theorem LenOk.wipe (hl : LenOk σ Γ) : ∀ vs : List Nat, LenOk (L2.wipe σ vs) (wipeG Γ vs)
  | [] => hl
  | v :: vs => (LenOk.wipe hl vs).wipe1 v
theorem Owns.wipe {ow : Nat → Addr} (o : Owns C B W H σ Γ ow) (hl : LenOk σ Γ) : ∀ vs : List Nat, Owns C B W H (L2.wipe σ vs) (wipeG Γ vs) ow
  | [] => o
  | v :: vs => (Owns.wipe o hl vs).wipe1 (hl.wipe vs) v
theorem EnvOk.wipe (e : EnvOk C B W H σ Γ) (vs : List Nat) : EnvOk C B W H (L2.wipe σ vs) (wipeG Γ vs) := by
  obtain ⟨ow, o⟩ := e.ow
  exact ⟨e.stp, e.kp, e.pl, e.p0, e.len.wipe vs, ow, o.wipe e.len vs⟩
/-- an own list becomes data -/
theorem EnvOk.freeze (e : EnvOk C B W H σ Γ) {i : Nat} {l : List D} (hs : Γ[i]? = some (.own l)) : ∃ W', Same W W' ∧ EnvOk C B W' H σ (Γ.set i (.d (.lst l))) := by
  obtain ⟨ow, o⟩ := e.ow
  have hi : i < Γ.length := (List.getElem?_eq_some_iff.mp hs).1
  obtain ⟨f1, f2, f3⟩ := o.fr i _ hs rfl
  obtain ⟨e1, vs, e2, e3⟩ := o.ok i _ hs
  have ww : Same W (upd W (ow i) (.lst vs)) := fun a x q => by
    rw [upd_ne (fun z => by subst z; rw [f1] at q; cases q)]; exact q
  have wh : Same (upd W (ow i) (.lst vs)) H := fun a x q => by
    by_cases ha : a = ow i
    · subst ha; rw [upd_same] at q; cases q; exact e2
    · rw [upd_ne ha] at q; exact e.wh a x q
  have gO : ∀ {a : Nat} {t : Sl}, (Γ.set i (.d (.lst l)))[a]? = some t → t.isO = true → a ≠ i ∧ Γ[a]? = some t := fun h1 h2 => by
    rcases set_cases h1 with ⟨_, rfl⟩ | z
    · cases h2
    · exact z
  have gR : ∀ {a : Nat} {cs}, (Γ.set i (.d (.lst l)))[a]? = some (.reg cs) → Γ[a]? = some (.reg cs) := fun h1 => by
    rcases set_cases h1 with ⟨_, z⟩ | ⟨_, z⟩
    · cases z
    · exact z
  refine ⟨upd W (ow i) (.lst vs), ww, ⟨⟨e.stp.ww.trans ww, wh, e.stp.hh, e.stp.dom, fun a x q => ?_, fun a q z => C.pkm ww (e.stp.pool a q z)⟩, e.kp.trans ww, ⟨fun a q => ?_, fun a o' q => ?_⟩, e.p0, e.len.setG hs rfl, ow, fun a b s t h1 h2 h3 h4 => o.inj a b s t (gO h1 h3).2 (gO h2 h4).2 h3 h4, fun a s h1 h2 => ?_, fun a s h1 => ?_, fun a b cs ds h1 h2 => o.one a b cs ds (gR h1) (gR h2), fun a cs h1 => o.nd a cs (gR h1), fun a cs q h1 h2 => ?_, fun a cs p b u h1 h2 h3 h4 => o.df a cs p b u (gR h1) h2 (gO h3 h4).2 h4⟩⟩
  · rw [upd_ne (fun z => by subst z; rw [f3] at q; cases q)]
    exact e.stp.old a x q
  · rw [upd_ne (fun z => by subst z; exact f2 q)]
    exact ⟨(e.pl.po a q).1, C.pkm ww (e.pl.po a q).2⟩
  · rw [upd_ne (e.nm (.inl f3) q)]
    exact e.pl.rg a o' q
  · obtain ⟨ha, h1⟩ := gO h1 h2
    have ne : ow a ≠ ow i := fun w => ha (o.inj a i s _ h1 hs h2 rfl w)
    refine (o.fr a s h1 h2).mono ?_
    rw [upd_ne ne]
    exact (o.fr a s h1 h2).w
  · rcases set_cases h1 with ⟨rfl, rfl⟩ | ⟨ha, h1⟩
    · exact ⟨.ref (ow a), e1, .lst upd_same (e3.mono ww)⟩
    · have q := o.ok a s h1
      cases s with
      | no => trivial
      | d x => obtain ⟨v, q1, q2⟩ := q; exact ⟨v, q1, q2.mono ww⟩
      | own l => obtain ⟨q1, vs', q2, q3⟩ := q; exact ⟨q1, vs', q2, q3.mono ww⟩
      | ins c l => obtain ⟨q1, dx, fs, q2, q3, q4⟩ := q; exact ⟨q1, dx, fs, q2, q3, q4.mono ww⟩
      | reg cs => trivial
  · have k := o.cl a cs q (gR h1) h2
    obtain ⟨us, k1, k2⟩ := k.at_
    exact ⟨by rw [upd_ne (Ne.symm (o.df a cs q i _ (gR h1) h2 hs rfl))]; exact k.w, k.np, k.h, us, k1, k2.mono ww⟩
/-! ### lists that the frame may change -/
theorem app_cases {i : Nat} {s t : Sl} (h : (Γ ++ [t])[i]? = some s) : Γ[i]? = some s ∨ (i = Γ.length ∧ s = t) := by
  rcases Nat.lt_or_ge i Γ.length with z | z
  · rw [List.getElem?_append_left z] at h; exact .inl h
  · rw [List.getElem?_append_right z] at h
    cases q : i - Γ.length with
    | zero => rw [q] at h; simp at h; exact .inr ⟨by omega, h.symm⟩
    | succ n => rw [q] at h; simp at h
/-- none as yet -/
theorem EnvOk.regNew (e : EnvOk C B W H σ Γ) (hn : Γ.all (fun s => !s.isR) = true) : EnvOk C B W H σ (Γ ++ [.reg []]) := by
  obtain ⟨ow, o⟩ := e.ow
  have nR : ∀ {i : Nat} {cs}, Γ[i]? ≠ some (.reg cs) := fun {i cs} z => by
    have := List.all_eq_true.mp hn _ (List.mem_of_getElem? z)
    cases this
  have gR : ∀ {i : Nat} {cs}, (Γ ++ [.reg []])[i]? = some (.reg cs) → i = Γ.length ∧ cs = [] := fun h => by
    rcases app_cases h with z | ⟨z, y⟩
    · exact absurd z nR
    · cases y; exact ⟨z, rfl⟩
  have gO : ∀ {i : Nat} {s : Sl}, (Γ ++ [.reg []])[i]? = some s → s.isO = true → Γ[i]? = some s := fun h h2 => by
    rcases app_cases h with z | ⟨z, rfl⟩
    · exact z
    · cases h2
  refine ⟨e.stp, e.kp, e.pl, e.p0, ⟨by rw [List.length_append]; have := e.len.le; omega, fun i s h => ?_⟩, ow, fun a b s t h1 h2 h3 h4 => o.inj a b s t (gO h1 h3) (gO h2 h4) h3 h4, fun a s h1 h2 => o.fr a s (gO h1 h2) h2, fun a s h1 => ?_, fun a b cs ds h1 h2 => (gR h1).1.trans (gR h2).1.symm, fun a cs h1 => ?_, fun a cs p h1 h2 => ?_, fun a cs p b s h1 h2 _ _ => ?_⟩
  · rcases app_cases h with z | ⟨z, rfl⟩
    · exact e.len.c i s z
    · exact ⟨fun _ => rfl, fun _ => by have := e.len.le; omega⟩
  · rcases app_cases h1 with z | ⟨z, rfl⟩
    · exact o.ok a s z
    · trivial
  · rw [(gR h1).2]; exact List.nodup_nil
  · rw [(gR h1).2] at h2; cases h2
  · rw [(gR h1).2] at h2; cases h2
/-- the list of changeable lists is another one -/
theorem Owns.regSet {ow : Nat → Addr} (o : Owns C B W H σ Γ ow) {j : Nat} {cs ds : List (Addr × List D)} (hj : Γ[j]? = some (.reg cs)) (nd : (ds.map (·.1)).Nodup) (cl : ∀ p ∈ ds, CellOk C B W H p) (df : ∀ p ∈ ds, ∀ i s, Γ[i]? = some s → s.isO = true → ow i ≠ p.1) : Owns C B W H σ (Γ.set j (.reg ds)) ow := by
  have gO : ∀ {a : Nat} {t : Sl}, (Γ.set j (.reg ds))[a]? = some t → t.isO = true → Γ[a]? = some t := fun h1 h2 => by
    rcases set_cases h1 with ⟨_, rfl⟩ | ⟨_, z⟩
    · cases h2
    · exact z
  have gR : ∀ {a : Nat} {es}, (Γ.set j (.reg ds))[a]? = some (.reg es) → a = j ∧ es = ds := fun h1 => by
    rcases set_cases h1 with ⟨z, y⟩ | ⟨ha, z⟩
    · cases y; exact ⟨z, rfl⟩
    · exact absurd (o.one _ _ _ _ z hj) ha
  refine ⟨fun a b s t h1 h2 h3 h4 => o.inj a b s t (gO h1 h3) (gO h2 h4) h3 h4, fun a s h1 h2 => o.fr a s (gO h1 h2) h2, fun a s h1 => ?_, fun a b es fs h1 h2 => (gR h1).1.trans (gR h2).1.symm, fun a es h1 => ?_, fun a es p h1 h2 => ?_, fun a es p b s h1 h2 h3 h4 => ?_⟩
  · rcases set_cases h1 with ⟨_, rfl⟩ | ⟨_, z⟩
    · trivial
    · exact o.ok a s z
  · rw [(gR h1).2]; exact nd
  · rw [(gR h1).2] at h2; exact cl p h2
  · rw [(gR h1).2] at h2; exact df p h2 b s (gO h3 h4) h4
/-- a new list is a changeable one -/
theorem EnvOk.regAdd (e : EnvOk C B W H σ Γ) {j : Nat} {cs : List (Addr × List D)} (hj : Γ[j]? = some (.reg cs)) {a : Addr} {vs : List V} {l : List D} (ha : B.H0 a = none) (hW : W a = none) (hP : B.P ≠ some a)
    (hf : ∃ ow : Nat → Addr, Owns C B W H σ Γ ow ∧ (∀ j s, Γ[j]? = some s → s.isO = true → ow j ≠ a) ∧ ∀ (j : Nat) (cs : List (Addr × List D)) (q : Addr × List D), Γ[j]? = some (.reg cs) → q ∈ cs → q.1 ≠ a) (hh : H a = some (.lst vs)) (r : RepL C B.P W vs l) : EnvOk C B W H σ (Γ.set j (.reg (cs ++ [(a, l)]))) := by
  obtain ⟨ow, o, hf, hg⟩ := hf
  refine ⟨e.stp, e.kp, e.pl, e.p0, e.len.setG hj rfl, ow, o.regSet hj ?_ (fun p hp => ?_) (fun p hp i s h1 h2 => ?_)⟩
  · rw [List.map_append]
    refine List.nodup_append.mpr ⟨o.nd _ _ hj, by simp, fun x hx y hy => ?_⟩
    obtain ⟨q, hq, rfl⟩ := List.mem_map.mp hx
    simp at hy; subst hy
    exact hg j cs q hj hq
  · rcases List.mem_append.mp hp with hp | hp
    · exact o.cl j cs p hj hp
    · cases List.mem_singleton.mp hp
      exact ⟨hW, hP, ha, vs, hh, r⟩
  · rcases List.mem_append.mp hp with hp | hp
    · exact o.df j cs p i s hj hp h1 h2
    · cases List.mem_singleton.mp hp
      exact hf i s h1 h2
theorem mem_setC {cs : List (Addr × List D)} {k : Nat} {a : Addr} {l m : List D} (n : (cs.map (·.1)).Nodup) (h : cs[k]? = some (a, l)) {p : Addr × List D} (hp : p ∈ cs.set k (a, m)) : p = (a, m) ∨ (p ∈ cs ∧ p.1 ≠ a) := by
  obtain ⟨i, hi⟩ := List.mem_iff_getElem?.mp hp
  by_cases hk : k = i
  · subst hk
    rw [List.getElem?_set_self (List.getElem?_eq_some_iff.mp h).1] at hi
    cases hi; exact .inl rfl
  · rw [List.getElem?_set_ne hk] at hi
    refine .inr ⟨List.mem_of_getElem? hi, fun z => hk ?_⟩
    have h1 : (cs.map (·.1))[k]? = some a := by rw [List.getElem?_map, h]; rfl
    have h2 : (cs.map (·.1))[i]? = some a := by rw [List.getElem?_map, hi, ← z]; rfl
    have hlt := (List.getElem?_eq_some_iff.mp h1).1
    exact (List.getElem?_inj hlt n).mp (h1.trans h2.symm)
/-- a changeable list changes -/
theorem EnvOk.regChg (e : EnvOk C B W H σ Γ) {j k : Nat} {cs : List (Addr × List D)} {a : Addr} {l m : List D} {us : List V} (hj : Γ[j]? = some (.reg cs)) (hk : cs[k]? = some (a, l)) (r : RepL C B.P W us m) : EnvOk C B W (upd H a (.lst us)) σ (Γ.set j (.reg (cs.set k (a, m)))) := by
  obtain ⟨ow, o⟩ := e.ow
  have hm := List.mem_of_getElem? hk
  have c := o.cl j cs (a, l) hj hm
  have nd := o.nd j cs hj
  obtain ⟨s1, s2⟩ := e.stpAt (u := .lst us) c.w c.np (.inl c.h)
  have key : (cs.set k (a, m)).map (·.1) = cs.map (·.1) := by
    rw [List.map_set]
    apply List.ext_getElem?
    intro i
    rw [List.getElem?_set]
    by_cases hi : k = i
    · subst hi
      have hlt := (List.getElem?_eq_some_iff.mp hk).1
      rw [if_pos rfl, if_pos (by rw [List.length_map]; exact hlt), List.getElem?_map, hk]; rfl
    · rw [if_neg hi]
  have o' : Owns C B W (upd H a (.lst us)) σ (Γ.set j (.reg [])) ow := by
    have o1 := o.regSet hj (ds := []) (by simp) (fun _ h => nomatch h) (fun _ h => nomatch h)
    refine ⟨o1.inj, o1.fr, fun i s h1 => ?_, o1.one, o1.nd, fun i es p h1 h2 => ?_, o1.df⟩
    · have q := o1.ok i s h1
      have ne : s.isO = true → ow i ≠ a := fun z => by
        rcases set_cases h1 with ⟨_, rfl⟩ | ⟨_, y⟩
        · cases z
        · exact o.df j cs (a, l) i s hj hm y z
      cases s with
      | no => trivial
      | d x => exact q
      | own l => obtain ⟨q1, vs, q2, q3⟩ := q; exact ⟨q1, vs, by rw [upd_ne (ne rfl)]; exact q2, q3⟩
      | ins c l => obtain ⟨q1, dx, fs, q2, q3⟩ := q; exact ⟨q1, dx, fs, by rw [upd_ne (ne rfl)]; exact q2, q3⟩
      | reg cs => trivial
    · rcases set_cases h1 with ⟨_, z⟩ | ⟨hi, z⟩
      · cases z; cases h2
      · exact absurd (o.one _ _ _ _ z hj) hi
  have o2 := o'.regSet (j := j) (cs := []) (ds := cs.set k (a, m)) (by rw [List.getElem?_set_self (List.getElem?_eq_some_iff.mp hj).1]) (by rw [key]; exact nd) (fun p hp => ?_) (fun p hp i s h1 h2 => ?_)
  · rw [List.set_set] at o2
    exact ⟨s1, e.kp, s2, e.p0, e.len.setG hj rfl, ow, o2⟩
  · rcases mem_setC nd hk hp with rfl | ⟨hp, hne⟩
    · exact ⟨c.w, c.np, c.h, us, upd_same, r⟩
    · have c2 := o.cl j cs p hj hp
      obtain ⟨vs, q1, q2⟩ := c2.at_
      exact ⟨c2.w, c2.np, c2.h, vs, by rw [upd_ne hne]; exact q1, q2⟩
  · rcases set_cases h1 with ⟨_, rfl⟩ | ⟨_, h1⟩
    · cases h2
    · rcases mem_setC nd hk hp with rfl | ⟨hp, _⟩
      · exact o.df j cs (a, l) i s hj hm h1 h2
      · exact o.df j cs p i s hj hp h1 h2
/-- an own list becomes a changeable one -/
theorem EnvOk.share (e : EnvOk C B W H σ Γ) {i j : Nat} {cs : List (Addr × List D)} {l : List D} (hj : Γ[j]? = some (.reg cs)) (hs : Γ[i]? = some (.own l)) : ∃ a, EnvOk C B W H σ ((Γ.set i (.d (.adr a))).set j (.reg (cs ++ [(a, l)]))) := by
  obtain ⟨ow, o⟩ := e.ow
  obtain ⟨f1, f2, f3⟩ := o.fr i _ hs rfl
  obtain ⟨q1, vs, q2, q3⟩ := o.ok i _ hs
  have hij : i ≠ j := fun z => by subst z; rw [hs] at hj; cases hj
  have hl : i < σ.length := by
    rcases Nat.lt_or_ge i σ.length with z | z
    · exact z
    · have := (e.len.c i _ hs).mp z; cases this
  have e1 : EnvOk C B W H (σ.set i (some (.ref (ow i)))) (Γ.set i (.d (.adr (ow i)))) := by
    refine ⟨e.stp, e.kp, e.pl, e.p0, e.len.set hl rfl, ow, o.put hl rfl rfl ⟨_, rfl, .adr _⟩⟩
  have es : σ.set i (some (.ref (ow i))) = σ := by
    apply List.ext_getElem?
    intro n
    rw [List.getElem?_set]
    by_cases hn : i = n
    · subst hn
      rw [if_pos rfl, if_pos hl]
      rw [List.getD_eq_getElem?_getD] at q1
      cases z : σ[i]? with
      | none => rw [z] at q1; cases q1
      | some y => rw [z] at q1; exact congrArg some q1.symm
    · rw [if_neg hn]
  rw [es] at e1
  have o1 : Owns C B W H σ (Γ.set i (.d (.adr (ow i)))) ow := by
    have := o.put (i := i) (s := .d (.adr (ow i))) (x := some (.ref (ow i))) hl rfl rfl ⟨_, rfl, .adr _⟩
    rw [es] at this; exact this
  refine ⟨ow i, e1.regAdd (cs := cs) (by rw [List.getElem?_set_ne hij]; exact hj) f3 f1 f2 ⟨ow, o1, fun b s h1 h2 => ?_, fun b ds q h1 h2 => ?_⟩ q2 q3⟩
  · rcases set_cases h1 with ⟨_, rfl⟩ | ⟨hb, h1⟩
    · cases h2
    · exact fun z => hb (o.inj b i s _ h1 hs h2 rfl z)
  · rcases set_cases h1 with ⟨_, z⟩ | ⟨hb, h1⟩
    · cases z
    · exact Ne.symm (o.df b ds q i _ h1 h2 hs rfl)
end
end G
end

section
set_option maxRecDepth 100000
set_option maxHeartbeats 2000000
/-! the data layer: what a reading evaluates to -/
namespace G
open PySem PySem.Spec PyProof.Rows L2

inductive Kd where
  | l | t | m
def Kd.ho : Kd → List V → HO
  | .l, vs => .lst vs
  | .t, vs => .tup vs
  | .m, vs => .lst vs
def Kd.d : Kd → List D → D
  | .l, xs => .lst xs
  | .t, xs => .tup xs
  | .m, xs => .mls xs

section
variable (C : Cl) (B : Bs)
/-- an expression gives data d with K d -/
def EK (Γ : List Sl) (te : TE) (K : D → Prop) : Prop := ∀ W H σ, EnvOk C B W H σ Γ → ∀ Q : VK, (∀ d v W' H', Stp C B.P noS W H W' H' → Rep C B.P W' v d → K d → Q v H') → te σ H Q
/-- .. a sequence (one that only the frame knows, too) -/
def EL (Γ : List Sl) (te : TE) (K : Kd → List D → Prop) : Prop := ∀ W H σ, EnvOk C B W H σ Γ → ∀ Q : VK, (∀ k l a vs W' H', Stp C B.P noS W H W' H' → H' a = some (k.ho vs) → B.P ≠ some a → (k = .t → W' a = some (.tup vs)) → RepL C B.P W' vs l → K k l → Q (.ref a) H') → te σ H Q
/-- .. a new list -/
def EF (Γ : List Sl) (te : TE) (K : List D → Prop) : Prop := ∀ W H σ, EnvOk C B W H σ Γ → ∀ Q : VK, (∀ l a vs W' H', Stp C B.P noS W H W' H' → H a = none → W' a = none → H' a = some (.lst vs) → RepL C B.P W' vs l → K l → Q (.ref a) H') → te σ H Q
def TK (Γ : List Sl) (tt : TT) (K : Bool → Prop) : Prop := ∀ W H σ, EnvOk C B W H σ Γ → ∀ Q : Bool → Hp → Prop, (∀ b W' H', Stp C B.P noS W H W' H' → K b → Q b H') → tt σ H Q
def AK (Γ : List Sl) (ta : TA) (K : List D → Prop) : Prop := ∀ W H σ, EnvOk C B W H σ Γ → ∀ Q : List V → Hp → Prop, (∀ l vs W' H', Stp C B.P noS W H W' H' → RepL C B.P W' vs l → K l → Q vs H') → ta σ H Q
/-- a two-place operation on data -/
def RK (r : R2) (d1 d2 : D) (K : D → Prop) : Prop := ∀ W H, Same W H → PlOk C B.P W H → ∀ v1 v2, Rep C B.P W v1 d1 → Rep C B.P W v2 d2 → ∀ Q : VK, (∀ d v W' H', Stp C B.P noS W H W' H' → Rep C B.P W' v d → K d → Q v H') → r v1 v2 H Q
def UK (r : V → Hp → VK → Prop) (d1 : D) (K : D → Prop) : Prop := ∀ W H, Same W H → PlOk C B.P W H → ∀ v1, Rep C B.P W v1 d1 → ∀ Q : VK, (∀ d v W' H', Stp C B.P noS W H W' H' → Rep C B.P W' v d → K d → Q v H') → r v1 H Q
/-- a call of a builtin on data -/
def CK (r : List V → Hp → VK → Prop) (l : List D) (K : D → Prop) : Prop := ∀ W H, Same W H → PlOk C B.P W H → ∀ vs, RepL C B.P W vs l → ∀ Q : VK, (∀ d v W' H', Stp C B.P noS W H W' H' → Rep C B.P W' v d → K d → Q v H') → r vs H Q
end

/-- what a def promises, by data -/
def SpOf (C : Cl) (S : List D → (D → Prop) → Prop) : Sp := fun vs H Q _ => ∃ P W l K, Same W H ∧ PlOk C P W H ∧ RepL C P W vs l ∧ S l K ∧ ∀ d v W' H', K d → Stp C P noS W H W' H' → Rep C P W' v d → Q v H'

section
variable {C : Cl} {B : Bs} {Γ : List Sl} {ta tb te : TE} {tt t u : TT} {K : D → Prop}
theorem EK.mono {K' : D → Prop} (h : EK C B Γ te K) (k : ∀ d, K d → K' d) : EK C B Γ te K' := fun W H σ e Q q => h W H σ e Q fun d v W' H' s r z => q d v W' H' s r (k d z)
theorem TK.mono {K K' : Bool → Prop} (h : TK C B Γ tt K) (k : ∀ d, K d → K' d) : TK C B Γ tt K' := fun W H σ e Q q => h W H σ e Q fun d W' H' s z => q d W' H' s (k d z)
theorem getD_some {σ : L2.St} {i : Nat} {v : V} (h : σ.getD i none = some v) : σ[i]? = some (some v) := by
  rw [List.getD_eq_getElem?_getD] at h
  cases e : σ[i]? with
  | none => rw [e] at h; cases h
  | some x => rw [e] at h; exact congrArg some h
theorem EnvOk.at_ {W H : Hp} {σ : L2.St} (e : EnvOk C B W H σ Γ) {i : Nat} {x : D} (h : Γ[i]? = some (.d x)) : ∃ v, σ[i]? = some (some v) ∧ Rep C B.P W v x := by
  obtain ⟨ow, o⟩ := e.ow
  obtain ⟨v, h1, h2⟩ := o.ok i _ h
  exact ⟨v, getD_some h1, h2⟩
theorem ek_var {i : Nat} {x : D} (h : Γ[i]? = some (.d x)) (k : K x) : EK C B Γ (tVar i) K := fun W H σ e Q q => by
  obtain ⟨v, h1, h2⟩ := e.at_ h
  exact ⟨v, h1, q x v W H (.refl e.wh) h2 k⟩
theorem ek_int {i : Int} (k : K (.int i)) : EK C B Γ (tC (.int i)) K := fun W H σ e Q q => q _ _ W H (.refl e.wh) (.int i) k
theorem ek_bl {i : Bool} (k : K (.bl i)) : EK C B Γ (tC (.bl i)) K := fun W H σ e Q q => q _ _ W H (.refl e.wh) (.bl i) k
theorem ek_non (k : K .non) : EK C B Γ (tC .non) K := fun W H σ e Q q => q _ _ W H (.refl e.wh) .non k
theorem ek_str {i : Str} (k : K (.str i)) : EK C B Γ (tC (.str i)) K := fun W H σ e Q q => q _ _ W H (.refl e.wh) (.str i) k

theorem ek_op {r : R2} (h : EK C B Γ ta fun d1 => EK C B Γ tb fun d2 => RK C B r d1 d2 K) : EK C B Γ (tOp r ta tb) K := fun W H σ e Q q =>
  h W H σ e _ fun d1 v1 W1 H1 s1 r1 h1 => h1 W1 H1 σ (e.step s1) _ fun d2 v2 W2 H2 s2 r2 h2 =>
    h2 W2 H2 s2.wh ((e.pl.step s1).step s2) v1 v2 (r1.mono s2.ww) r2 Q fun d v W3 H3 s3 r3 k => q d v W3 H3 ((s1.trans s2).trans s3) r3 k
theorem ek_un {r : V → Hp → VK → Prop} (h : EK C B Γ ta fun d1 => UK C B r d1 K) : EK C B Γ (tUn r ta) K := fun W H σ e Q q =>
  h W H σ e _ fun d1 v1 W1 H1 s1 r1 h1 => h1 W1 H1 s1.wh (e.pl.step s1) v1 r1 Q fun d v W3 H3 s3 r3 k => q d v W3 H3 (s1.trans s3) r3 k
theorem ak_nil {K : List D → Prop} (k : K []) : AK C B Γ tNil K := fun W H σ e Q q => q [] [] W H (.refl e.wh) .nil k
theorem ak_cons {ta : TE} {tr : TA} {K : List D → Prop} (h : EK C B Γ ta fun d => AK C B Γ tr fun l => K (d :: l)) : AK C B Γ (tCons ta tr) K := fun W H σ e Q q =>
  h W H σ e _ fun d v W1 H1 s1 r1 h1 => h1 W1 H1 σ (e.step s1) _ fun l vs W2 H2 s2 r2 h2 => q (d :: l) (v :: vs) W2 H2 (s1.trans s2) (.cons (r1.mono s2.ww) r2) h2
theorem ek_cb {r : List V → Hp → VK → Prop} {ta : TA} (h : AK C B Γ ta fun l => CK C B r l K) : EK C B Γ (tCB r ta) K := fun W H σ e Q q =>
  h W H σ e _ fun l vs W1 H1 s1 r1 h1 => h1 W1 H1 s1.wh (e.pl.step s1) vs r1 Q fun d v W3 H3 s3 r3 k => q d v W3 H3 (s1.trans s3) r3 k
/-- a call of a def -/
theorem ek_call {S : List D → (D → Prop) → Prop} {dvs : List V} {dds : List D} {ta : TA} (hd : ∀ W, RepL C B.P W dvs dds) (h : AK C B Γ ta fun l => S (l ++ dds) K) : EK C B Γ (tCall (SpOf C S) dvs E0 ta) K := fun W H σ e Q q =>
  h W H σ e _ fun l vs W1 H1 s1 r1 h1 => ⟨B.P, W1, l ++ dds, K, s1.wh, e.pl.step s1, r1.append (hd W1), h1, fun d v W3 H3 k s3 r3 => q d v W3 H3 (s1.trans s3) r3 k⟩
theorem ek_call0 {S : List D → (D → Prop) → Prop} {ta : TA} (h : AK C B Γ ta fun l => S l K) : EK C B Γ (tCall (SpOf C S) [] E0 ta) K :=
  ek_call (dds := []) (fun _ => .nil) (by simpa using h)
/-- a method of an instance -/
theorem rep_frac {P : Option Addr} {W : Hp} {v : V} {q : Rat} (r : Rep C P W v (.frac q)) : ∃ a dx, v = .ref a ∧ W a = some (.ins C.frac dx (fracF q)) := by
  cases r with
  | frac h => exact ⟨_, _, rfl, h⟩
theorem ek_methF {S : List D → (D → Prop) → Prop} {m : Str} {ta : TE} {t : TA}  (hl : ∀ q, (fracF q).lookup m = none)
    (h : EK C B Γ ta fun d0 => ∃ q, d0 = .frac q ∧ AK C B Γ t fun l => S (.frac q :: l) K) : EK C B Γ (tMeth C.frac m (SpOf C S) [] E0 ta t) K := fun W H σ e Q q =>
  h W H σ e _ fun d0 v0 W1 H1 s1 r1 ⟨x, e0, h1⟩ => by
    subst e0
    obtain ⟨a, dx, rfl, ha⟩ := rep_frac r1
    refine ⟨a, dx, _, rfl, s1.wh _ _ ha, hl x, h1 W1 H1 σ (e.step s1) _ fun l vs W2 H2 s2 r2 h2 => ?_⟩
    rw [List.append_nil]
    exact ⟨B.P, W2, .frac x :: l, K, s2.wh, (e.pl.step s1).step s2, .cons (r1.mono s2.ww) r2, h2, fun d v W3 H3 k s3 r3 => q d v W3 H3 ((s1.trans s2).trans s3) r3 k⟩
theorem rep_obj {P : Option Addr} {W : Hp} {v : V} {c : Nat} {l : List (Str × D)} (r : Rep C P W v (.obj c l)) : ∃ a dx fs, v = .ref a ∧ W a = some (.ins (C.cls c) dx fs) ∧ fs.map (·.1) = l.map (·.1) ∧ RepL C P W (fs.map (·.2)) (l.map (·.2)) := by
  cases r with
  | obj h e r => exact ⟨_, _, _, rfl, h, e, r⟩
theorem lookup_keys {α β : Type} {f : Str} : ∀ {fs : List (Str × α)} {l : List (Str × β)}, fs.map (·.1) = l.map (·.1) → l.lookup f = none → fs.lookup f = none
  | [], _, _, _ => rfl
  | (k, x) :: fs, [], h, _ => by cases h
  | (k, x) :: fs, (k', y) :: l, h, h2 => by
    have h1 : k = k' := by simp at h; exact h.1
    have h3 : fs.map (·.1) = l.map (·.1) := by simp at h; exact h.2
    subst h1
    by_cases e : (f == k) = true
    · simp only [List.lookup, e] at h2; cases h2
    · have e : (f == k) = false := by simpa using e
      simp only [List.lookup, e] at h2 ⊢
      exact lookup_keys h3 h2
theorem lookup_rep {P : Option Addr} {W : Hp} {f : Str} {d : D} : ∀ {fs : List (Str × V)} {l : List (Str × D)}, fs.map (·.1) = l.map (·.1) → RepL C P W (fs.map (·.2)) (l.map (·.2)) → l.lookup f = some d → ∃ v, fs.lookup f = some v ∧ Rep C P W v d
  | [], [], _, _, h => by cases h
  | [], _ :: _, h, _, _ => by cases h
  | (k, x) :: fs, [], h, _, _ => by cases h
  | (k, x) :: fs, (k', y) :: l, h, r, h2 => by
    have h1 : k = k' := by simp at h; exact h.1
    have h3 : fs.map (·.1) = l.map (·.1) := by simp at h; exact h.2
    subst h1
    cases r with
    | cons r rr =>
      by_cases e : (f == k) = true
      · simp only [List.lookup, e] at h2 ⊢; cases h2; exact ⟨_, rfl, r⟩
      · have e : (f == k) = false := by simpa using e
        simp only [List.lookup, e] at h2 ⊢
        exact lookup_rep h3 rr h2
theorem ek_methO {S : List D → (D → Prop) → Prop} {m : Str} {c : Nat} {ta : TE} {t : TA} 
    (h : EK C B Γ ta fun d0 => ∃ fl, d0 = .obj c fl ∧ fl.lookup m = none ∧ AK C B Γ t fun l => S (.obj c fl :: l) K) : EK C B Γ (tMeth (C.cls c) m (SpOf C S) [] E0 ta t) K := fun W H σ e Q q =>
  h W H σ e _ fun d0 v0 W1 H1 s1 r1 ⟨x, e0, hl, h1⟩ => by
    subst e0
    obtain ⟨a, dx, fs, rfl, ha, hk, hr⟩ := rep_obj r1
    refine ⟨a, dx, _, rfl, s1.wh _ _ ha, lookup_keys hk hl, h1 W1 H1 σ (e.step s1) _ fun l vs W2 H2 s2 r2 h2 => ?_⟩
    rw [List.append_nil]
    exact ⟨B.P, W2, .obj c x :: l, K, s2.wh, (e.pl.step s1).step s2, .cons (r1.mono s2.ww) r2, h2, fun d v W3 H3 k s3 r3 => q d v W3 H3 ((s1.trans s2).trans s3) r3 k⟩
/-- attributes -/
theorem ek_num {KK : PySem.W.Frag} {ta : TE} (c : Cls KK C.frac) (n : NoAttr KK C.frac "num") (h : EK C B Γ ta fun d => ∃ q, d = .frac q ∧ K (.int q.num)) : EK C B Γ (tFld KK ta "num") K := fun W H σ e Q q =>
  h W H σ e _ fun d0 v0 W1 H1 s1 r1 ⟨x, e0, h1⟩ => by
    subst e0
    obtain ⟨a, dx, rfl, ha⟩ := rep_frac r1
    exact ⟨a, C.frac, dx, _, .int x.num, rfl, s1.wh _ _ ha, c, n, rfl, q _ _ W1 H1 s1 (.int _) h1⟩
theorem ek_den {KK : PySem.W.Frag} {ta : TE} (c : Cls KK C.frac) (n : NoAttr KK C.frac "den") (h : EK C B Γ ta fun d => ∃ q, d = .frac q ∧ K (.int q.den)) : EK C B Γ (tFld KK ta "den") K := fun W H σ e Q q =>
  h W H σ e _ fun d0 v0 W1 H1 s1 r1 ⟨x, e0, h1⟩ => by
    subst e0
    obtain ⟨a, dx, rfl, ha⟩ := rep_frac r1
    exact ⟨a, C.frac, dx, _, .int x.den, rfl, s1.wh _ _ ha, c, n, rfl, q _ _ W1 H1 s1 (.int _) h1⟩
theorem ek_fld {KK : PySem.W.Frag} {f : Str} {ta : TE} (h : EK C B Γ ta fun d => ∃ c l x, d = .obj c l ∧ Cls KK (C.cls c) ∧ NoAttr KK (C.cls c) f ∧ l.lookup f = some x ∧ K x) : EK C B Γ (tFld KK ta f) K := fun W H σ e Q q =>
  h W H σ e _ fun d0 v0 W1 H1 s1 r1 ⟨c, l, x, e0, cl, na, hl, h1⟩ => by
    subst e0
    obtain ⟨a, dx, fs, rfl, ha, hk, hr⟩ := rep_obj r1
    obtain ⟨v, hv, rv⟩ := lookup_rep hk hr hl
    exact ⟨a, C.cls c, dx, _, v, rfl, s1.wh _ _ ha, cl, na, hv, q _ _ W1 H1 s1 rv h1⟩
/-- displays -/
theorem ek_tup {ta : TA} (h : AK C B Γ ta fun l => l.length ≤ sizeLine ∧ K (.tup l)) : EK C B Γ (tTup ta) K := fun W H σ e Q q =>
  h W H σ e _ fun l vs W1 H1 s1 r1 ⟨hz, h1⟩ => ⟨by rw [r1.length]; exact hz, fun p hp => by
    have s2 := Stp.new (C := C) (P := B.P) (S := noS) (o := .tup vs) s1.wh hp (e.pl.step s1).ne
    exact q _ _ _ _ (s1.trans s2) (.tup upd_same (r1.mono s2.ww)) h1⟩
theorem ef_lst {ta : TA} {K : List D → Prop} (h : AK C B Γ ta fun l => l.length ≤ sizeLine ∧ K l) : EF C B Γ (tLst ta) K := fun W H σ e Q q =>
  h W H σ e _ fun l vs W1 H1 s1 r1 ⟨hz, h1⟩ => ⟨by rw [r1.length]; exact hz, fun p hp => by
    have s2 := Stp.own (C := C) (P := B.P) (S := noS) (o := .lst vs) s1.wh hp (e.pl.step s1).ne
    have hW : W1 p = none := by
      cases z : W1 p with
      | none => rfl
      | some o => rw [s1.wh _ _ z] at hp; cases hp
    exact q l p vs _ _ (s1.trans s2) (s1.free hp) hW upd_same r1 h1⟩
/-- a new list becomes data at once -/
theorem ek_ef {te : TE} (h : EF C B Γ te fun l => K (.lst l)) : EK C B Γ te K := fun W H σ e Q q =>
  h W H σ e _ fun l a vs W1 H1 s1 ha hW hh r1 h1 => by
    have hP : B.P ≠ some a := fun z => e.pl.ne a z ha
    have ww : Same W1 (upd W1 a (.lst vs)) := fun b x z => by rw [upd_ne (fun y => by subst y; rw [hW] at z; cases z)]; exact z
    refine q _ _ (upd W1 a (.lst vs)) H1 ⟨s1.ww.trans ww, fun b x z => ?_, s1.hh, s1.dom, fun b x z => ?_, fun b z w => C.pkm ww (s1.pool b z w)⟩ (.lst upd_same (r1.mono ww)) h1
    · by_cases hb : b = a
      · subst hb; rw [upd_same] at z; cases z; exact hh
      · rw [upd_ne hb] at z; exact s1.wh b x z
    · rw [upd_ne (ne_of_none z ha)]; exact s1.old b x z
theorem el_ef {te : TE} {K : Kd → List D → Prop} (h : EF C B Γ te fun l => K .l l) : EL C B Γ te K := fun W H σ e Q q =>
  h W H σ e _ fun l a vs W1 H1 s1 ha hW hh r1 h1 => q .l l a vs W1 H1 s1 hh (fun z => e.pl.ne a z ha) (fun z => nomatch z) r1 h1
theorem el_ek {te : TE} {K : Kd → List D → Prop} (h : EK C B Γ te fun d => ∃ k l, d = k.d l ∧ K k l) : EL C B Γ te K := fun W H σ e Q q =>
  h W H σ e _ fun d v W1 H1 s1 r1 ⟨k, l, e0, h1⟩ => by
    have pl := e.pl.step s1
    cases k with
    | l =>
      subst e0
      cases r1 with
      | lst ha r => exact q .l l _ _ W1 H1 s1 (s1.wh _ _ ha) (fun z => by rw [(pl.po _ z).1] at ha; cases ha) (fun z => nomatch z) r h1
    | t =>
      subst e0
      cases r1 with
      | tup ha r => exact q .t l _ _ W1 H1 s1 (s1.wh _ _ ha) (fun z => by rw [(pl.po _ z).1] at ha; cases ha) (fun _ => ha) r h1
    | m =>
      subst e0
      cases r1 with
      | mls ha r => exact q .m l _ _ W1 H1 s1 (pl.rg _ _ ha).1 (pl.rg _ _ ha).2.2 (fun z => nomatch z) r h1
/-- .. a list that the frame may change -/
theorem el_adr {te : TE} {j : Nat} {cs : List (Addr × List D)} {K : Kd → List D → Prop} (hj : Γ[j]? = some (.reg cs)) (h : EK C B Γ te fun d => ∃ a l, d = .adr a ∧ (a, l) ∈ cs ∧ K .l l) : EL C B Γ te K := fun W H σ e Q q =>
  h W H σ e _ fun d v W1 H1 s1 r1 ⟨a, l, e0, hm, h1⟩ => by
    subst e0
    cases r1
    obtain ⟨ow, o⟩ := (e.step s1).ow
    have c := o.cl j cs (a, l) hj hm
    obtain ⟨vs, q1, q2⟩ := c.at_
    exact q .l l a vs W1 H1 s1 q1 c.np (fun z => nomatch z) q2 h1
theorem el_var {i : Nat} {x : D} {K : Kd → List D → Prop} (h : Γ[i]? = some (.d x)) (k : ∃ k l, x = k.d l ∧ K k l) : EL C B Γ (tVar i) K := el_ek (ek_var h k)
theorem el_own {i : Nat} {l : List D} {K : Kd → List D → Prop} (h : Γ[i]? = some (.own l)) (k : K .l l) : EL C B Γ (tVar i) K := fun W H σ e Q q => by
  obtain ⟨ow, o⟩ := e.ow
  obtain ⟨h1, vs, h2, h3⟩ := o.ok i _ h
  exact ⟨_, getD_some h1, q .l l (ow i) vs W H (.refl e.wh) h2 (o.fr i _ h rfl).p (fun z => nomatch z) h3 k⟩
/-- items -/
theorem atI_rep {P : Option Addr} {W : Hp} {vs : List V} {l : List D} {i : Int} {d : D} (r : RepL C P W vs l) (h : atI l i = some d) : ∃ v, atI vs i = some v ∧ Rep C P W v d := by
  unfold atI at h ⊢
  rw [r.length]
  cases e : ixN l.length i with
  | none => rw [e] at h; cases h
  | some j =>
    rw [e] at h
    exact r.get h
theorem ek_ix {KK : PySem.W.Frag} (h : EL C B Γ ta fun _ l => EK C B Γ tb fun d2 => ∃ i x, d2 = .int i ∧ atI l i = some x ∧ K x) : EK C B Γ (tOp (rIx KK) ta tb) K := fun W H σ e Q q =>
  h W H σ e _ fun k l a vs W1 H1 s1 ha hP _ r1 h1 => h1 W1 H1 σ (e.step s1) _ fun d2 v2 W2 H2 s2 r2 ⟨i, x, e2, hx, kx⟩ => by
    subst e2
    cases r2
    obtain ⟨v, hv, rv⟩ := atI_rep (r1.mono s2.ww) hx
    have ha2 := s2.hh _ _ ha hP (fun z => nomatch z)
    have fin := q x v W2 H2 (s1.trans s2) rv kx
    cases k with
    | l => exact .inl ⟨a, vs, i, v, rfl, rfl, SqL.of ha2, hv, fin⟩
    | t => exact .inr (.inl ⟨a, vs, i, v, rfl, rfl, SqT.of ha2, hv, fin⟩)
    | m => exact .inl ⟨a, vs, i, v, rfl, rfl, SqL.of ha2, hv, fin⟩
/-- tests -/
theorem tk_test {te : TE} {K : Bool → Prop} (h : EK C B Γ te fun d => ∃ b, d = .bl b ∧ K b) : TK C B Γ (tTest te) K := fun W H σ e Q q =>
  h W H σ e _ fun d v W1 H1 s1 r1 ⟨b, e0, h1⟩ => by
    subst e0; cases r1
    exact ⟨b, rfl, q b W1 H1 s1 h1⟩
theorem tk_B {te : TE} {K : Bool → Prop} (h : EK C B Γ te fun d => ∃ b, d = .bl b ∧ K b) : TK C B Γ (tB te) K := fun W H σ e Q q =>
  h W H σ e _ fun d v W1 H1 s1 r1 ⟨b, e0, h1⟩ => by
    subst e0; cases r1
    exact ⟨b, rfl, q b W1 H1 s1 h1⟩
theorem tk_and {K : Bool → Prop} (h : TK C B Γ t fun b => (b = true → TK C B Γ u K) ∧ (b = false → K false)) : TK C B Γ (tAnd t u) K := fun W H σ e Q q =>
  h W H σ e _ fun b W1 H1 s1 h1 => by
    cases b with
    | true =>
      show u σ H1 Q
      exact h1.1 rfl W1 H1 σ (e.step s1) Q fun c W2 H2 s2 k => q c W2 H2 (s1.trans s2) k
    | false => exact q false W1 H1 s1 (h1.2 rfl)
theorem tk_or {K : Bool → Prop} (h : TK C B Γ t fun b => (b = true → K true) ∧ (b = false → TK C B Γ u K)) : TK C B Γ (tOr t u) K := fun W H σ e Q q =>
  h W H σ e _ fun b W1 H1 s1 h1 => by
    cases b with
    | true => exact q true W1 H1 s1 (h1.1 rfl)
    | false =>
      show u σ H1 Q
      exact h1.2 rfl W1 H1 σ (e.step s1) Q fun c W2 H2 s2 k => q c W2 H2 (s1.trans s2) k
theorem tk_not {K : Bool → Prop} (h : TK C B Γ t fun b => K (!b)) : TK C B Γ (tNot t) K := fun W H σ e Q q => h W H σ e _ fun b W1 H1 s1 h1 => q (!b) W1 H1 s1 h1
theorem ek_andV (h : EK C B Γ ta fun d => ∃ b, d = .bl b ∧ (b = true → EK C B Γ tb K) ∧ (b = false → K (.bl false))) : EK C B Γ (tAndV ta tb) K := fun W H σ e Q q =>
  h W H σ e _ fun d v W1 H1 s1 r1 ⟨b, e0, h1⟩ => by
    subst e0; cases r1
    refine ⟨b, rfl, ?_⟩
    cases b with
    | true =>
      show tb σ H1 Q
      exact h1.1 rfl W1 H1 σ (e.step s1) Q fun d v W2 H2 s2 r k => q d v W2 H2 (s1.trans s2) r k
    | false => exact q _ _ W1 H1 s1 (.bl false) (h1.2 rfl)
theorem ek_orV (h : EK C B Γ ta fun d => ∃ b, d = .bl b ∧ (b = true → K (.bl true)) ∧ (b = false → EK C B Γ tb K)) : EK C B Γ (tOrV ta tb) K := fun W H σ e Q q =>
  h W H σ e _ fun d v W1 H1 s1 r1 ⟨b, e0, h1⟩ => by
    subst e0; cases r1
    refine ⟨b, rfl, ?_⟩
    cases b with
    | true => exact q _ _ W1 H1 s1 (.bl true) (h1.1 rfl)
    | false =>
      show tb σ H1 Q
      exact h1.2 rfl W1 H1 σ (e.step s1) Q fun d v W2 H2 s2 r k => q d v W2 H2 (s1.trans s2) r k
theorem ek_notV (h : EK C B Γ ta fun d => ∃ b, d = .bl b ∧ K (.bl (!b))) : EK C B Γ (tNotV ta) K := fun W H σ e Q q =>
  h W H σ e _ fun d v W1 H1 s1 r1 ⟨b, e0, h1⟩ => by
    subst e0; cases r1
    exact ⟨b, rfl, q _ _ W1 H1 s1 (.bl _) h1⟩
theorem ek_if (h : TK C B Γ t fun b => (b = true → EK C B Γ ta K) ∧ (b = false → EK C B Γ tb K)) : EK C B Γ (tIf t ta tb) K := fun W H σ e Q q =>
  h W H σ e _ fun b W1 H1 s1 h1 => by
    cases b with
    | true =>
      show ta σ H1 Q
      exact h1.1 rfl W1 H1 σ (e.step s1) Q fun d v W2 H2 s2 r k => q d v W2 H2 (s1.trans s2) r k
    | false =>
      show tb σ H1 Q
      exact h1.2 rfl W1 H1 σ (e.step s1) Q fun d v W2 H2 s2 r k => q d v W2 H2 (s1.trans s2) r k
/-- operations on data -/
theorem rk_I0 {g : Int → Int → V} {i j : Int} {d : D} (hg : ∀ W, Rep C B.P W (g i j) d) (k : K d) : RK C B (rI0 g) (.int i) (.int j) K := fun W H hw pl v1 v2 r1 r2 Q q => by
  cases r1; cases r2
  exact ⟨i, j, rfl, rfl, q d _ W H (.refl hw) (hg W) k⟩
theorem rk_I {Cd : Int → Int → Prop} {g : Int → Int → V} {i j : Int} {d : D} (hg : ∀ W, Rep C B.P W (g i j) d) (hc : Cd i j) (k : K d) : RK C B (rI Cd g) (.int i) (.int j) K := fun W H hw pl v1 v2 r1 r2 Q q => by
  cases r1; cases r2
  exact ⟨i, j, rfl, rfl, hc, q d _ W H (.refl hw) (hg W) k⟩
theorem RK.or1 {r r' : R2} {d1 d2 : D} (h : RK C B r d1 d2 K) : RK C B (fun x y H Q => r x y H Q ∨ r' x y H Q) d1 d2 K := fun W H hw pl v1 v2 r1 r2 Q q => .inl (h W H hw pl v1 v2 r1 r2 Q q)
theorem RK.or2 {r r' : R2} {d1 d2 : D} (h : RK C B r' d1 d2 K) : RK C B (fun x y H Q => r x y H Q ∨ r' x y H Q) d1 d2 K := fun W H hw pl v1 v2 r1 r2 Q q => .inr (h W H hw pl v1 v2 r1 r2 Q q)
theorem uk_I {g : Int → V} {i : Int} {d : D} (hg : ∀ W, Rep C B.P W (g i) d) (k : K d) : UK C B (rU g) (.int i) K := fun W H hw pl v1 r1 Q q => by
  cases r1
  exact ⟨i, rfl, q d _ W H (.refl hw) (hg W) k⟩
/-- scalars compared -/
def D.scal : D → Option V
  | .non => some .non
  | .bl b => some (.bl b)
  | .int i => some (.int i)
  | .str s => some (.str s)
  | _ => none
theorem rep_scal {P : Option Addr} {W : Hp} {v w : V} {d : D} (h : d.scal = some w) (r : Rep C P W v d) : v = w := by
  cases r <;> first | (cases h; rfl) | cases h
theorem rk_eq {d1 d2 : D} {v1 v2 : V} (h1 : d1.scal = some v1) (h2 : d2.scal = some v2) (hs : scal v1 v2 = true) (k : K (.bl (decide (v1 = v2)))) : RK C B rEq d1 d2 K := fun W H hw pl x y r1 r2 Q q => by
  rw [rep_scal h1 r1, rep_scal h2 r2]
  exact ⟨hs, q _ _ W H (.refl hw) (.bl _) k⟩
theorem rk_ne {d1 d2 : D} {v1 v2 : V} (h1 : d1.scal = some v1) (h2 : d2.scal = some v2) (hs : scal v1 v2 = true) (k : K (.bl (!decide (v1 = v2)))) : RK C B rNe d1 d2 K := fun W H hw pl x y r1 r2 Q q => by
  rw [rep_scal h1 r1, rep_scal h2 r2]
  exact ⟨hs, q _ _ W H (.refl hw) (.bl _) k⟩
end
end G
end

section
set_option maxRecDepth 100000
set_option maxHeartbeats 2000000
/-! the data layer: statements, loops, comprehensions -/
namespace G
open PySem PySem.Spec PyProof.Rows L2

structure Oc where
  nx : List Sl → Prop
  rt : List Sl → D → Prop
  bk : List Sl → Prop := fun _ => False
  ct : List Sl → Prop := fun _ => False

section
variable (C : Cl) (B : Bs)
structure Sat (O : Oc) (D' : Ends) : Prop where
  nx : ∀ Γ W H σ, EnvOk C B W H σ Γ → O.nx Γ → D'.nx σ H
  rt : ∀ Γ d v W H σ, EnvOk C B W H σ Γ → Rep C B.P W v d → O.rt Γ d → D'.rt v H
  bk : ∀ Γ W H σ, EnvOk C B W H σ Γ → O.bk Γ → D'.bk σ H
  ct : ∀ Γ W H σ, EnvOk C B W H σ Γ → O.ct Γ → D'.ct σ H
def SK (Γ : List Sl) (ts : TS) (O : Oc) : Prop := ∀ W H σ, EnvOk C B W H σ Γ → ∀ D' : Ends, Sat C B O D' → ts D' σ H
/-- a target gets data -/
def GK (Γ : List Sl) (g : TG) (d : D) (K : List Sl → Prop) : Prop := ∀ W H σ v, EnvOk C B W H σ Γ → Rep C B.P W v d → ∀ Q : L2.St → Hp → Prop, (∀ Γ' W' H' σ', EnvOk C B W' H' σ' Γ' → K Γ' → Q σ' H') → g v σ H Q
def GKs (Γ : List Sl) (g : TGs) (l : List D) (K : List Sl → Prop) : Prop := ∀ W H σ vs, EnvOk C B W H σ Γ → RepL C B.P W vs l → ∀ Q : L2.St → Hp → Prop, (∀ Γ' W' H' σ', EnvOk C B W' H' σ' Γ' → K Γ' → Q σ' H') → g vs σ H Q
/-- targets that are names: the slots change, the heap does not -/
def GN (Γ : List Sl) (g : TG) (d : D) (T : List Nat) (K : List Sl → Prop) : Prop := ∀ W H σ v (ow : Nat → Addr), EnvOk C B W H σ Γ → (∀ i s, Γ[i]? = some s → s.isO = true → i ∉ T) → Owns C B W H σ Γ ow → Rep C B.P W v d → ∀ Q : L2.St → Hp → Prop, (∀ Γ' σ', EnvOk C B W H σ' Γ' → Owns C B W H σ' Γ' ow → (∀ vs : List Nat, (∀ i ∈ T, i ∈ vs) → L2.wipe σ' vs = L2.wipe σ vs) → K Γ' → Q σ' H) → g v σ H Q
/-- what an iterator yields -/
structure Yl (J : It) (W1 : Hp) (l : List D) : Prop where
  stop : ∀ H, Same W1 H → Same C.m H → J.stop l.length H
  go : ∀ i W H, i < l.length → Same W1 W → Same W H → PlOk C B.P W H → J.go i H ∧ ∀ x H', J.yld i H x H' → ∃ W' d, Stp C B.P noS W H W' H' ∧ l[i]? = some d ∧ Rep C B.P W' x d
def IK (Γ : List Sl) (wi : TI) (K : List D → Prop) : Prop := ∀ W H σ, EnvOk C B W H σ Γ → ∀ R : It → Hp → Prop, (∀ J W' H' l, Stp C B.P noS W H W' H' → Yl C B J W' l → K l → R J H') → wi σ H R
end

section
variable {C : Cl} {B : Bs} {Γ : List Sl} {ta tb te : TE} {tt : TT} {t u : TS} {O : Oc} {K : D → Prop}
theorem SK.mono {O' : Oc} (h : SK C B Γ t O) (n : ∀ Γ, O.nx Γ → O'.nx Γ) (r : ∀ Γ d, O.rt Γ d → O'.rt Γ d) (b : ∀ Γ, O.bk Γ → O'.bk Γ) (c : ∀ Γ, O.ct Γ → O'.ct Γ) : SK C B Γ t O' := fun W H σ e D' s =>
  h W H σ e D' ⟨fun Γ W H σ e z => s.nx Γ W H σ e (n Γ z), fun Γ d v W H σ e r' z => s.rt Γ d v W H σ e r' (r Γ d z), fun Γ W H σ e z => s.bk Γ W H σ e (b Γ z), fun Γ W H σ e z => s.ct Γ W H σ e (c Γ z)⟩
theorem sk_seq (h : SK C B Γ t { O with nx := fun Γ' => SK C B Γ' u O }) : SK C B Γ (tSeq t u) O := fun W H σ e D' s =>
  h W H σ e { D' with nx := u D' } ⟨fun Γ W H σ e z => z W H σ e D' s, s.rt, s.bk, s.ct⟩
/-- with a word between -/
theorem sk_cut (M : List Sl → Prop) (h : SK C B Γ t { O with nx := M }) (k : ∀ Γ', M Γ' → SK C B Γ' u O) : SK C B Γ (tSeq t u) O :=
  sk_seq (h.mono k (fun _ _ z => z) (fun _ z => z) (fun _ z => z))
theorem sk_next (h : O.nx Γ) : SK C B Γ tNext O := fun W H σ e D' s => s.nx Γ W H σ e h
theorem sk_break (h : O.bk Γ) : SK C B Γ tBreak O := fun W H σ e D' s => s.bk Γ W H σ e h
theorem sk_cont (h : O.ct Γ) : SK C B Γ tCont O := fun W H σ e D' s => s.ct Γ W H σ e h
theorem sk_weak {Γ' : List Sl} (w : Wk Γ Γ') (h : SK C B Γ' t O) : SK C B Γ t O := fun W H σ e D' s => h W H σ (e.weak w) D' s
theorem sk_freeze (i : Nat) {l : List D} (hs : Γ[i]? = some (.own l)) (h : SK C B (Γ.set i (.d (.lst l))) t O) : SK C B Γ t O := fun W H σ e D' s => by
  obtain ⟨W', _, e'⟩ := e.freeze hs
  exact h W' H σ e' D' s
theorem sk_asg {g : TG} (h : EK C B Γ te fun d => GK C B Γ g d O.nx) : SK C B Γ (tAsg te g) O := fun W H σ e D' s =>
  h W H σ e _ fun d v W1 H1 s1 r1 k => k W1 H1 σ v (e.step s1) r1 D'.nx fun Γ' W' H' σ' e' z => s.nx Γ' W' H' σ' e' z
theorem gk_name {i : Nat} {d : D} {K : List Sl → Prop} (k : K (Γ.set i (.d d))) (hi : isSlot Γ i = true := by rfl) : GK C B Γ (gName i) d K := fun W H σ v e r Q q =>
  q _ W H _ (e.setD hi r) k
theorem gk_tup {KK : PySem.W.Frag} {n : Nat} {gs : TGs} {d : D} {K : List Sl → Prop} (h : ∃ l, d = .tup l ∧ l.length = n ∧ GKs C B Γ gs l K) : GK C B Γ (gTup KK n gs) d K := fun W H σ v e r Q q => by
  obtain ⟨l, rfl, hn, k⟩ := h
  cases r with
  | tup ha rl => exact ⟨_, _, rfl, SqT.of (e.wh _ _ ha), rl.length.trans hn, k W H σ _ e rl Q q⟩
theorem gk_tupL {KK : PySem.W.Frag} {n : Nat} {gs : TGs} {l : List D} {K : List Sl → Prop} (hn : l.length = n) (h : GKs C B Γ gs l K) : GK C B Γ (gTup KK n gs) (.tup l) K := gk_tup ⟨l, rfl, hn, h⟩
theorem gks_nil {K : List Sl → Prop} (k : K Γ) : GKs C B Γ gNil [] K := fun W H σ vs e r Q q => by
  cases r
  exact ⟨rfl, q Γ W H σ e k⟩
theorem RepL.later {P : Option Addr} {W W' : Hp} {vs : List V} {l : List D} (h : RepL C P W vs l) (s : Same W W') : RepL C P W' vs l := h.mono s
theorem gks_cons {gs : TGs} {d : D} {l : List D} {i : Nat} {K : List Sl → Prop} (h : GKs C B (Γ.set i (.d d)) gs l K) (hi : isSlot Γ i = true := by rfl) : GKs C B Γ (gCons (gName i) gs) (d :: l) K := fun W H σ vs e r Q q => by
  cases r with
  | cons r1 r2 => exact ⟨_, _, rfl, h W H _ _ (e.setD hi r1) r2 Q q⟩
/-- a tuple within -/
theorem gks_consT {KK : PySem.W.Frag} {n i j : Nat} {gs : TGs} {x y : D} {l : List D} {K : List Sl → Prop} (h : GKs C B ((Γ.set i (.d x)).set j (.d y)) gs l K) (hi : isSlot Γ i = true := by rfl) (hj : isSlot Γ j = true := by rfl) :
    GKs C B Γ (gCons (gTup KK 2 (gCons (gName i) (gCons (gName j) gNil))) gs) (.tup [x, y] :: l) K := fun W H σ vs e r Q q => by
  cases r with
  | cons r1 r2 =>
    cases r1 with
    | tup ha rl =>
      cases rl with
      | cons q1 rl =>
        cases rl with
        | cons q2 rl =>
          cases rl
          refine ⟨_, _, rfl, _, _, rfl, SqT.of (e.wh _ _ ha), rfl, ⟨_, _, rfl, _, _, rfl, rfl, ?_⟩⟩
          exact h W H _ _ ((e.setD hi q1).setD (isSlot_set rfl hj) q2) r2 Q q
/-- own[i] = v -/
theorem gk_sub {i : Nat} {l : List D} {ti : TE} {d : D} {K : List Sl → Prop} (hs : Γ[i]? = some (.own l)) (h : EK C B Γ ti fun d2 => ∃ k j, d2 = .int k ∧ ixN l.length k = some j ∧ K (Γ.set i (.own (l.set j d)))) : GK C B Γ (gSub (tVar i) ti rSetL) d K := fun W H σ v e r Q q => by
  obtain ⟨ow, o⟩ := e.ow
  obtain ⟨h1, vs, h2, h3⟩ := o.ok i _ hs
  refine ⟨_, getD_some h1, h W H σ e _ fun d2 v2 W2 H2 s2 r2 ⟨k, j, e2, hj, kx⟩ => ?_⟩
  subst e2
  cases r2
  have o2 := o.step s2
  obtain ⟨h1', vs', h2', h3'⟩ := o2.ok i _ hs
  refine ⟨ow i, vs', k, j, rfl, rfl, h2', by rw [h3'.length]; exact hj, ?_⟩
  obtain ⟨ow2, o3, f⟩ := (e.step s2).chg (u := .lst (vs'.set j v)) (t := .own (l.set j d)) hs rfl rfl (fun _ h => h)
  have ee : ow2 i = ow i := by
    obtain ⟨g1, _⟩ := o3.ok i _ hs
    rw [h1] at g1
    injection g1 with g1
    injection g1 with g1
    exact g1.symm
  rw [ee] at f
  exact q _ W2 _ σ (f ⟨h1, vs'.set j v, upd_same, h3'.set (r.mono s2.ww) j⟩) kx
theorem sk_asgO {i : Nat} (h : EF C B Γ te fun l => O.nx (Γ.set i (.own l))) (hi : isSlot Γ i = true := by rfl) : SK C B Γ (tAsg te (gName i)) O := fun W H σ e D' s =>
  h W H σ e _ fun l a vs W1 H1 s1 ha hW hh r1 k => by
    obtain ⟨ow, o⟩ := e.ow
    refine s.nx _ W1 H1 _ ((e.step s1).setO hi (e.stp.free ha) hW (fun z => e.pl.ne a z ha) ⟨ow, o.step s1, o.ne ha, o.neC ha⟩ hh r1) k
theorem sk_ret (h : EK C B Γ te (O.rt Γ)) : SK C B Γ (tRet te) O := fun W H σ e D' s =>
  h W H σ e _ fun d v W1 H1 s1 r1 k => s.rt Γ d v W1 H1 σ (e.step s1) r1 k
theorem sk_drop (h : EK C B Γ te fun _ => O.nx Γ) : SK C B Γ (tDrop te) O := fun W H σ e D' s =>
  h W H σ e _ fun d v W1 H1 s1 r1 k => s.nx Γ W1 H1 σ (e.step s1) k
theorem sk_if (h : TK C B Γ tt fun b => (b = true → SK C B Γ t O) ∧ (b = false → SK C B Γ u O)) : SK C B Γ (tIfS tt t u) O := fun W H σ e D' s =>
  h W H σ e _ fun b W1 H1 s1 k => by
    cases b with
    | true => exact k.1 rfl W1 H1 σ (e.step s1) D' s
    | false => exact k.2 rfl W1 H1 σ (e.step s1) D' s
theorem sk_append {KK : PySem.W.Frag} {i : Nat} {l : List D} (hs : Γ[i]? = some (.own l)) (h : EK C B Γ te fun d => l.length < sizeLine ∧ O.nx (Γ.set i (.own (l ++ [d])))) :
    SK C B Γ (tDrop (tBM KK "list" rAppend (tVar i) (tCons te tNil))) O := fun W H σ e D' s => by
  obtain ⟨ow, o⟩ := e.ow
  obtain ⟨h1, vs, h2, h3⟩ := o.ok i _ hs
  refine ⟨_, getD_some h1, .inl ⟨rfl, _, SqL.of h2⟩, h W H σ e _ fun d v W1 H1 s1 r1 ⟨hz, k⟩ => ?_⟩
  have o2 := o.step s1
  obtain ⟨h1', vs', h2', h3'⟩ := o2.ok i _ hs
  refine ⟨ow i, vs', v, rfl, rfl, h2', by rw [h3'.length]; exact hz, ?_⟩
  obtain ⟨ow2, o3, f⟩ := (e.step s1).chg (u := .lst (vs' ++ [v])) (t := .own (l ++ [d])) hs rfl rfl (fun _ h => h)
  have ee : ow2 i = ow i := by
    obtain ⟨g1, _⟩ := o3.ok i _ hs
    rw [h1] at g1
    injection g1 with g1
    injection g1 with g1
    exact g1.symm
  rw [ee] at f
  exact s.nx _ W1 _ σ (f ⟨h1, vs' ++ [v], upd_same, h3'.append (.one r1)⟩) k
/-- loops -/
theorem sk_for {wi : TI} {g : TG} (h : IK C B Γ wi fun l => ∃ I : Nat → List Sl → Prop, I 0 Γ ∧
      (∀ W1 i d Γ', l[i]? = some d → I i Γ' → GK C (B.keep W1) Γ' g d fun Γ2 => SK C (B.keep W1) Γ2 t { O with nx := I (i + 1), ct := I (i + 1), bk := O.nx }) ∧ ∀ Γ', I l.length Γ' → O.nx Γ') : SK C B Γ (tFor wi g t) O := fun W H σ e D' s =>
  h W H σ e _ fun J W1 H1 l s1 y ⟨I, i0, hs, hd⟩ => by
    have e1 := e.step s1
    refine ⟨fun i m σ H => m = l.length - i ∧ i ≤ l.length ∧ ∃ W2 Γ2, EnvOk C (B.keep W1) W2 H σ Γ2 ∧ I i Γ2, ⟨l.length, rfl, Nat.zero_le _, W1, Γ, e1.keep W1 (.refl _), i0⟩, ?_⟩
    rintro i m σ2 H2 ⟨rfl, hi, W2, Γ2, e2, i2⟩
    have e3 : EnvOk C B W2 H2 σ2 Γ2 := e2.unkeep e1.kp
    by_cases hlt : i < l.length
    · obtain ⟨y1, y2⟩ := y.go i W2 H2 hlt e2.kp e2.wh e2.pl
      refine .inr ⟨y1, fun σ' H' => ∃ W2 Γ2, EnvOk C (B.keep W1) W2 H' σ' Γ2 ∧ I (i + 1) Γ2, fun σ' H' z => ⟨l.length - (i + 1), by omega, rfl, hlt, z⟩, fun x H3 hy => ?_⟩
      obtain ⟨W3, d, s3, hd', r3⟩ := y2 x H3 hy
      refine hs W1 i d Γ2 hd' i2 W3 H3 σ2 x (e2.step s3) r3 _ fun Γ4 W4 H4 σ4 e4 k4 => ?_
      exact k4 W4 H4 σ4 e4 _ ⟨fun Γ5 W5 H5 σ5 e5 z => ⟨W5, Γ5, e5, z⟩, fun Γ5 d v W5 H5 σ5 e5 r5 z => s.rt Γ5 d v W5 H5 σ5 (e5.unkeep e1.kp) r5 z, fun Γ5 W5 H5 σ5 e5 z => s.nx Γ5 W5 H5 σ5 (e5.unkeep e1.kp) z, fun Γ5 W5 H5 σ5 e5 z => ⟨W5, Γ5, e5, z⟩⟩
    · have hh : i = l.length := by omega
      subst hh
      exact .inl ⟨y.stop H2 (e2.kp.trans e2.wh) (fun a o z => (e2.pl.rg a o z).1), s.nx Γ2 W2 H2 σ2 e3 (hd Γ2 i2)⟩
theorem sk_while {tc : TT} (I : Nat → List Sl → Prop) (h0 : ∃ m, I m Γ) (hs : ∀ m Γ', I m Γ' → TK C B Γ' tc fun b => (b = true → SK C B Γ' t { O with nx := fun Γ2 => ∃ m', m' < m ∧ I m' Γ2, ct := fun Γ2 => ∃ m', m' < m ∧ I m' Γ2, bk := O.nx }) ∧ (b = false → O.nx Γ')) :
    SK C B Γ (tWhile tc t) O := fun W H σ e D' s => by
  obtain ⟨m0, i0⟩ := h0
  refine ⟨fun m σ H => ∃ W2 Γ2, EnvOk C B W2 H σ Γ2 ∧ I m Γ2, ⟨m0, W, Γ, e, i0⟩, ?_⟩
  rintro m σ2 H2 ⟨W2, Γ2, e2, i2⟩
  refine hs m Γ2 i2 W2 H2 σ2 e2 _ fun b W3 H3 s3 k => ?_
  have e3 := e2.step s3
  cases b with
  | true =>
    rw [if_pos rfl]
    refine ⟨fun σ' H' => ∃ m', m' < m ∧ ∃ W2 Γ2, EnvOk C B W2 H' σ' Γ2 ∧ I m' Γ2, fun σ' H' z => z, k.1 rfl W3 H3 σ2 e3 _ ⟨fun Γ5 W5 H5 σ5 e5 ⟨m', z, z2⟩ => ⟨m', z, W5, Γ5, e5, z2⟩, fun Γ5 d v W5 H5 σ5 e5 r5 z => s.rt Γ5 d v W5 H5 σ5 e5 r5 z, fun Γ5 W5 H5 σ5 e5 z => s.nx Γ5 W5 H5 σ5 e5 z, fun Γ5 W5 H5 σ5 e5 ⟨m', z, z2⟩ => ⟨m', z, W5, Γ5, e5, z2⟩⟩⟩
  | false =>
    rw [if_neg Bool.false_ne_true]
    exact s.nx Γ2 W3 H3 σ2 e3 (k.2 rfl)
/-- what is walked -/
theorem yl_list {KK : PySem.W.Frag} {W1 : Hp} {a : Addr} {vs : List V} {l : List D} (ha : W1 a = some (.lst vs)) (r : RepL C B.P W1 vs l) : Yl C B (Itl KK a) W1 l where
  stop := fun H s _ => ⟨vs, SqL.of (s _ _ ha), Nat.le_of_eq r.length⟩
  go := fun i W H hi s1 s2 pl => by
    have hv : i < vs.length := by rw [r.length]; exact hi
    refine ⟨⟨vs, vs[i], SqL.of (s2 _ _ (s1 _ _ ha)), by simp [hv]⟩, fun x H' ⟨e, y⟩ => ?_⟩
    subst e
    obtain ⟨d, h1, h2⟩ := (r.mono s1).getV (y vs (SqL.of (s2 _ _ (s1 _ _ ha))))
    exact ⟨W, d, .refl s2, h1, h2⟩
theorem yl_tup {KK : PySem.W.Frag} {W1 : Hp} {a : Addr} {vs : List V} {l : List D} (ha : W1 a = some (.tup vs)) (r : RepL C B.P W1 vs l) : Yl C B (Itt KK a) W1 l where
  stop := fun H s _ => ⟨vs, SqT.of (s _ _ ha), Nat.le_of_eq r.length⟩
  go := fun i W H hi s1 s2 pl => by
    have hv : i < vs.length := by rw [r.length]; exact hi
    refine ⟨⟨vs, vs[i], SqT.of (s2 _ _ (s1 _ _ ha)), by simp [hv]⟩, fun x H' ⟨e, y⟩ => ?_⟩
    subst e
    obtain ⟨d, h1, h2⟩ := (r.mono s1).getV (y vs (SqT.of (s2 _ _ (s1 _ _ ha))))
    exact ⟨W, d, .refl s2, h1, h2⟩
def rangeD (lo : Int) (n : Nat) : List D := (List.range n).map fun (k : Nat) => .int (lo + (k : Int))
theorem yl_range {W1 : Hp} {lo : Int} {n : Nat} : Yl C B (Itr lo n) W1 (rangeD lo n) where
  stop := fun H s _ => by show n ≤ _; simp [rangeD]
  go := fun i W H hi s1 s2 pl => by
    have hi' : i < n := by simpa [rangeD] using hi
    refine ⟨hi', fun x H' ⟨e, y⟩ => ?_⟩
    subst e; subst y
    exact ⟨W, .int (lo + i), .refl s2, by simp [rangeD, hi'], .int _⟩
/-- a list or a tuple, by the universal rule -/
def iAny (KK : PySem.W.Frag) (te : TE) : TI := fun σ H R => iList KK te σ H R ∨ iTup KK te σ H R
theorem pi_any {X : Cx} {tg l : Expr} {tl : TE} (hl : PE X l tl) : PI X tg l (iAny X.K tl) := ⟨fun pins s σ H R I h => by
  rcases h with h | h
  · exact (pi_list hl).run pins s σ H R I h
  · exact (pi_tup hl).run pins s σ H R I h⟩
end
end G
end

section
set_option maxRecDepth 100000
set_option maxHeartbeats 2000000
/-! the data layer: what is walked, comprehensions, built-ins -/
namespace G
open PySem PySem.Spec PyProof.Rows L2

/-- a list or a tuple, by the value -/
def iSeq (KK : PySem.W.Frag) (te : TE) : TI := fun σ H R => te σ H fun x H1 => ∃ a, x = .ref a ∧ (((∃ xs, SqL KK H1 a xs) ∧ R (Itl KK a) H1) ∨ ((∃ xs, SqT KK H1 a xs) ∧ R (Itt KK a) H1))
theorem pi_seq {X : Cx} {tg l : Expr} {tl : TE} (hl : PE X l tl) : PI X tg l (iSeq X.K tl) := by
  refine ⟨fun pins s σ H R I h => ?_⟩
  refine thn (hl.run pins s σ H _ I h) fun v s1 ⟨x, H1, I1, r1, q1⟩ => ?_
  obtain ⟨a, e, q⟩ := q1
  subst e
  cases r1
  rcases q with ⟨⟨xs, hq⟩, q⟩ | ⟨⟨xs, hq⟩, q⟩
  · obtain ⟨its, rv, p, hz⟩ := I1.list hq
    refine wpAny_pyIter_list p.isList ?_
    refine ⟨s1.heap.objs.size, [s1.heap.objs.size], _, _, H1, rfl, I1.kept (t' := s1.toks) fun b o e => Heap.get?_push_of_some _ e, turn_list a _, ⟨_, Heap.get?_push_size _ rfl, rfl, rfl⟩, fun b hb => ?_, q⟩
    have e : b = s1.heap.objs.size := by simpa using hb
    subst e
    exact I1.fpOk (Nat.le_refl _) (I1.hok.fresh (Nat.le_refl _))
  · obtain ⟨its, rv, p, hz⟩ := I1.tuple hq
    refine wpAny_pyIter_tuple (show s1.heap.IsTuple a its.toArray from p) ?_
    refine ⟨s1.heap.objs.size, [s1.heap.objs.size], _, _, H1, rfl, I1.kept (t' := s1.toks) fun b o e => Heap.get?_push_of_some _ e, turn_tuple a _, ⟨_, Heap.get?_push_size _ rfl, rfl, rfl⟩, fun b hb => ?_, q⟩
    have e : b = s1.heap.objs.size := by simpa using hb
    subst e
    exact I1.fpOk (Nat.le_refl _) (I1.hok.fresh (Nat.le_refl _))

def enumD (l : List D) : List D := l.zipIdx.map fun p => .tup [.int (p.2 : Nat), p.1]
def zipD (l m : List D) : List D := (l.zip m).map fun p => .tup [p.1, p.2]

section
variable {C : Cl} {B : Bs} {Γ : List Sl} {ta tb te : TE} {K : List D → Prop} {KK : PySem.W.Frag}
/-- a list that is only read -/
theorem yl_mls {W1 : Hp} {a : Addr} {vs : List V} {l : List D} (ha : C.m a = some (.lst vs)) (r : RepL C B.P W1 vs l) : Yl C B (Itl KK a) W1 l where
  stop := fun H s z => ⟨vs, SqL.of (z _ _ ha), Nat.le_of_eq r.length⟩
  go := fun i W H hi s1 s2 pl => by
    have hv : i < vs.length := by rw [r.length]; exact hi
    have q : SqL KK H a vs := SqL.of (pl.rg _ _ ha).1
    refine ⟨⟨vs, vs[i], q, by simp [hv]⟩, fun x H' ⟨e, y⟩ => ?_⟩
    subst e
    obtain ⟨d, h1, h2⟩ := (r.mono s1).getV (y vs q)
    exact ⟨W, d, .refl s2, h1, h2⟩
theorem ik_seq (h : EK C B Γ te fun d => ∃ k l, d = Kd.d k l ∧ K l) : IK C B Γ (iSeq KK te) K := fun W H σ e R q =>
  h W H σ e _ fun d v W1 H1 s1 r1 ⟨k, l, e0, h1⟩ => by
    cases k with
    | l =>
      subst e0
      cases r1 with
      | lst ha r => exact ⟨_, rfl, .inl ⟨⟨_, SqL.of (s1.wh _ _ ha)⟩, q _ W1 H1 l s1 (yl_list ha r) h1⟩⟩
    | t =>
      subst e0
      cases r1 with
      | tup ha r => exact ⟨_, rfl, .inr ⟨⟨_, SqT.of (s1.wh _ _ ha)⟩, q _ W1 H1 l s1 (yl_tup ha r) h1⟩⟩
    | m =>
      subst e0
      cases r1 with
      | mls ha r => exact ⟨_, rfl, .inl ⟨⟨_, SqL.of ((e.pl.step s1).rg _ _ ha).1⟩, q _ W1 H1 l s1 (yl_mls ha r) h1⟩⟩
/-- the script -/
theorem yl_raw {W1 : Hp} {a : Addr} {o : Obj} {vs : List V} {l : List D} (ha : W1 a = some (.frz o (.lst vs))) (r : RepL C B.P W1 vs l) : Yl C B (Itl KK a) W1 l where
  stop := fun H s _ => ⟨vs, .inl (.inr ⟨o, s _ _ ha⟩), Nat.le_of_eq r.length⟩
  go := fun i W H hi s1 s2 pl => by
    have hv : i < vs.length := by rw [r.length]; exact hi
    have q : SqL KK H a vs := .inl (.inr ⟨o, s2 _ _ (s1 _ _ ha)⟩)
    refine ⟨⟨vs, vs[i], q, by simp [hv]⟩, fun x H' ⟨e, y⟩ => ?_⟩
    subst e
    obtain ⟨d, h1, h2⟩ := (r.mono s1).getV (y vs q)
    exact ⟨W, d, .refl s2, h1, h2⟩
theorem ik_raw (h : EK C B Γ te fun d => ∃ l, d = .raw l ∧ K l) : IK C B Γ (iSeq KK te) K := fun W H σ e R q =>
  h W H σ e _ fun d v W1 H1 s1 r1 ⟨l, e0, h1⟩ => by
    subst e0
    cases r1 with
    | raw ha r => exact ⟨_, rfl, .inl ⟨⟨_, .inl (.inr ⟨_, s1.wh _ _ ha⟩)⟩, q _ W1 H1 l s1 (yl_raw ha r) h1⟩⟩
theorem ik_range1 {ta : TA} (h : AK C B Γ ta fun l => ∃ j : Int, l = [.int j] ∧ -(2 ^ 62) ≤ j ∧ j < 2 ^ 62 ∧ K (rangeD 0 j.toNat)) : IK C B Γ (iRng1 ta) K := fun W H σ e R q =>
  h W H σ e _ fun l vs W1 H1 s1 r1 ⟨j, e0, h1, h2, k⟩ => by
    subst e0
    cases r1 with
    | cons r rr =>
      cases r; cases rr
      exact ⟨j, rfl, h1, h2, q _ W1 H1 _ s1 yl_range k⟩
theorem ik_range2 {ta : TA} (h : AK C B Γ ta fun l => ∃ i j : Int, l = [.int i, .int j] ∧ (-(2 ^ 62) ≤ i ∧ i < 2 ^ 62 ∧ -(2 ^ 62) ≤ j ∧ j < 2 ^ 62) ∧ K (rangeD i (j - i).toNat)) : IK C B Γ (iRng2 ta) K := fun W H σ e R q =>
  h W H σ e _ fun l vs W1 H1 s1 r1 ⟨i, j, e0, h1, k⟩ => by
    subst e0
    cases r1 with
    | cons r rr =>
      cases r
      cases rr with
      | cons r rr =>
        cases r; cases rr
        exact ⟨i, j, rfl, h1, q _ W1 H1 _ s1 yl_range k⟩
theorem yl_enum {W1 : Hp} {a : Addr} {vs : List V} {l : List D} (ha : W1 a = some (.lst vs)) (r : RepL C B.P W1 vs l) : Yl C B (Ite KK a) W1 (enumD l) where
  stop := fun H s _ => ⟨vs, SqL.of (s _ _ ha), by simp [enumD, r.length]⟩
  go := fun i W H hi s1 s2 pl => by
    have hi' : i < l.length := by simpa [enumD] using hi
    have hv : i < vs.length := by rw [r.length]; exact hi'
    refine ⟨⟨vs, vs[i], SqL.of (s2 _ _ (s1 _ _ ha)), by simp [hv]⟩, fun x H' ⟨T, x0, e1, e2, e3, y⟩ => ?_⟩
    subst e1; subst e3
    obtain ⟨d, h1, h2⟩ := (r.mono s1).getV (y vs (SqL.of (s2 _ _ (s1 _ _ ha))))
    have st := Stp.new (C := C) (P := B.P) (S := noS) (o := .tup [.int (i : Nat), x0]) s2 e2 pl.ne
    exact ⟨_, .tup [.int (i : Nat), d], st, by simp [enumD, h1], .tup upd_same (.cons (.int _) (.one (h2.mono st.ww)))⟩
theorem ik_enum {ta : TA} (h : AK C B Γ ta fun l => ∃ xs, l = [.lst xs] ∧ K (enumD xs)) : IK C B Γ (iEnum KK ta) K := fun W H σ e R q =>
  h W H σ e _ fun l vs W1 H1 s1 r1 ⟨xs, e0, k⟩ => by
    subst e0
    cases r1 with
    | cons r rr =>
      cases rr
      cases r with
      | lst ha r => exact ⟨_, _, rfl, SqL.of (s1.wh _ _ ha), q _ W1 H1 _ s1 (yl_enum ha r) k⟩
theorem yl_zipL {W1 : Hp} {a b : Addr} {vs ws : List V} {l m : List D} (ha : W1 a = some (.lst vs)) (hb : W1 b = some (.lst ws)) (r : RepL C B.P W1 vs l) (r2 : RepL C B.P W1 ws m) : Yl C B (Itz KK a b) W1 (zipD l m) where
  stop := fun H s _ => ⟨vs, ws, SqL.of (s _ _ ha), SqL.of (s _ _ hb), by
    simp only [zipD, List.length_map, List.length_zip, r.length, r2.length]
    omega⟩
  go := fun i W H hi s1 s2 pl => by
    have hi' : i < l.length ∧ i < m.length := by
      simp only [zipD, List.length_map, List.length_zip] at hi
      omega
    have hv : i < vs.length := by rw [r.length]; exact hi'.1
    have hw : i < ws.length := by rw [r2.length]; exact hi'.2
    refine ⟨⟨vs, ws, vs[i], ws[i], SqL.of (s2 _ _ (s1 _ _ ha)), SqL.of (s2 _ _ (s1 _ _ hb)), by simp [hv], by simp [hw]⟩, fun x H' ⟨T, x0, y0, e1, e2, e3, y, z⟩ => ?_⟩
    subst e1; subst e3
    obtain ⟨d, h1, h2⟩ := (r.mono s1).getV (y vs (SqL.of (s2 _ _ (s1 _ _ ha))))
    obtain ⟨d', h3, h4⟩ := (r2.mono s1).getV (z ws (SqL.of (s2 _ _ (s1 _ _ hb))))
    have st := Stp.new (C := C) (P := B.P) (S := noS) (o := .tup [x0, y0]) s2 e2 pl.ne
    exact ⟨_, .tup [d, d'], st, by simp [zipD, List.getElem?_zip_eq_some, h1, h3], .tup upd_same (.cons (h2.mono st.ww) (.one (h4.mono st.ww)))⟩
theorem yl_zipT {W1 : Hp} {a b : Addr} {vs ws : List V} {l m : List D} (ha : W1 a = some (.tup vs)) (hb : W1 b = some (.tup ws)) (r : RepL C B.P W1 vs l) (r2 : RepL C B.P W1 ws m) : Yl C B (RZ.ItzT KK a b) W1 (zipD l m) where
  stop := fun H s _ => ⟨vs, ws, SqT.of (s _ _ ha), SqT.of (s _ _ hb), by
    simp only [zipD, List.length_map, List.length_zip, r.length, r2.length]
    omega⟩
  go := fun i W H hi s1 s2 pl => by
    have hi' : i < l.length ∧ i < m.length := by
      simp only [zipD, List.length_map, List.length_zip] at hi
      omega
    have hv : i < vs.length := by rw [r.length]; exact hi'.1
    have hw : i < ws.length := by rw [r2.length]; exact hi'.2
    refine ⟨⟨vs, ws, vs[i], ws[i], SqT.of (s2 _ _ (s1 _ _ ha)), SqT.of (s2 _ _ (s1 _ _ hb)), by simp [hv], by simp [hw]⟩, fun x H' ⟨T, x0, y0, e1, e2, e3, y, z⟩ => ?_⟩
    subst e1; subst e3
    obtain ⟨d, h1, h2⟩ := (r.mono s1).getV (y vs (SqT.of (s2 _ _ (s1 _ _ ha))))
    obtain ⟨d', h3, h4⟩ := (r2.mono s1).getV (z ws (SqT.of (s2 _ _ (s1 _ _ hb))))
    have st := Stp.new (C := C) (P := B.P) (S := noS) (o := .tup [x0, y0]) s2 e2 pl.ne
    exact ⟨_, .tup [d, d'], st, by simp [zipD, List.getElem?_zip_eq_some, h1, h3], .tup upd_same (.cons (h2.mono st.ww) (.one (h4.mono st.ww)))⟩
theorem ik_zip {ta : TA} (h : AK C B Γ ta fun l => ∃ k xs ys, k ≠ .m ∧ l = [Kd.d k xs, Kd.d k ys] ∧ K (zipD xs ys)) : IK C B Γ (RZ.iZipA KK ta) K := fun W H σ e R q =>
  h W H σ e _ fun l vs W1 H1 s1 r1 ⟨k, xs, ys, km, e0, kk⟩ => by
    subst e0
    cases r1 with
    | cons r rr =>
      cases rr with
      | cons r' rr =>
        cases rr
        cases k with
        | m => exact absurd rfl km
        | l =>
          cases r with
          | lst ha r =>
            cases r' with
            | lst hb r2 => exact ⟨_, _, _, _, rfl, .inl ⟨SqL.of (s1.wh _ _ ha), SqL.of (s1.wh _ _ hb), q _ W1 H1 _ s1 (yl_zipL ha hb r r2) kk⟩⟩
        | t =>
          cases r with
          | tup ha r =>
            cases r' with
            | tup hb r2 => exact ⟨_, _, _, _, rfl, .inr ⟨SqT.of (s1.wh _ _ ha), SqT.of (s1.wh _ _ hb), q _ W1 H1 _ s1 (yl_zipT ha hb r r2) kk⟩⟩
theorem rev_at {α : Type} {l : List α} {i : Nat} (h : i < l.length) : l.reverse[i]? = l[l.length - 1 - i]? := List.getElem?_reverse h
theorem yl_revL {W1 : Hp} {a : Addr} {vs : List V} {l : List D} (ha : W1 a = some (.lst vs)) (r : RepL C B.P W1 vs l) : Yl C B (Itv KK a vs.length) W1 l.reverse where
  stop := fun H s _ => by show vs.length ≤ _; rw [List.length_reverse, r.length]; exact Nat.le_refl _
  go := fun i W H hi s1 s2 pl => by
    have hi' : i < l.length := by simpa using hi
    have hv : vs.length - 1 - i < vs.length := by have := r.length; omega
    refine ⟨⟨by rw [r.length]; exact hi', vs, vs[vs.length - 1 - i], SqL.of (s2 _ _ (s1 _ _ ha)), by simp [hv]⟩, fun x H' ⟨e, y⟩ => ?_⟩
    subst e
    obtain ⟨d, h1, h2⟩ := (r.mono s1).getV (y vs (SqL.of (s2 _ _ (s1 _ _ ha))))
    exact ⟨W, d, .refl s2, by rw [rev_at hi', ← r.length]; exact h1, h2⟩
theorem yl_revT {W1 : Hp} {a : Addr} {vs : List V} {l : List D} (ha : W1 a = some (.tup vs)) (r : RepL C B.P W1 vs l) : Yl C B (RT.ItvT KK a vs.length) W1 l.reverse where
  stop := fun H s _ => by show vs.length ≤ _; rw [List.length_reverse, r.length]; exact Nat.le_refl _
  go := fun i W H hi s1 s2 pl => by
    have hi' : i < l.length := by simpa using hi
    have hv : vs.length - 1 - i < vs.length := by have := r.length; omega
    refine ⟨⟨by rw [r.length]; exact hi', vs, vs[vs.length - 1 - i], SqT.of (s2 _ _ (s1 _ _ ha)), by simp [hv]⟩, fun x H' ⟨e, y⟩ => ?_⟩
    subst e
    obtain ⟨d, h1, h2⟩ := (r.mono s1).getV (y vs (SqT.of (s2 _ _ (s1 _ _ ha))))
    exact ⟨W, d, .refl s2, by rw [rev_at hi', ← r.length]; exact h1, h2⟩
theorem ik_rev (h : EK C B Γ te fun d => ∃ k l, d = Kd.d k l ∧ k ≠ .m ∧ K l.reverse) : IK C B Γ (RT.iRevA KK te) K := fun W H σ e R q =>
  h W H σ e _ fun d v W1 H1 s1 r1 ⟨k, l, e0, km, h1⟩ => by
    cases k with
    | m => exact absurd rfl km
    | l =>
      subst e0
      cases r1 with
      | lst ha r => exact ⟨_, _, rfl, .inl ⟨SqL.of (s1.wh _ _ ha), q _ W1 H1 _ s1 (yl_revL ha r) h1⟩⟩
    | t =>
      subst e0
      cases r1 with
      | tup ha r => exact ⟨_, _, rfl, .inr ⟨SqT.of (s1.wh _ _ ha), q _ W1 H1 _ s1 (yl_revT ha r) h1⟩⟩

/-! ### comprehensions -/
theorem wipe_set {σ : L2.St} {x : Option V} : ∀ {vs : List Nat} {i : Nat}, i ∈ vs → L2.wipe (σ.set i x) vs = L2.wipe σ vs
  | [], i, h => by cases h
  | v :: vs, i, h => by
    show (L2.wipe (σ.set i x) vs).set v none = (L2.wipe σ vs).set v none
    by_cases hv : v = i
    · subst hv
      have : ∀ (ws : List Nat) (τ : L2.St), (L2.wipe (τ.set v x) ws).set v none = (L2.wipe τ ws).set v none := by
        intro ws
        induction ws with
        | nil => intro τ; show (τ.set v x).set v none = τ.set v none; rw [List.set_set]
        | cons w ws ih =>
          intro τ
          show ((L2.wipe (τ.set v x) ws).set w none).set v none = ((L2.wipe τ ws).set w none).set v none
          by_cases hw : w = v
          · subst hw; rw [ih]
          · rw [List.set_comm _ _ hw, ih, List.set_comm _ _ (Ne.symm hw)]
      exact this vs σ
    · rcases List.mem_cons.mp h with e | h
      · exact absurd e.symm hv
      · rw [wipe_set h]
theorem wipe_wipe (σ : L2.St) : ∀ vs : List Nat, L2.wipe (L2.wipe σ vs) vs = L2.wipe σ vs := by
  have key : ∀ (ws vs : List Nat) (τ : L2.St), (∀ v ∈ ws, v ∈ vs) → L2.wipe (L2.wipe τ ws) vs = L2.wipe τ vs := by
    intro ws
    induction ws with
    | nil => intro vs τ _; rfl
    | cons w ws ih =>
      intro vs τ h
      show L2.wipe ((L2.wipe τ ws).set w none) vs = _
      rw [wipe_set (h w List.mem_cons_self)]
      exact ih vs τ fun v hv => h v (List.mem_cons_of_mem _ hv)
  exact fun vs => key vs vs σ fun _ h => h
/-- a comprehension's target: names among vs -/
def CG (C : Cl) (B : Bs) (Γ : List Sl) (g : TG) (d : D) (vs : List Nat) (K : List Sl → Prop) : Prop := ∀ W H σ v (ow : Nat → Addr), EnvOk C B W H σ Γ → Owns C B W H σ Γ ow → Rep C B.P W v d → ∀ Q : L2.St → Hp → Prop,
  (∀ Γ' σ', EnvOk C B W H σ' Γ' → (∃ ow', Owns C B W H σ' Γ' ow' ∧ ∀ i s, Γ'[i]? = some s → s.isO = true → ∃ j t, Γ[j]? = some t ∧ t.isO = true ∧ ow' i = ow j) → L2.wipe σ' vs = L2.wipe σ vs → K Γ' → Q σ' H) → g v σ H Q
def CGs (C : Cl) (B : Bs) (Γ : List Sl) (g : TGs) (l : List D) (vs : List Nat) (K : List Sl → Prop) : Prop := ∀ W H σ xs (ow : Nat → Addr), EnvOk C B W H σ Γ → Owns C B W H σ Γ ow → RepL C B.P W xs l → ∀ Q : L2.St → Hp → Prop,
  (∀ Γ' σ', EnvOk C B W H σ' Γ' → (∃ ow', Owns C B W H σ' Γ' ow' ∧ ∀ i s, Γ'[i]? = some s → s.isO = true → ∃ j t, Γ[j]? = some t ∧ t.isO = true ∧ ow' i = ow j) → L2.wipe σ' vs = L2.wipe σ vs → K Γ' → Q σ' H) → g xs σ H Q
theorem set_isO {i : Nat} {x : D} {a : Nat} {s : Sl} (h : (Γ.set i (.d x))[a]? = some s) (hs : s.isO = true) : Γ[a]? = some s := by
  by_cases ha : i = a
  · subst ha
    by_cases hi : i < Γ.length
    · rw [List.getElem?_set_self hi] at h; cases h; cases hs
    · rw [List.getElem?_eq_none (by simpa using hi)] at h; cases h
  · rw [List.getElem?_set_ne ha] at h; exact h
theorem cg_name {i : Nat} {d : D} {vs : List Nat} {K : List Sl → Prop} (k : K (Γ.set i (.d d))) (hi : isSlot Γ i = true := by rfl) (hv : i ∈ vs := by decide) : CG C B Γ (gName i) d vs K := fun W H σ v ow e o r Q q =>
  q _ _ (e.setD hi r) ⟨ow, o.setD e.len hi r, fun a s h hs => ⟨a, s, set_isO h hs, hs, rfl⟩⟩ (wipe_set hv) k
theorem cg_tup {n : Nat} {gs : TGs} {l : List D} {vs : List Nat} {K : List Sl → Prop} (hn : l.length = n) (h : CGs C B Γ gs l vs K) : CG C B Γ (gTup KK n gs) (.tup l) vs K := fun W H σ v ow e o r Q q => by
  cases r with
  | tup ha rl => exact ⟨_, _, rfl, SqT.of (e.wh _ _ ha), rl.length.trans hn, h W H σ _ ow e o rl Q q⟩
theorem cgs_nil {vs : List Nat} {K : List Sl → Prop} (k : K Γ) : CGs C B Γ gNil [] vs K := fun W H σ xs ow e o r Q q => by
  cases r
  exact ⟨rfl, q Γ σ e ⟨ow, o, fun i s h hs => ⟨i, s, h, hs, rfl⟩⟩ rfl k⟩
theorem cgs_cons {gs : TGs} {d : D} {l : List D} {i : Nat} {vs : List Nat} {K : List Sl → Prop} (h : CGs C B (Γ.set i (.d d)) gs l vs K) (hi : isSlot Γ i = true := by rfl) (hv : i ∈ vs := by decide) : CGs C B Γ (gCons (gName i) gs) (d :: l) vs K := fun W H σ xs ow e o r Q q => by
  cases r with
  | cons r1 r2 =>
    refine ⟨_, _, rfl, h W H _ _ ow (e.setD hi r1) (o.setD e.len hi r1) r2 Q fun Γ' σ' e' o' w k => q Γ' σ' e' ?_ (w.trans (wipe_set hv)) k⟩
    obtain ⟨ow', o', m⟩ := o'
    refine ⟨ow', o', fun a s h1 hs => ?_⟩
    obtain ⟨j, t, h2, h3, h4⟩ := m a s h1 hs
    exact ⟨j, t, set_isO h2 h3, h3, h4⟩
/-- [te for g in wi if tt]; J says what is made behind i items -/
theorem ef_lc {wi : TI} {g : TG} {tt : TT} {vs : List Nat} (h : IK C B Γ wi fun l => ∃ J : Nat → List D → Prop, J 0 [] ∧
      (∀ W1 i d acc, l[i]? = some d → J i acc → CG C (B.keep W1) (wipeG Γ vs) g d vs fun Γ2 => TK C (B.keep W1) Γ2 tt fun b => (b = true → EK C (B.keep W1) Γ2 te fun y => acc.length < sizeLine ∧ J (i + 1) (acc ++ [y])) ∧ (b = false → J (i + 1) acc)) ∧
      ∀ acc, J l.length acc → K acc) : EF C B Γ (tLc wi g tt te vs) K := fun W H σ e Q q =>
  h W H σ e _ fun It W1 H1 l s1 y ⟨J, j0, hs, hd⟩ Dl hDl => by
    have e1 := e.step s1
    obtain ⟨ow, o⟩ := e.ow
    have o1 := o.step s1
    have hW1 : W1 Dl = none := by
      cases z : W1 Dl with
      | none => rfl
      | some x => rw [s1.wh _ _ z] at hDl; cases hDl
    have hP : B.P ≠ some Dl := fun z => e1.pl.ne Dl z hDl
    have hH : H Dl = none := s1.free hDl
    have h0 : B.H0 Dl = none := e.stp.free hH
    have hn := o1.ne hDl
    have hc := o1.neC hDl
    obtain ⟨e2, o2⟩ := e1.poke (u := .lst []) o1 hW1 hP (.inl h0) hn hc
    have s2 : Stp C B.P noS W H W1 (upd H1 Dl (.lst [])) := s1.trans (Stp.own s1.wh hDl e1.pl.ne)
    refine ⟨fun i m H' => m = l.length - i ∧ i ≤ l.length ∧ ∃ W2 acc va, EnvOk C B W2 H' σ Γ ∧ Owns C B W2 H' σ Γ ow ∧ Same W1 W2 ∧ Stp C B.P noS W H W2 H' ∧ W2 Dl = none ∧ H' Dl = some (.lst va) ∧ RepL C B.P W2 va acc ∧ J i acc,
      ⟨l.length, rfl, Nat.zero_le _, W1, [], [], e2, o2, .refl _, s2, hW1, upd_same, .nil, j0⟩, ?_⟩
    rintro i m H2 ⟨rfl, hi, W2, acc, va, e3, o3, w12, st, d1, d2, d3, d4⟩
    by_cases hlt : i < l.length
    · obtain ⟨y1, y2⟩ := y.go i W2 H2 hlt w12 e3.wh e3.pl
      refine .inr ⟨y1, fun H' => ∃ W2 acc va, EnvOk C B W2 H' σ Γ ∧ Owns C B W2 H' σ Γ ow ∧ Same W1 W2 ∧ Stp C B.P noS W H W2 H' ∧ W2 Dl = none ∧ H' Dl = some (.lst va) ∧ RepL C B.P W2 va acc ∧ J (i + 1) acc, fun H' z => ⟨l.length - (i + 1), by omega, rfl, hlt, z⟩, fun x H3 hy => ?_⟩
      obtain ⟨W3, d, s3, hd', r3⟩ := y2 x H3 hy
      have e4 := (e3.step s3).wipe vs
      have o4 := (o3.step s3).wipe (e3.step s3).len vs
      refine hs W1 i d acc hd' d4 W3 H3 _ x ow (e4.keep W1 (w12.trans s3.ww)) ⟨o4.inj, o4.fr, o4.ok, o4.one, o4.nd, fun i cs p h1 h2 => let k := o4.cl i cs p h1 h2; ⟨k.w, k.np, k.h, k.at_⟩, o4.df⟩ r3 _ fun Γ5 σ5 e5 o5 w5 k5 => ⟨w5.trans (by rw [wipe_wipe]), ?_⟩
      refine k5 W3 H3 σ5 e5 _ fun b W6 H6 s6 k6 => ?_
      have s36 := s3.trans s6
      have hDl6 : H6 Dl = some (.lst va) := s36.hh _ _ d2 hP (fun z => nomatch z)
      have W6D : W6 Dl = none := (s36.old _ _ d2).trans d1
      cases b with
      | false => exact ⟨W6, acc, va, e3.step s36, o3.step s36, w12.trans s36.ww, st.trans s36, W6D, hDl6, d3.mono s36.ww, k6.2 rfl⟩
      | true =>
        refine k6.1 rfl W6 H6 σ5 (e5.step s6) _ fun yv v W7 H7 s7 r7 ⟨hz, k7⟩ => ?_
        have s37 := s36.trans s7
        have hDl7 : H7 Dl = some (.lst va) := s37.hh _ _ d2 hP (fun z => nomatch z)
        have W7D : W7 Dl = none := (s37.old _ _ d2).trans d1
        refine ⟨va, hDl7, by rw [d3.length]; exact hz, ?_⟩
        obtain ⟨e8, o8⟩ := (e3.step s37).poke (u := .lst (va ++ [v])) (o3.step s37) W7D hP (.inl h0) hn hc
        have st7 := st.trans s37
        refine ⟨W7, acc ++ [yv], va ++ [v], e8, o8, w12.trans s37.ww, ⟨st7.ww, e8.wh, fun a u q1 q2 q3 => ?_, fun a u q1 => ?_, st7.old, fun a q1 q2 => ?_⟩, W7D, upd_same, (d3.mono s37.ww).append (.one r7), k7⟩
        · rw [upd_ne (fun z => by subst z; rw [hH] at q1; cases q1)]
          exact st7.hh a u q1 q2 q3
        · rw [upd_ne (fun z => by subst z; rw [hH] at q1; cases q1)]
          exact st7.dom a u q1
        · rw [upd_ne (fun z => by subst z; exact hP q1)]
          exact st7.pool a q1 q2
    · have hh : i = l.length := by omega
      subst hh
      exact .inl ⟨y.stop H2 (w12.trans e3.wh) (fun a o z => (e3.pl.rg a o z).1), q acc Dl va W2 H2 st hH d1 d2 d3 (hd acc d4)⟩
theorem tk_yes {K : Bool → Prop} (k : K true) : TK C B Γ tYes K := fun W H σ e Q q => q true W H (.refl e.wh) k
end
end G
end

section
set_option maxRecDepth 100000
set_option maxHeartbeats 2000000
/-! list(reversed(a list)) -/
namespace GRv
open PySem PySem.Spec PyProof.Rows L2 RT
section
variable {prog : Program} {w : World} {A : Around} {E : Value → Shared → Prop} {s : Shared}
theorem init_rev {it l S : Addr} {items : Array Value} {R : Result → Shared → Prop} (hh : A.handled = none) (hit : s.heap.IsRevIter it l ((items.size : Int) - 1)) (hl : s.heap.IsList l items) (hne : l ≠ it) (hn : items.size ≤ sizeLine)
    (hSi : S ≠ it) (hSl : S ≠ l) (hS : s.heap.get? S = some { cls := .type "list", data := .seq #[] })
    (hR : ∀ (h' : Heap) (tk : Nat) (acc : Array Value) (c : Nat), (∀ b o, b ≠ it → b ≠ S → s.heap.get? b = some o → h'.get? b = some o) → h'.get? S = some { cls := .type "list", dict := none, data := .seq acc c, slots := #[] } →
      ItemsOf (fun i v => items[items.size - 1 - i]? = some v) acc items.size → R (.ok (.ret .none)) { s with heap := h', toks := tk }) :
    wpAny (model prog w) A.in1 (Builtin.«list.__init__» ⟨[.ref S, .ref it], []⟩)
      (fun fin s' => match fin with | .done f => R (.ok f) s' | .again c' => c'.quiet = true ∧ codeAny (model prog w) A c' R s') (fun e s' => R (.error e) s') s := by
  have W := (Walks.listRev (prog := prog) (w := w) (A := A.in1) hh it l hne items).toS
  have hSf : S ∉ [it, l] := by simp only [List.mem_cons, List.not_mem_nil, or_false, not_or]; exact ⟨hSi, hSl⟩
  show wpAny _ A.in1 (do let old ← Builtin.List.listItems (.ref S); Builtin.List.listUpdate (.ref S) (fun _ => #[]); letGo old.toList.reverse; Builtin.List.listExtendWith (.ref S) (.ref it) .none) _ _ s
  refine wpAny_bind ?_
  unfold Builtin.List.listItems
  refine wpAny_bind (wpAny_seqItems hS rfl (wpAny_pure ?_))
  show wpAny _ A.in1 (updateSeq S (fun _ => #[]) >>= fun _ => letGo (#[] : Array Value).toList.reverse >>= fun _ => Builtin.List.listExtendWith (.ref S) (.ref it) .none) _ _ s
  refine wpAny_bind (wpAny_updateSeq hS rfl ?_)
  have hS₂ := Heap.get?_update_self (Obj.mapSeq (fun _ => (#[] : Array Value))) hS rfl
  have oth : ∀ b o, b ≠ S → s.heap.get? b = some o → (s.heap.update S (Obj.mapSeq (fun _ => (#[] : Array Value)))).get? b = some o :=
    fun b o hb e => (Heap.get?_update_other _ _ (Ne.symm hb)).trans e
  refine wpAny_bind (wpAny_letGo ?_)
  generalize hh2 : s.heap.update S (Obj.mapSeq (fun _ => (#[] : Array Value))) = h2 at hS₂ oth
  have hit1 : h2.IsRevIter it l ((items.size : Int) - 1) := hit.at fun o e => oth it o (Ne.symm hSi) e
  have hl1 : h2.IsList l items := hl.at fun o e => oth l o (Ne.symm hSl) e
  have hT : ({ s with heap := h2 } : Shared).TypeIs (.ref it) "list_reverseiterator" := Heap.IsRevIter.typeIs (s := { s with heap := h2 }) hit1
  have h1 : Builtin.List.listSameRef (.ref S) (.ref it) = false := by simp [Builtin.List.listSameRef, hSi]
  show wpAny _ A.in1 (Builtin.List.listExtendWith (.ref S) (.ref it) .none) _ _ { s with heap := h2 }
  unfold Builtin.List.listExtendWith
  refine wpAny_bind (wpAny_typeOf hT ?_)
  rw [if_neg (by rw [h1]; decide)]
  refine wpAny_bind (wpAny_pyIter_revIter (s := { s with heap := h2 }) hit1 ?_)
  refine wpAny_bind (wpAny_holding ?_)
  unfold Builtin.List.listLengthHint
  refine wpAny_bind (wpAny_specialOf hT nolen_lri ?_)
  show wpAny _ A.in1 (specialOf (Value.ref it) (Str.ofString "__length_hint__") >>= _) _ _ _
  refine wpAny_bind (wpAny_specialOf hT hint_lri ?_)
  generalize hid : ("list_reverseiterator.__length_hint__" : String) = id0
  wp_delta
  rw [show splitId id0 = some ("list_reverseiterator", "__length_hint__") from by subst hid; decide +kernel]
  subst hid
  refine wpAny_bind (wpAny_isInstance (b := true) hT (by rw [isSubtype_type]; kernel_rfl) ?_)
  refine wpAny_pure ?_
  rw [if_neg (by decide)]
  have e0 : ((items.size : Nat) : Int) - 1 - ((0 : Nat) : Int) = (items.size : Int) - 1 := by omega
  refine wpAny_pure ⟨plainId_quiet F.plain_extend_loop _, codeAny_extend_loopS W hn _ hSf _ items.size 0 _ _ _ rfl (Nat.zero_le _) ⟨Nat.zero_le _, by rw [e0]; exact hit1, hl1⟩ hS₂ (ItemsOf.nil _) fun s' acc' c' hm hS' hacc => ?_⟩
  have q := hR s'.heap s'.toks acc' c' (fun b o hb hbS e => hm.heap b o (fun hmem => ?_) (oth b o hbS e)) hS' hacc
  · rw [Moved.eq_with hm]
    exact q
  · rcases List.mem_cons.mp hmem with e' | hmem
    · exact hbS e'
    · exact hb (List.mem_singleton.mp hmem)
theorem call_list_rev {it l : Addr} {items : Array Value} {Q : Value → Shared → Prop} (hh : A.handled = none) (hit : s.heap.IsRevIter it l ((items.size : Int) - 1)) (hl : s.heap.IsList l items) (hne : l ≠ it) (hn : items.size ≤ sizeLine)
    (hQ : ∀ (h' : Heap) (tk : Nat) (acc : Array Value) (c : Nat), (∀ b o, b ≠ it → s.heap.get? b = some o → h'.get? b = some o) → h'.get? s.heap.objs.size = some { cls := .type "list", dict := none, data := .seq acc c, slots := #[] } →
      ItemsOf (fun i v => items[items.size - 1 - i]? = some v) acc items.size → Q (.ref s.heap.objs.size) { s with heap := h', toks := tk }) :
    wpAny (model prog w) A (call (.type "list") [.ref it]) Q E s := by
  have hS : (s.heap.push { cls := .type "list", data := .seq #[] }).get? s.heap.objs.size = some { cls := .type "list", data := .seq #[] } := Heap.get?_push_size _ rfl
  obtain ⟨oi, hoi, _⟩ := id hit
  obtain ⟨ol, hol, _⟩ := id hl
  have hSi : s.heap.objs.size ≠ it := Nat.ne_of_gt (Heap.lt_size hoi)
  have hSl : s.heap.objs.size ≠ l := Nat.ne_of_gt (Heap.lt_size hol)
  refine callType_codes (Q₁ := fun obj s₁ => obj = .ref s.heap.objs.size ∧ s₁ = { s with heap := s.heap.push { cls := .type "list", data := .seq #[] } }) F.called_list (F.typeCall_list_1 _) F.entry_list_init
    (code_list_new _ ⟨rfl, rfl⟩) fun obj s₁ h₁ => ?_
  obtain ⟨rfl, rfl⟩ := h₁
  refine ⟨⟨_, hS, rfl⟩, F.args_list_init_2 _ _, init_rev (A := A.in1) (s := { s with heap := s.heap.push { cls := .type "list", data := .seq #[] } }) hh (hit.at fun o e => Heap.get?_push_of_some _ e) (hl.push _) hne hn hSi hSl hS fun h' tk acc c hk hS' hacc => ?_⟩
  exact ⟨rfl, hQ h' tk acc c (fun b o hb e => hk b o hb (Nat.ne_of_lt (Heap.lt_size e)) (Heap.get?_push_of_some _ e)) hS' hacc⟩
end
section
variable {X : Cx}
/-- list(reversed(x)), x a list -/
def tLstRev (K : PySem.W.Frag) (te : TE) : TE := fun σ H Q => te σ H fun v H1 => ∃ (a : Addr) (xs : List V), v = .ref a ∧ SqL K H1 a xs ∧ ∀ q, H1 q = none → Q (.ref q) (upd H1 q (.lst xs.reverse))
theorem pe_lstRev {e : Expr} {te : TE} {p p2 pos pos2 : Pos} (hc : X.calm = true) (hg : Gl X "list") (hm : X.mg "list" = none) (hg2 : Gl X "reversed") (hm2 : X.mg "reversed" = none) (he : PE X e te)
    (hs : starEach [e] X.env = (false, eval e X.env) :: starEach [] X.env := by rfl)
    (hs2 : starEach [.Call (.Name "reversed" p2) [e] [] pos2] X.env = (false, eval (.Call (.Name "reversed" p2) [e] [] pos2) X.env) :: starEach [] X.env := by rfl) :
    PE X (.Call (.Name "list" p) [.Call (.Name "reversed" p2) [e] [] pos2] [] pos) (tLstRev X.K te) := by
  refine ⟨fun pins s σ H Q I h => ?_⟩
  refine Call_ (ld_blt I hg hm boot_list (PyProof.Rows.callWith_type1 (args_cons (Call_ (ld_blt I hg2 hm2 PyProof.Rows.boot_reversed (PyProof.Rows.callWith_type1 (args_cons (thn (he.run pins s σ H _ I h) fun u s1 ⟨v, H1, I1, r1, q1⟩ => args_nil ?_) hs) hs rfl))) hs2) hs2 rfl))
  obtain ⟨a, xs, ev, hq, q⟩ := q1
  subst ev
  obtain rfl : u = Value.ref a := r1
  obtain ⟨its, rv, p', hz⟩ := I1.list hq
  refine call_reversed_list p'.isList (args_nil ?_)
  have k0 : ∀ b o, s1.heap.get? b = some o → (s1.heap.push (revObj a ((its.toArray.size : Int) - 1))).get? b = some o := fun b o e => Heap.get?_push_of_some _ e
  have I2 : Inv X pins σ H1 { s1 with heap := s1.heap.push (revObj a ((its.toArray.size : Int) - 1)) } := I1.kept (t' := s1.toks) k0
  obtain ⟨f0, f1, f2, f3, f4, f5⟩ := I1.fpOk (H' := H1) (b := s1.heap.objs.size) (Nat.le_refl _) (I1.hok.fresh (Nat.le_refl _))
  have hl := p'.isList
  obtain ⟨ol, hol, _⟩ := id hl
  have hne : a ≠ s1.heap.objs.size := Nat.ne_of_lt (Heap.lt_size hol)
  have hn : its.toArray.size ≤ sizeLine := by rw [List.size_toArray, ← rv.length]; exact hz
  refine call_list_rev (s := { s1 with heap := s1.heap.push (revObj a ((its.toArray.size : Int) - 1)) }) (I1.ok.hd hc) ⟨_, Heap.get?_push_size _ rfl, rfl, rfl⟩ (hl.push _) hne hn fun h' tk acc c hk hS hi => ?_
  have hsz : (s1.heap.push (revObj a ((its.toArray.size : Int) - 1))).objs.size = s1.heap.objs.size + 1 := Heap.size_push _ _
  have hv := vals_rev rv hi
  have hfr : H1 (s1.heap.push (revObj a ((its.toArray.size : Int) - 1))).objs.size = none := I2.hok.fresh (Nat.le_refl _)
  have new : ObjOk X.prog X.w (upd H1 (s1.heap.push (revObj a ((its.toArray.size : Int) - 1))).objs.size (.lst xs.reverse)) h' (s1.heap.push (revObj a ((its.toArray.size : Int) - 1))).objs.size (.lst xs.reverse) :=
    ⟨by rw [List.length_reverse]; exact hz, acc.toList, c, hv, by rw [Array.toArray_toList]; exact hS⟩
  exact ⟨.ref _, upd H1 _ (.lst xs.reverse), I2.turnedNew (t' := tk) (ch := [s1.heap.objs.size]) (fun b o hb e => hk b o (by simpa using hb) e) (fun b hb => by
    have e : b = s1.heap.objs.size := by simpa using hb
    subst e
    exact ⟨f0, f1, f2, f3, f4, f5⟩) (Nat.le_refl _) new, rfl, q _ hfr⟩
end
end GRv
end

section
set_option maxRecDepth 100000
set_option maxHeartbeats 2000000
/-! the data layer: operators, built-ins, defs -/
namespace G
open PySem PySem.Spec PyProof.Rows L2

section
variable {C : Cl} {B : Bs} {Γ : List Sl} {ta tb te : TE} {K : D → Prop} {KK : PySem.W.Frag}
/-- a built-in's call on one sequence -/
def LK (C : Cl) (B : Bs) (r : List V → Hp → VK → Prop) (k : Kd) (l : List D) (K : D → Prop) : Prop := ∀ W H a vs, Same W H → PlOk C B.P W H → H a = some (k.ho vs) → B.P ≠ some a → (k = .t → W a = some (.tup vs)) → RepL C B.P W vs l → ∀ Q : VK, (∀ d v W' H', Stp C B.P noS W H W' H' → Rep C B.P W' v d → K d → Q v H') → r [.ref a] H Q
theorem ek_cbL {r : List V → Hp → VK → Prop} (h : EL C B Γ ta fun k l => LK C B r k l K) : EK C B Γ (tCB r (tCons ta tNil)) K := fun W H σ e Q q =>
  h W H σ e _ fun k l a vs W1 H1 s1 ha hP hT r1 h1 => h1 W1 H1 a vs s1.wh (e.pl.step s1) ha hP hT r1 Q fun d v W3 H3 s3 r3 kk => q d v W3 H3 (s1.trans s3) r3 kk
/-- len -/
def rLenU (K : PySem.W.Frag) : List V → Hp → VK → Prop := fun xs H Q => ∃ x n, xs = [x] ∧ LenV K x H n ∧ Q (.int n) H
theorem cr_lenU {X : Cx} : CallR X (.builtin "len") (rLenU X.K) := call_len
theorem lk_len {k : Kd} {l : List D} (h : K (.int (l.length : Nat))) : LK C B (rLenU KK) k l K := fun W H a vs hw pl ha hP hT r Q q => by
  refine ⟨_, vs.length, rfl, ?_, q _ _ W H (.refl hw) (.int _) (by rw [r.length]; exact h)⟩
  cases k with
  | l => exact .inl ⟨vs, SqL.of ha, rfl⟩
  | t => exact .inr ⟨vs, SqT.of ha, rfl⟩
  | m => exact .inl ⟨vs, SqL.of ha, rfl⟩
theorem ek_len (h : EL C B Γ ta fun _ l => K (.int (l.length : Nat))) : EK C B Γ (tCB (rLenU KK) (tCons ta tNil)) K :=
  ek_cbL fun W H σ e Q q => h W H σ e Q fun k l a vs W' H' s ha hP hT r kk => q k l a vs W' H' s ha hP hT r (lk_len kk)
/-- list(x), tuple(x) -/
def rListU (K : PySem.W.Frag) : List V → Hp → VK → Prop := fun xs H Q => ∃ p ys, xs = [.ref p] ∧ (SqL K H p ys ∨ SqT K H p ys) ∧ ∀ l, H l = none → Q (.ref l) (upd H l (.lst ys))
def rTupU (K : PySem.W.Frag) : List V → Hp → VK → Prop := fun xs H Q => ∃ p ys, xs = [.ref p] ∧ ((SqL K H p ys ∧ ∀ l, H l = none → Q (.ref l) (upd H l (.tup ys))) ∨ (SqT K H p ys ∧ Q (.ref p) H))
theorem cr_listU {X : Cx} : CallR X (.type "list") (rListU X.K) := call_list_of
theorem cr_tupU {X : Cx} : CallR X (.type "tuple") (rTupU X.K) := call_tuple_of
theorem ef_list {K : List D → Prop} (h : EL C B Γ ta fun _ l => K l) : EF C B Γ (tCB (rListU KK) (tCons ta tNil)) K := fun W H σ e Q q =>
  h W H σ e _ fun k l a vs W1 H1 s1 ha hP hT r1 h1 => by
    refine ⟨a, vs, rfl, ?_, fun p hp => ?_⟩
    · cases k with
      | l => exact .inl (SqL.of ha)
      | t => exact .inr (SqT.of ha)
      | m => exact .inl (SqL.of ha)
    · have s2 := Stp.own (C := C) (P := B.P) (S := noS) (o := .lst vs) s1.wh hp (e.pl.step s1).ne
      have hW : W1 p = none := by
        cases z : W1 p with
        | none => rfl
        | some o => rw [s1.wh _ _ z] at hp; cases hp
      exact q l p vs _ _ (s1.trans s2) (s1.free hp) hW upd_same r1 h1
theorem ek_tuple (h : EL C B Γ ta fun _ l => K (.tup l)) : EK C B Γ (tCB (rTupU KK) (tCons ta tNil)) K := fun W H σ e Q q =>
  h W H σ e _ fun k l a vs W1 H1 s1 ha hP hT r1 h1 => by
    cases k with
    | l =>
      refine ⟨a, vs, rfl, .inl ⟨SqL.of ha, fun p hp => ?_⟩⟩
      have s2 := Stp.new (C := C) (P := B.P) (S := noS) (o := .tup vs) s1.wh hp (e.pl.step s1).ne
      exact q _ _ _ _ (s1.trans s2) (.tup upd_same (r1.mono s2.ww)) h1
    | t => exact ⟨a, vs, rfl, .inr ⟨SqT.of ha, q _ _ W1 H1 s1 (.tup (hT rfl) r1) h1⟩⟩
    | m =>
      refine ⟨a, vs, rfl, .inl ⟨SqL.of ha, fun p hp => ?_⟩⟩
      have s2 := Stp.new (C := C) (P := B.P) (S := noS) (o := .tup vs) s1.wh hp (e.pl.step s1).ne
      exact q _ _ _ _ (s1.trans s2) (.tup upd_same (r1.mono s2.ww)) h1
/-- list(reversed(x)) -/
theorem ef_lstRev {K : List D → Prop} (h : EL C B Γ ta fun k l => k = .l ∧ K l.reverse) : EF C B Γ (GRv.tLstRev KK ta) K := fun W H σ e Q q =>
  h W H σ e _ fun k l a vs W1 H1 s1 ha hP hT r1 ⟨hk, h1⟩ => by
    subst hk
    refine ⟨a, vs, rfl, SqL.of ha, fun p hp => ?_⟩
    have s2 := Stp.own (C := C) (P := B.P) (S := noS) (o := .lst vs.reverse) s1.wh hp (e.pl.step s1).ne
    have hW : W1 p = none := by
      cases z : W1 p with
      | none => rfl
      | some o => rw [s1.wh _ _ z] at hp; cases hp
    exact q l.reverse p vs.reverse _ _ (s1.trans s2) (s1.free hp) hW upd_same r1.reverse h1
/-- sum, all, any -/
theorem ek_sum (h : EL C B Γ ta fun k l => k = .l ∧ ∃ ns : List Int, l = ns.map D.int ∧ K (.int ns.sum)) : EK C B Γ (tCB (rSum KK) (tCons ta tNil)) K := fun W H σ e Q q =>
  h W H σ e _ fun k l a vs W1 H1 s1 ha hP hT r1 ⟨hk, ns, hl, h1⟩ => by
    subst hk; subst hl
    have e0 := r1.ints
    subst e0
    exact ⟨a, ns, rfl, SqL.of ha, q _ _ W1 H1 s1 (.int _) h1⟩
theorem ek_all (h : EL C B Γ ta fun k l => k = .l ∧ ∃ bs : List Bool, l = bs.map D.bl ∧ K (.bl (bs.all id))) : EK C B Γ (tCB (rAll KK) (tCons ta tNil)) K := fun W H σ e Q q =>
  h W H σ e _ fun k l a vs W1 H1 s1 ha hP hT r1 ⟨hk, ns, hl, h1⟩ => by
    subst hk; subst hl
    have e0 := r1.bls
    subst e0
    exact ⟨a, ns, rfl, SqL.of ha, q _ _ W1 H1 s1 (.bl _) h1⟩
theorem ek_any (h : EL C B Γ ta fun k l => k = .l ∧ ∃ bs : List Bool, l = bs.map D.bl ∧ K (.bl (bs.any id))) : EK C B Γ (tCB (rAny KK) (tCons ta tNil)) K := fun W H σ e Q q =>
  h W H σ e _ fun k l a vs W1 H1 s1 ha hP hT r1 ⟨hk, ns, hl, h1⟩ => by
    subst hk; subst hl
    have e0 := r1.bls
    subst e0
    exact ⟨a, ns, rfl, SqL.of ha, q _ _ W1 H1 s1 (.bl _) h1⟩
/-- gcd, abs, int -/
theorem ck_gcd {a b : Int} (k : K (.int ((Nat.gcd a.natAbs b.natAbs : Nat) : Int))) : CK C B rGcd [.int a, .int b] K := fun W H hw pl vs r Q q => by
  cases r with
  | cons r1 r2 =>
    cases r1
    cases r2 with
    | cons r1 r2 =>
      cases r1; cases r2
      exact ⟨a, b, rfl, q _ _ W H (.refl hw) (.int _) k⟩
def rAbs : List V → Hp → VK → Prop := fun xs H Q => ∃ i, xs = [.int i] ∧ Q (.int (if i < 0 then -i else i)) H
theorem cr_abs {X : Cx} : CallR X (.builtin "abs") rAbs := call_abs
theorem ck_abs {a : Int} (k : K (.int (if a < 0 then -a else a))) : CK C B rAbs [.int a] K := fun W H hw pl vs r Q q => by
  cases r with
  | cons r1 r2 =>
    cases r1; cases r2
    exact ⟨a, rfl, q _ _ W H (.refl hw) (.int _) k⟩
def rInt1 : List V → Hp → VK → Prop := fun xs H Q => (∃ i, xs = [.int i] ∧ Q (.int i) H) ∨ ∃ k, xs = [.bl k] ∧ Q (.int (if k then 1 else 0)) H
theorem cr_int1 {X : Cx} : CallR X (.type "int") rInt1 := call_int1
theorem ck_int {a : Int} (k : K (.int a)) : CK C B rInt1 [.int a] K := fun W H hw pl vs r Q q => by
  cases r with
  | cons r1 r2 =>
    cases r1; cases r2
    exact .inl ⟨a, rfl, q _ _ W H (.refl hw) (.int _) k⟩
/-- isinstance -/
structure InsF (KK : PySem.W.Frag) (A : Addr) : Prop where
  cl : Cls KK A
  ha : PySem.W.findIn KK (.ref A) "__class__" = some (some (.builtin "object.__class__"))
  hn : PySem.W.specialIn KK (.builtin "object.__class__") "__get__" = some (some (.builtin "getset_descriptor.__get__"))
  htk : PySem.W.takesIn KK (.builtin "object.__class__") = some true
  hm : PySem.W.mroIn KK A (.type "object") = some true
inductive TyD (C : Cl) (KK : PySem.W.Frag) : D → Value → Prop where
  | non : TyD C KK .non (.type "NoneType")
  | bl (b : Bool) : TyD C KK (.bl b) (.type "bool")
  | int (i : Int) : TyD C KK (.int i) (.type "int")
  | str (s : Str) : TyD C KK (.str s) (.type "str")
  | lst (l : List D) : TyD C KK (.lst l) (.type "list")
  | tup (l : List D) : TyD C KK (.tup l) (.type "tuple")
  | mls (l : List D) : TyD C KK (.mls l) (.type "list")
  | dic (l : List (Key × D)) : TyD C KK (.dic l) (.type "dict")
  | frac (q : Rat) (h : InsF KK C.frac) : TyD C KK (.frac q) (.ref C.frac)
  | obj (c : Nat) (l : List (Str × D)) (h : InsF KK (C.cls c)) : TyD C KK (.obj c l) (.ref (C.cls c))
theorem TyD.tyx {P : Option Addr} {W H : Hp} {v : V} {d : D} {t : Value} (h : TyD C KK d t) (hw : Same W H) (hm : Same C.m H) (r : Rep C P W v d) : TyX KK H v t := by
  cases h with
  | non => cases r; exact .base .non
  | bl b => cases r; exact .base (.bl b)
  | int b => cases r; exact .base (.int b)
  | str b => cases r; exact .base (.str b)
  | lst l => cases r with | lst ha _ => exact .base (.lst (hw _ _ ha))
  | tup l => cases r with | tup ha _ => exact .base (.tup (hw _ _ ha))
  | mls l => cases r with | mls ha _ => exact .base (.lst (hm _ _ ha))
  | dic l => cases r with | dic ha _ _ => exact .base (.dK (hw _ _ ha))
  | frac q h => cases r with | frac ha => exact .base (.ins (hw _ _ ha) h.cl h.ha h.hn h.htk h.hm)
  | obj c l h => cases r with | obj ha _ _ => exact .base (.ins (hw _ _ ha) h.cl h.ha h.hn h.htk h.hm)
inductive ClsD : D → Value → Prop where
  | ty (n : String) : ClsD (.ty n) (.type n)
  | cls (a : Addr) : ClsD (.cls a) (.ref a)
theorem ClsD.v {P : Option Addr} {W : Hp} {v : V} {d : D} {u : Value} (h : ClsD d u) (r : Rep C P W v d) : ClsV v u := by
  cases h with
  | ty n => cases r; exact .ty n
  | cls a => cases r; exact .own a
theorem ClsD.vs {P : Option Addr} {W : Hp} : ∀ {vs : List V} {l : List D} {us : List Value}, Paired ClsD l us → RepL C P W vs l → Paired ClsV vs us
  | _, _, _, .nil, .nil => .nil
  | _, _, _, .cons h t, .cons r s => .cons (h.v r) (ClsD.vs t s)
def rIsU (K : PySem.W.Frag) : List V → Hp → VK → Prop := fun xs H Q => rIsi K xs H Q ∨ rIsiT K xs H Q
theorem cr_isU {X : Cx} : CallR X (.builtin "isinstance") (rIsU X.K) := CallR.or call_isi call_isiT
theorem ck_is {d c : D} {t u : Value} {b : Bool} (ht : TyD C KK d t) (hc : ClsD c u) (hk : PySem.W.kitOne KK t u = some b) (k : K (.bl b)) : CK C B (rIsU KK) [d, c] K := fun W H hw pl vs r Q q => by
  cases r with
  | cons r1 r2 =>
    cases r2 with
    | cons r2 r3 =>
      cases r3
      exact .inl ⟨_, _, t, u, b, rfl, hc.v r2, ht.tyx hw (fun a o z => (pl.rg a o z).1) r1, hk, q _ _ W H (.refl hw) (.bl _) k⟩
theorem ck_isT {d : D} {cs : List D} {t : Value} {us : List Value} {b : Bool} (ht : TyD C KK d t) (hc : Paired ClsD cs us) (hk : PySem.W.kitAny KK t us = some b) (k : K (.bl b)) : CK C B (rIsU KK) [d, .tup cs] K := fun W H hw pl vs r Q q => by
  cases r with
  | cons r1 r2 =>
    cases r2 with
    | cons r2 r3 =>
      cases r3
      cases r2 with
      | tup ha rl => exact .inr ⟨_, _, _, t, us, b, rfl, hw _ _ ha, ClsD.vs hc rl, ht.tyx hw (fun a o z => (pl.rg a o z).1) r1, hk, q _ _ W H (.refl hw) (.bl _) k⟩
/-- a built-in class, an own class as a value -/
theorem ek_ty {n : String} (k : K (.ty n)) : EK C B Γ (tC (.ty n)) K := fun W H σ e Q q => q _ _ W H (.refl e.wh) (.ty n) k
theorem ek_cls {a : Addr} (k : K (.cls a)) : EK C B Γ (tC (.ref a)) K := fun W H σ e Q q => q _ _ W H (.refl e.wh) (.cls a) k
end

/-! ### an operator of an own class, both sides of it -/
def rOwn (C : Addr) (sp : Sp) : R2 := fun x y H Q => ∃ a b dx dy fs gs, x = .ref a ∧ y = .ref b ∧ H a = some (.ins C dx fs) ∧ H b = some (.ins C dy gs) ∧ sp [x, y] H Q E0
theorem op_own {X : Cx} {CX : CXT} {n : Nat} {A f : Addr} {fd : FuncData} {ps : List Str} {sp : Sp} {op : Operator} (F : FnOk X.prog X.w X.K X.mg X.base CX n f fd ps sp)
    (hs : PySem.W.findIn X.K (.ref A) (PySem.dunder op.info.2) = some (some (.ref f))) (hf : PySem.W.isFn X.K (.ref f) = true) (hc : PySem.W.selfFirst X.K A = true) (hb : Binds X.K fd ps []) (hx : Passes CX X E0) (hr : Room n X.A) :
    OpR X (binaryOp op) (rOwn A sp) := by
  intro pins s σ H x y v u Q I rx ry h
  obtain ⟨a, b, dx, dy, fs, gs, rfl, rfl, ha, hb', hsp⟩ := h
  cases rx
  cases ry
  obtain ⟨mA, J, _⟩ := ins_get I.hok ha
  obtain ⟨mB, J', _⟩ := ins_get I.hok hb'
  obtain ⟨od, J, _⟩ := J.look
  obtain ⟨od', J', _⟩ := J'.look
  obtain ⟨m, hF⟩ := I.fr
  refine PySem.W.binop_K (op := op) hF I.ok.mod.kin J J'.type hc hs hf ?_
  have r2 : Vals [V.ref a, V.ref b] [Value.ref a, Value.ref b] := .cons rfl (.cons rfl .nil)
  refine thn (run_fn (us := [.ref a, .ref b]) (vs := [.ref a, .ref b]) F hr hb .nil hx I r2 hsp) fun z s' hz => ?_
  obtain ⟨v, H', I', rv, q⟩ := hz
  have e : EP X pins σ Q z s' := ⟨v, H', I', rv, q⟩
  cases v with
  | non => cases rv; exact e
  | bl b => cases rv; exact e
  | int i => obtain ⟨t, rfl⟩ := rv; exact e
  | str i => obtain ⟨t, rfl⟩ := rv; exact e
  | byt i => obtain ⟨t, rfl⟩ := rv; exact e
  | flt i => obtain ⟨t, rfl⟩ := rv; exact e
  | ref a => cases rv; exact e
  | ty n => cases rv; exact e
section
variable {C : Cl} {B : Bs} {Γ : List Sl} {ta tb te : TE} {K : D → Prop} {KK : PySem.W.Frag}
theorem rk_own {S : List D → (D → Prop) → Prop} {p q : Rat} (h : S [.frac p, .frac q] K) : RK C B (rOwn C.frac (SpOf C S)) (.frac p) (.frac q) K := fun W H hw pl v1 v2 r1 r2 Q k => by
  obtain ⟨a, dx, e1, ha⟩ := rep_frac r1
  obtain ⟨b, dy, e2, hb⟩ := rep_frac r2
  exact ⟨a, b, dx, dy, _, _, e1, e2, hw _ _ ha, hw _ _ hb, B.P, W, _, K, hw, pl, .cons r1 (.one r2), h, fun d v W' H' kd s r => k d v W' H' s r kd⟩
/-! ### all forms of an operator -/
def rAddI : R2 := rI0 fun i j => .int (i + j)
def rSubI : R2 := rI0 fun i j => .int (i - j)
def rMulI : R2 := rI CMulW fun i j => .int (i * j)
/-- int, then own -/
def rU (r r' : R2) : R2 := fun x y H Q => r x y H Q ∨ r' x y H Q
theorem op_U {X : Cx} {f : Value → Value → Sem Value} {r r' : R2} (h : OpR X f r) (h' : OpR X f r') : OpR X f (rU r r') := OpR.or h h'
theorem rk_U1 {r r' : R2} {d1 d2 : D} (h : RK C B r d1 d2 K) : RK C B (rU r r') d1 d2 K := RK.or1 h
theorem rk_U2 {r r' : R2} {d1 d2 : D} (h : RK C B r' d1 d2 K) : RK C B (rU r r') d1 d2 K := RK.or2 h
theorem op_addI {X : Cx} : OpR X (binaryOp .Add) rAddI := op_add
theorem op_subI {X : Cx} : OpR X (binaryOp .Sub) rSubI := op_sub
theorem op_mulI {X : Cx} : OpR X (binaryOp .Mult) rMulI := op_mulW
theorem rk_add {i j : Int} (k : K (.int (i + j))) : RK C B rAddI (.int i) (.int j) K := rk_I0 (d := .int (i + j)) (fun _ => .int _) k
theorem rk_sub {i j : Int} (k : K (.int (i - j))) : RK C B rSubI (.int i) (.int j) K := rk_I0 (d := .int (i - j)) (fun _ => .int _) k
theorem rk_mul {i j : Int} (h : CMulW i j) (k : K (.int (i * j))) : RK C B rMulI (.int i) (.int j) K := rk_I (d := .int (i * j)) (fun _ => .int _) h k
def rDivI : R2 := rI CDivW fun i j => .int (i / j)
theorem op_divI {X : Cx} : OpR X (binaryOp .FloorDiv) rDivI := op_fdivW
theorem rk_div {i j : Int} (h : CDivW i j) (k : K (.int (i / j))) : RK C B rDivI (.int i) (.int j) K := rk_I (d := .int (i / j)) (fun _ => .int _) h k
def rModI : R2 := rI (fun _ j => 0 < j) fun i j => .int (i % j)
theorem op_modI {X : Cx} : OpR X (binaryOp .Mod) rModI := op_mod
theorem rk_mod {i j : Int} (h : 0 < j) (k : K (.int (i % j))) : RK C B rModI (.int i) (.int j) K := rk_I (d := .int (i % j)) (fun _ => .int _) h k
def rLtI : R2 := rI0 fun i j => .bl (decide (i < j))
def rLeI : R2 := rI0 fun i j => .bl (decide (i ≤ j))
def rGtI : R2 := rI0 fun i j => .bl (decide (j < i))
def rGeI : R2 := rI0 fun i j => .bl (decide (j ≤ i))
theorem op_ltI {X : Cx} : OpR X (compareOp .Lt) rLtI := op_lt
theorem op_leI {X : Cx} : OpR X (compareOp .LtE) rLeI := op_le
theorem op_gtI {X : Cx} : OpR X (compareOp .Gt) rGtI := op_gt
theorem op_geI {X : Cx} : OpR X (compareOp .GtE) rGeI := op_ge
theorem rk_lt {i j : Int} (k : K (.bl (decide (i < j)))) : RK C B rLtI (.int i) (.int j) K := rk_I0 (d := .bl (decide (i < j))) (fun _ => .bl _) k
theorem rk_le {i j : Int} (k : K (.bl (decide (i ≤ j)))) : RK C B rLeI (.int i) (.int j) K := rk_I0 (d := .bl (decide (i ≤ j))) (fun _ => .bl _) k
theorem rk_gt {i j : Int} (k : K (.bl (decide (j < i)))) : RK C B rGtI (.int i) (.int j) K := rk_I0 (d := .bl (decide (j < i))) (fun _ => .bl _) k
theorem rk_ge {i j : Int} (k : K (.bl (decide (j ≤ i)))) : RK C B rGeI (.int i) (.int j) K := rk_I0 (d := .bl (decide (j ≤ i))) (fun _ => .bl _) k
theorem rk_eqI {i j : Int} (k : K (.bl (decide (i = j)))) : RK C B rEq (.int i) (.int j) K := rk_eq (v1 := .int i) (v2 := .int j) rfl rfl rfl (by
  rw [show decide (V.int i = V.int j) = decide (i = j) from decide_eq_decide.mpr ⟨fun h => by injection h, fun h => by rw [h]⟩]
  exact k)
theorem rk_neI {i j : Int} (k : K (.bl (!decide (i = j)))) : RK C B rNe (.int i) (.int j) K := rk_ne (v1 := .int i) (v2 := .int j) rfl rfl rfl (by
  rw [show decide (V.int i = V.int j) = decide (i = j) from decide_eq_decide.mpr ⟨fun h => by injection h, fun h => by rw [h]⟩]
  exact k)
def rIsN : R2 := fun x y H Q => y = .non ∧ Q (.bl (decide (x = .non))) H
def rNotN : R2 := fun x y H Q => y = .non ∧ Q (.bl (!decide (x = .non))) H
theorem op_isNon {X : Cx} : OpR X (compareOp .Is) rIsN := op_isN
theorem op_notNon {X : Cx} : OpR X (compareOp .IsNot) rNotN := op_notN
def D.isN : D → Bool
  | .non => true
  | _ => false
theorem rep_isN {P : Option Addr} {W : Hp} {v : V} {d : D} (r : Rep C P W v d) : decide (v = .non) = d.isN := by
  cases r <;> rfl
theorem rk_isN {d : D} (k : K (.bl d.isN)) : RK C B rIsN d .non K := fun W H hw pl v1 v2 r1 r2 Q q => by
  cases r2
  exact ⟨rfl, q _ _ W H (.refl hw) (.bl _) (by rw [rep_isN r1]; exact k)⟩
theorem rk_notN {d : D} (k : K (.bl (!d.isN))) : RK C B rNotN d .non K := fun W H hw pl v1 v2 r1 r2 Q q => by
  cases r2
  exact ⟨rfl, q _ _ W H (.refl hw) (.bl _) (by rw [rep_isN r1]; exact k)⟩
/-- chains -/
theorem ek_chain {r r' : R2} {tc : TE} (h : EK C B Γ ta fun d1 => EK C B Γ tb fun d2 => RK C B r d1 d2 fun z => ∃ b, z = .bl b ∧ (b = true → EK C B Γ tc fun d3 => RK C B r' d2 d3 K) ∧ (b = false → K (.bl false))) : EK C B Γ (tChain r r' ta tb tc) K := fun W H σ e Q q =>
  h W H σ e _ fun d1 v1 W1 H1 s1 r1 h1 => h1 W1 H1 σ (e.step s1) _ fun d2 v2 W2 H2 s2 r2 h2 =>
    h2 W2 H2 s2.wh ((e.pl.step s1).step s2) v1 v2 (r1.mono s2.ww) r2 _ fun z zv W3 H3 s3 r3 ⟨b, ez, k1, k2⟩ => by
      subst ez; cases r3
      refine ⟨b, rfl, ?_⟩
      have s123 := (s1.trans s2).trans s3
      cases b with
      | false => exact q _ _ W3 H3 s123 (.bl false) (k2 rfl)
      | true =>
        show tc σ H3 _
        exact k1 rfl W3 H3 σ (e.step s123) _ fun d3 v3 W4 H4 s4 r4 h4 => h4 W4 H4 s4.wh ((e.pl.step s123).step s4) v2 v3 (r2.mono (s3.trans s4).ww) r4 Q fun d v W5 H5 s5 r5 k => q d v W5 H5 ((s123.trans s4).trans s5) r5 k
/-- + and * of lists -/
theorem ef_cat {K : List D → Prop} (h : EL C B Γ ta fun k l => k = .l ∧ EL C B Γ tb fun k' m => k' = .l ∧ l.length + m.length ≤ sizeLine ∧ K (l ++ m)) : EF C B Γ (tOp rCat ta tb) K := fun W H σ e Q q =>
  h W H σ e _ fun k l a vs W1 H1 s1 ha hP hT r1 ⟨hk, h1⟩ => h1 W1 H1 σ (e.step s1) _ fun k' m b ws W2 H2 s2 hb hP2 hT2 r2 ⟨hk', hz, h2⟩ => by
    subst hk; subst hk'
    have ha2 := s2.hh _ _ ha hP (fun z => nomatch z)
    refine ⟨a, b, vs, ws, rfl, rfl, ha2, hb, by rw [r1.length, r2.length]; exact hz, fun p hp => ?_⟩
    have s12 := s1.trans s2
    have s3 := Stp.own (C := C) (P := B.P) (S := noS) (o := .lst (vs ++ ws)) s12.wh hp (e.pl.step s12).ne
    have hW : W2 p = none := by
      cases z : W2 p with
      | none => rfl
      | some o => rw [s12.wh _ _ z] at hp; cases hp
    exact q (l ++ m) p (vs ++ ws) _ _ (s12.trans s3) (s12.free hp) hW upd_same ((r1.mono s2.ww).append r2) h2
theorem ef_rep {K : List D → Prop} (h : EL C B Γ ta fun k l => k = .l ∧ EK C B Γ tb fun d => ∃ n : Int, d = .int n ∧ -(2 ^ 63) ≤ n ∧ n < 2 ^ 63 ∧ l.length * n.toNat ≤ sizeLine ∧ K (List.replicate n.toNat l).flatten) : EF C B Γ (tOp rRep ta tb) K := fun W H σ e Q q =>
  h W H σ e _ fun k l a vs W1 H1 s1 ha hP hT r1 ⟨hk, h1⟩ => h1 W1 H1 σ (e.step s1) _ fun d v2 W2 H2 s2 r2 ⟨n, e2, hz1, hz2, hz3, h2⟩ => by
    subst hk; subst e2
    cases r2
    have ha2 := s2.hh _ _ ha hP (fun z => nomatch z)
    refine ⟨a, n, vs, rfl, rfl, ha2, hz1, hz2, by rw [r1.length]; exact hz3, fun p hp => ?_⟩
    have s12 := s1.trans s2
    have s3 := Stp.own (C := C) (P := B.P) (S := noS) (o := .lst (List.replicate n.toNat vs).flatten) s12.wh hp (e.pl.step s12).ne
    have hW : W2 p = none := by
      cases z : W2 p with
      | none => rfl
      | some o => rw [s12.wh _ _ z] at hp; cases hp
    exact q _ p _ _ _ (s12.trans s3) (s12.free hp) hW upd_same ((r1.mono s2.ww).rep n.toNat) h2
/-- slices -/
def OK (C : Cl) (B : Bs) (Γ : List Sl) (to : TO) (K : Option Int → Prop) : Prop := ∀ W H σ, EnvOk C B W H σ Γ → ∀ Q : Option Int → Hp → Prop, (∀ o W' H', Stp C B.P noS W H W' H' → K o → Q o H') → to σ H Q
theorem ok_none {K : Option Int → Prop} (k : K none) : OK C B Γ tNoPart K := fun W H σ e Q q => q none W H (.refl e.wh) k
theorem ok_some {K : Option Int → Prop} (h : EK C B Γ te fun d => ∃ i, d = .int i ∧ K (some i)) : OK C B Γ (tPart te) K := fun W H σ e Q q =>
  h W H σ e _ fun d v W1 H1 s1 r1 ⟨i, e0, k⟩ => by
    subst e0; cases r1
    exact ⟨i, rfl, q _ W1 H1 s1 k⟩
def cutD (l : List D) (lo hi : Option Int) : List D := (l.drop (HT.sIx l.length 0 lo)).take (HT.sIx l.length l.length hi - HT.sIx l.length 0 lo)
theorem ef_slice {K : List D → Prop} {tl th : TO} (h : EL C B Γ ta fun k l => k = .l ∧ OK C B Γ tl fun lo => OK C B Γ th fun hi => K (cutD l lo hi)) : EF C B Γ (tSl (rSlL KK) ta tl th) K := fun W H σ e Q q =>
  h W H σ e _ fun k l a vs W1 H1 s1 ha hP hT r1 ⟨hk, h1⟩ => h1 W1 H1 σ (e.step s1) _ fun lo W2 H2 s2 h2 => h2 W2 H2 σ ((e.step s1).step s2) _ fun hi W3 H3 s3 h3 => by
    subst hk
    have s23 := s2.trans s3
    have ha2 := s23.hh _ _ ha hP (fun z => nomatch z)
    have s13 := s1.trans s23
    refine ⟨a, vs, rfl, SqL.of ha2, fun p hp => ?_⟩
    have s4 := Stp.own (C := C) (P := B.P) (S := noS) (o := .lst (cutV vs lo hi)) s13.wh hp (e.pl.step s13).ne
    have hW : W3 p = none := by
      cases z : W3 p with
      | none => rfl
      | some o => rw [s13.wh _ _ z] at hp; cases hp
    exact q _ p _ _ _ (s13.trans s4) (s13.free hp) hW upd_same ((r1.mono s23.ww).cut lo hi) h3
end

/-! ### a def -/
def G0 (N : List Str) (l : List D) : List Sl := l.map Sl.d ++ List.replicate (N.length - l.length) .no
theorem G0_no {N : List Str} {l : List D} : ∀ (i : Nat) (s : Sl), (G0 N l)[i]? = some s → s.isO = false ∧ s.isR = false := fun i s h => by
  unfold G0 at h
  have m := List.mem_of_getElem? h
  rcases List.mem_append.mp m with m | m
  · obtain ⟨d, _, e⟩ := List.mem_map.mp m
    subst e; exact ⟨rfl, rfl⟩
  · rw [List.eq_of_mem_replicate m]; exact ⟨rfl, rfl⟩
theorem env_start {C : Cl} {P : Option Addr} {W H : Hp} {N : List Str} {vs : List V} {l : List D} (hw : Same W H) (pl : PlOk C P W H) (r : RepL C P W vs l) : EnvOk C ⟨P, noS, W, H, W⟩ W H (L2.start N vs) (G0 N l) where
  stp := .refl hw
  kp := .refl W
  pl := pl
  p0 := fun a o z => ⟨(pl.rg a o z).1, fun z => z⟩
  len := by
    have hl : (L2.start N vs).length = (G0 N l).length := by simp [L2.start, G0, r.length]
    refine ⟨Nat.le_of_eq hl, fun i s h => ⟨fun z => ?_, fun z => ?_⟩⟩
    · have := (List.getElem?_eq_some_iff.mp h).1; omega
    · rw [(G0_no i s h).2] at z; cases z
  ow := by
    refine ⟨fun _ => 0, fun i j s t h1 h2 h3 => ?_, fun i s h1 h2 => ?_, fun i s h => ?_, fun i j cs ds h1 => ?_, fun i cs h1 => ?_, fun i cs p h1 => ?_, fun i cs p j s h1 => ?_⟩
    · rw [(G0_no i s h1).1] at h3; cases h3
    · rw [(G0_no i s h1).1] at h2; cases h2
    · unfold G0 at h
      by_cases hi : i < l.length
      · rw [List.getElem?_append_left (by simpa using hi), List.getElem?_map] at h
        cases hd : l[i]? with
        | none => rw [hd] at h; cases h
        | some d =>
          rw [hd] at h; cases h
          obtain ⟨v, h1, h2⟩ := r.get hd
          refine ⟨v, ?_, h2⟩
          unfold L2.start
          have hiv : i < vs.length := by rw [r.length]; exact hi
          rw [List.getD_eq_getElem?_getD, List.getElem?_append_left (by simpa using hiv), List.getElem?_map, h1]
          rfl
      · rw [List.getElem?_append_right (by simpa using hi)] at h
        have m := List.mem_of_getElem? h
        rw [List.eq_of_mem_replicate m]
        trivial
    all_goals have z := (G0_no _ _ h1).2; cases z
theorem sp_body {C : Cl} {S : List D → (D → Prop) → Prop} {t : TS} {N : List Str} (h : ∀ B l K, S l K → SK C B (G0 N l) t { nx := fun _ => K .non, rt := fun _ => K }) (vs : List V) (H : Hp) (Q : VK) (E : XK) (q : SpOf C S vs H Q E) :
    t { nx := fun _ H' => Q .non H', rt := Q } (L2.start N vs) H := by
  obtain ⟨P, W, l, K, hw, pl, r, hS, k⟩ := q
  exact h ⟨P, noS, W, H, W⟩ l K hS W H _ (env_start hw pl r) _ ⟨fun Γ W' H' σ' e z => k .non .non W' H' z e.stp .non, fun Γ d v W' H' σ' e r' z => k d v W' H' z e.stp r', fun _ _ _ _ _ z => z.elim, fun _ _ _ _ _ z => z.elim⟩
/-- the promise of a def by its body -/
theorem fn_ok {P : Program} {w : World} {K : PySem.W.Frag} {mg : Str → Option Value} {base : Heap} {x qual : Str} {params : Arguments} {body : List Stmt} {scope : Scope} {dvs : List V} {kws : List (Str × V)} {f : Addr} {fd : FuncData} {N ps : List Str} {k : Nat}
    {C : Cl} {S : List D → (D → Prop) → Prop} (F : FunD K x qual params body scope dvs kws f fd) (sc : FnScope N ps scope) (len : ∀ l K, S l K → l.length = ps.length)
    (hb : ∀ (cdv : Value) (A : Around) (outer : List Env) (s : Shared) (H : Hp) (E : XK), Room k (A.deeper (envOfC qual scope s.heap.objs.size f cdv)) →
      ∃ t, PSs (cxOf (L2.CX P w) P w K mg base N qual scope f cdv A outer s H E).nox body t ∧ ∀ B l K, S l K → SK C B (G0 N l) t { nx := fun _ => K .non, rt := fun _ => K }) : FnOk P w K mg base (L2.CX P w) (k + 1) f fd ps (SpOf C S) :=
  F.ok sc (fun vs H Q E ⟨P, W, l, K, _, _, r, hS, _⟩ => r.length.trans (len l K hS)) fun cdv A outer s H vs Q E hr hsp => by
    obtain ⟨t, h1, h2⟩ := hb cdv A outer s H E hr
    exact ⟨t, h1.nox, sp_body h2 vs H Q E hsp⟩
end G
end

section
set_option maxRecDepth 100000
set_option maxHeartbeats 2000000
/-! the data layer: statements with their ends as arguments; calls by names -/
namespace G
open PySem PySem.Spec PyProof.Rows L2

/-- nx: behind it; rt: what is returned; bk, ct: break, continue -/
def SX (C : Cl) (B : Bs) (Γ : List Sl) (t : TS) (nx : List Sl → Prop) (rt : List Sl → D → Prop) (bk ct : List Sl → Prop) : Prop := SK C B Γ t ⟨nx, rt, bk, ct⟩
section
variable {C : Cl} {B : Bs} {Γ : List Sl} {ta tb te : TE} {tt : TT} {t u : TS} {nx bk ct : List Sl → Prop} {rt : List Sl → D → Prop} {KK : PySem.W.Frag}
theorem sx_seq (h : SX C B Γ t (fun Γ' => SX C B Γ' u nx rt bk ct) rt bk ct) : SX C B Γ (tSeq t u) nx rt bk ct := sk_seq (O := ⟨nx, rt, bk, ct⟩) h
theorem sx_cut (M : List Sl → Prop) (h : SX C B Γ t M rt bk ct) (k : ∀ Γ', M Γ' → SX C B Γ' u nx rt bk ct) : SX C B Γ (tSeq t u) nx rt bk ct := sk_cut (O := ⟨nx, rt, bk, ct⟩) M h k
theorem sx_next (h : nx Γ) : SX C B Γ tNext nx rt bk ct := sk_next (O := ⟨nx, rt, bk, ct⟩) h
theorem sx_break (h : bk Γ) : SX C B Γ tBreak nx rt bk ct := sk_break (O := ⟨nx, rt, bk, ct⟩) h
theorem sx_cont (h : ct Γ) : SX C B Γ tCont nx rt bk ct := sk_cont (O := ⟨nx, rt, bk, ct⟩) h
theorem sx_weak {Γ' : List Sl} (w : Wk Γ Γ') (h : SX C B Γ' t nx rt bk ct) : SX C B Γ t nx rt bk ct := sk_weak w h
theorem sx_freeze (i : Nat) {l : List D} (hs : Γ[i]? = some (.own l)) (h : SX C B (Γ.set i (.d (.lst l))) t nx rt bk ct) : SX C B Γ t nx rt bk ct := sk_freeze i hs h
theorem sx_asg {g : TG} (h : EK C B Γ te fun d => GK C B Γ g d nx) : SX C B Γ (tAsg te g) nx rt bk ct := sk_asg (O := ⟨nx, rt, bk, ct⟩) h
theorem sx_set {i : Nat} (hi : isSlot Γ i = true) (h : EK C B Γ te fun d => nx (Γ.set i (.d d))) : SX C B Γ (tAsg te (gName i)) nx rt bk ct := sk_asg (O := ⟨nx, rt, bk, ct⟩) (h.mono fun d k => gk_name k hi)
theorem sx_setO {i : Nat} (hi : isSlot Γ i = true) (h : EF C B Γ te fun l => nx (Γ.set i (.own l))) : SX C B Γ (tAsg te (gName i)) nx rt bk ct := sk_asgO (O := ⟨nx, rt, bk, ct⟩) h hi
theorem sx_ret (h : EK C B Γ te (rt Γ)) : SX C B Γ (tRet te) nx rt bk ct := sk_ret (O := ⟨nx, rt, bk, ct⟩) h
theorem sx_drop (h : EK C B Γ te fun _ => nx Γ) : SX C B Γ (tDrop te) nx rt bk ct := sk_drop (O := ⟨nx, rt, bk, ct⟩) h
theorem sx_if (h : TK C B Γ tt fun b => (b = true → SX C B Γ t nx rt bk ct) ∧ (b = false → SX C B Γ u nx rt bk ct)) : SX C B Γ (tIfS tt t u) nx rt bk ct := sk_if (O := ⟨nx, rt, bk, ct⟩) h
theorem sx_append {i : Nat} {l : List D} (hs : Γ[i]? = some (.own l)) (h : EK C B Γ te fun d => l.length < sizeLine ∧ nx (Γ.set i (.own (l ++ [d])))) : SX C B Γ (tDrop (tBM KK "list" rAppend (tVar i) (tCons te tNil))) nx rt bk ct := sk_append (O := ⟨nx, rt, bk, ct⟩) hs h
theorem sx_never (h : False) : SX C B Γ tNever nx rt bk ct := h.elim
/-- own[i] = v -/
theorem sx_setI {i : Nat} {l : List D} {ti : TE} (hs : Γ[i]? = some (.own l)) (h : EK C B Γ te fun d => EK C B Γ ti fun d2 => ∃ k j, d2 = .int k ∧ ixN l.length k = some j ∧ nx (Γ.set i (.own (l.set j d)))) : SX C B Γ (tAsg te (gSub (tVar i) ti rSetL)) nx rt bk ct :=
  sk_asg (O := ⟨nx, rt, bk, ct⟩) (h.mono fun d k => gk_sub hs k)
/-- a, b = x, y -/
theorem sx_par {i j : Nat} {ta : TA} (hi : isSlot Γ i = true) (hj : isSlot Γ j = true) (h : AK C B Γ ta fun l => ∃ x y, l = [x, y] ∧ nx ((Γ.set i (.d x)).set j (.d y))) : SX C B Γ (tPar i j ta) nx rt bk ct := fun W H σ e D' s =>
  h W H σ e _ fun l vs W1 H1 s1 r1 ⟨x, y, e0, k⟩ => by
    subst e0
    cases r1 with
    | cons r1 r2 =>
      cases r2 with
      | cons r2 r3 =>
        cases r3
        exact ⟨_, _, rfl, s.nx _ W1 H1 _ (((e.step s1).setD hi r1).setD (isSlot_set rfl hj) r2) k⟩
/-- a loop whose target is a name -/
theorem sx_for {wi : TI} {i : Nat} (h : IK C B Γ wi fun l => ∃ I : Nat → List Sl → Prop, I 0 Γ ∧ (∀ j Γ', I j Γ' → isSlot Γ' i = true) ∧
      (∀ B' j d Γ', l[j]? = some d → I j Γ' → SX C B' (Γ'.set i (.d d)) t (I (j + 1)) rt nx (I (j + 1))) ∧ ∀ Γ', I l.length Γ' → nx Γ') : SX C B Γ (tFor wi (gName i) t) nx rt bk ct :=
  sk_for (O := ⟨nx, rt, bk, ct⟩) fun W H σ e R q => h W H σ e R fun J W' H' l s y ⟨I, h0, hl, hs, hd⟩ => q J W' H' l s y ⟨I, h0, fun W1 j d Γ' h1 h2 => gk_name (hs (B.keep W1) j d Γ' h1 h2) (hl j Γ' h2), hd⟩
/-- a loop with any target -/
theorem sx_forG {wi : TI} {g : TG} (h : IK C B Γ wi fun l => ∃ I : Nat → List Sl → Prop, I 0 Γ ∧
      (∀ B' j d Γ', l[j]? = some d → I j Γ' → GK C B' Γ' g d fun Γ2 => SX C B' Γ2 t (I (j + 1)) rt nx (I (j + 1))) ∧ ∀ Γ', I l.length Γ' → nx Γ') : SX C B Γ (tFor wi g t) nx rt bk ct :=
  sk_for (O := ⟨nx, rt, bk, ct⟩) fun W H σ e R q => h W H σ e R fun J W' H' l s y ⟨I, h0, hs, hd⟩ => q J W' H' l s y ⟨I, h0, fun W1 j d Γ' h1 h2 => hs (B.keep W1) j d Γ' h1 h2, hd⟩
theorem sx_while {tc : TT} (I : Nat → List Sl → Prop) (h0 : ∃ m, I m Γ) (hs : ∀ m Γ', I m Γ' → TK C B Γ' tc fun b => (b = true → SX C B Γ' t (fun Γ2 => ∃ m', m' < m ∧ I m' Γ2) rt nx (fun Γ2 => ∃ m', m' < m ∧ I m' Γ2)) ∧ (b = false → nx Γ')) :
    SX C B Γ (tWhile tc t) nx rt bk ct := sk_while (O := ⟨nx, rt, bk, ct⟩) I h0 hs
theorem sx_mono {nx' bk' ct' : List Sl → Prop} {rt' : List Sl → D → Prop} (h : SX C B Γ t nx rt bk ct) (n : ∀ Γ, nx Γ → nx' Γ) (r : ∀ Γ d, rt Γ d → rt' Γ d) (b : ∀ Γ, bk Γ → bk' Γ) (c : ∀ Γ, ct Γ → ct' Γ) : SX C B Γ t nx' rt' bk' ct' := SK.mono h n r b c
end

/-! ### objects that are made -/
def putD (f : Str) (v : D) : List (Str × D) → List (Str × D)
  | [] => [(f, v)]
  | (g, x) :: r => if g = f then (g, v) :: r else (g, x) :: putD f v r
theorem put_rep {C : Cl} {P : Option Addr} {W : Hp} {f : Str} {v : V} {d : D} (h : Rep C P W v d) : ∀ {fs : List (Str × V)} {l : List (Str × D)}, fs.map (·.1) = l.map (·.1) → RepL C P W (fs.map (·.2)) (l.map (·.2)) →
    (putF f v fs).map (·.1) = (putD f d l).map (·.1) ∧ RepL C P W ((putF f v fs).map (·.2)) ((putD f d l).map (·.2))
  | [], [], _, _ => ⟨rfl, .one h⟩
  | [], _ :: _, e, _ => by cases e
  | _ :: _, [], e, _ => by cases e
  | (g, x) :: fs, (g', y) :: l, e, r => by
    have h1 : g = g' := by simp at e; exact e.1
    have h2 : fs.map (·.1) = l.map (·.1) := by simp at e; exact e.2
    subst h1
    cases r with
    | cons r rr =>
      obtain ⟨i1, i2⟩ := put_rep (f := f) h h2 rr
      show (if g = f then (g, v) :: fs else (g, x) :: putF f v fs).map (·.1) = (if g = f then (g, d) :: l else (g, y) :: putD f d l).map (·.1) ∧ RepL C P W ((if g = f then (g, v) :: fs else (g, x) :: putF f v fs).map (·.2)) ((if g = f then (g, d) :: l else (g, y) :: putD f d l).map (·.2))
      by_cases hg : g = f
      · rw [if_pos hg, if_pos hg]
        exact ⟨by simp [h2], .cons h rr⟩
      · rw [if_neg hg, if_neg hg]
        exact ⟨by simp [i1], .cons r i2⟩
section
variable {C : Cl} {B : Bs} {Γ : List Sl} {te : TE} {nx bk ct : List Sl → Prop} {rt : List Sl → D → Prop} {KK : PySem.W.Frag}
theorem sx_fld {i : Nat} {A : Addr} {fl : List (Str × D)} {f : Str} (hs : Γ[i]? = some (.ins A fl)) (c : Cls KK A) (n : NoAttr KK A f) (hl : fl.length < 1000) (h : EK C B Γ te fun d => nx (Γ.set i (.ins A (putD f d fl)))) : SX C B Γ (sFld KK (tVar i) te f) nx rt bk ct := fun W H σ e D' s =>
  h W H σ e _ fun d v W1 H1 s1 r1 k => by
    have e1 := e.step s1
    obtain ⟨ow, o⟩ := e1.ow
    obtain ⟨h1, dx, fs, h2, h3, h4⟩ := o.ok i _ hs
    have hlen : fs.length = fl.length := by have := congrArg List.length h3; simpa using this
    refine ⟨_, getD_some h1, ow i, A, dx, fs, rfl, h2, c, n, by omega, ?_⟩
    obtain ⟨ow2, o3, g⟩ := e1.chg (u := .ins A dx (putF f v fs)) (t := .ins A (putD f d fl)) hs rfl rfl (fun _ h => h)
    have ee : ow2 i = ow i := by
      obtain ⟨g1, _⟩ := o3.ok i _ hs
      rw [h1] at g1
      injection g1 with g1
      injection g1 with g1
      exact g1.symm
    rw [ee] at g
    obtain ⟨p1, p2⟩ := put_rep (f := f) r1 h3 h4
    exact s.nx _ W1 _ σ (g ⟨h1, dx, _, upd_same, p1, p2⟩) k
end
def fracL (q : Rat) : List (Str × D) := [("num", .int q.num), ("den", .int q.den)]
/-- what an __init__ promises -/
def SpI (C : Cl) (A : Addr) (S : List D → (List (Str × D) → Prop) → Prop) : Sp := fun vs H Q _ => ∃ P W p dx us l K, vs = .ref p :: us ∧ H p = some (.ins A dx []) ∧ W p = none ∧ P ≠ some p ∧ C.m p = none ∧ Same W H ∧ PlOk C P W H ∧ RepL C P W us l ∧ S l K ∧
  ∀ fl fs dx' W' H', K fl → Stp C P (fun a => a = p) W H W' H' → H' p = some (.ins A dx' fs) → W' p = none → fs.map (·.1) = fl.map (·.1) → RepL C P W' (fs.map (·.2)) (fl.map (·.2)) → Q .non H'
theorem env_startI {C : Cl} {P : Option Addr} {W H : Hp} {A p dx : Addr} {x : Str} {N : List Str} {vs : List V} {l : List D} (hp : H p = some (.ins A dx [])) (hW : W p = none) (hP : P ≠ some p) (hm : C.m p = none) (hw : Same W H) (pl : PlOk C P W H) (r : RepL C P W vs l) :
    EnvOk C ⟨P, fun a => a = p, W, H, W⟩ W H (L2.start (x :: N) (.ref p :: vs)) (.ins A [] :: G0 N l) := by
  have e := env_start (N := N) hw pl r
  obtain ⟨ow, o⟩ := e.ow
  have st : L2.start (x :: N) (.ref p :: vs) = some (.ref p) :: L2.start N vs := by
    unfold L2.start
    simp
  rw [st]
  have no : ∀ (i : Nat) (s : Sl), (G0 N l)[i]? = some s → s.isO = false := fun i s h => (G0_no i s h).1
  have nr : ∀ (i : Nat) (cs : List (Addr × List D)), (Sl.ins A [] :: G0 N l)[i]? = some (.reg cs) → False := fun i cs h => by
    cases i with
    | zero => simp at h
    | succ i => have := (G0_no i _ (by simpa using h)).2; cases this
  refine ⟨.refl hw, .refl W, pl, fun a o' z => ⟨(pl.rg a o' z).1, fun y => by have y : a = p := y; subst y; rw [hm] at z; cases z⟩, ⟨by have := e.len.le; simpa using this, fun i s h => ?_⟩, fun _ => p, fun i j s t h1 h2 h3 h4 _ => ?_, fun i s h1 h2 => ?_, fun i s h => ?_, fun i j cs ds h1 => (nr i cs h1).elim, fun i cs h1 => (nr i cs h1).elim, fun i cs q h1 => (nr i cs h1).elim, fun i cs q j s h1 => (nr i cs h1).elim⟩
  · cases i with
    | zero => simp at h; subst h; exact ⟨fun z => by simp at z, fun z => by cases z⟩
    | succ i =>
      have := e.len.c i s (by simpa using h)
      rw [List.length_cons]
      exact ⟨fun z => this.mp (by omega), fun z => by have := this.mpr z; omega⟩
  · cases i with
    | succ i => rw [no i s (by simpa using h1)] at h3; cases h3
    | zero =>
      cases j with
      | succ j => rw [no j t (by simpa using h2)] at h4; cases h4
      | zero => rfl
  · cases i with
    | succ i => rw [no i s (by simpa using h1)] at h2; cases h2
    | zero =>
      simp at h1; subst h1
      exact ⟨hW, hP, rfl⟩
  · cases i with
    | zero =>
      simp at h; subst h
      exact ⟨rfl, dx, [], hp, rfl, .nil⟩
    | succ i =>
      have k := o.ok i s (by simpa using h)
      have hn := no i s (by simpa using h)
      cases s with
      | no => trivial
      | d x => exact k
      | own l => cases hn
      | ins c l => cases hn
      | reg cs => trivial
theorem sp_bodyI {C : Cl} {A : Addr} {S : List D → (List (Str × D) → Prop) → Prop} {t : TS} {x : Str} {N : List Str} (h : ∀ B l K, S l K → SX C B (.ins A [] :: G0 N l) t (fun Γ => ∃ fl, Γ[0]? = some (.ins A fl) ∧ K fl) (fun _ _ => False) (fun _ => False) (fun _ => False)) (vs : List V) (H : Hp) (Q : VK) (E : XK) (q : SpI C A S vs H Q E) :
    t { nx := fun _ H' => Q .non H', rt := Q } (L2.start (x :: N) vs) H := by
  obtain ⟨P, W, p, dx, us, l, K, rfl, hp, hW, hP, hm, hw, pl, r, hS, k⟩ := q
  refine h ⟨P, fun a => a = p, W, H, W⟩ l K hS W H _ (env_startI hp hW hP hm hw pl r) _ ⟨fun Γ W' H' σ' e z => ?_, fun _ _ _ _ _ _ _ _ z => z.elim, fun _ _ _ _ _ z => z.elim, fun _ _ _ _ _ z => z.elim⟩
  obtain ⟨fl, h0, kf⟩ := z
  obtain ⟨ow, o⟩ := e.ow
  obtain ⟨f1, _, f4⟩ := o.fr 0 _ h0 rfl
  obtain ⟨_, dx', fs, g1, g2, g3⟩ := o.ok 0 _ h0
  have f6 : ow 0 = p := f4
  rw [f6] at f1 g1
  exact k fl fs dx' W' H' kf e.stp g1 f1 g2 g3

/-! ### calls by names -/
/-- the def that the module's name x stands for keeps a promise -/
def Cal (P : Program) (w : World) (K : PySem.W.Frag) (mg : Str → Option Value) (base : Heap) (k : Nat) (x : Str) (ps : List Str) (sp : Sp) : Prop :=
  mg x = some (.ref (He.ga K x)) ∧ PySem.W.keepIn K (.ref (He.ga K x)) = true ∧ ∃ fd, FnOk P w K mg base (L2.CX P w) k (He.ga K x) fd ps sp ∧ Binds K fd ps []
section
variable {X : Cx} {k j : Nat} {x : Str} {ps : List Str} {sp : Sp} {p pos : Pos} {e : Expr} {es : List Expr} {t : TA}
theorem pe_calC (c : Cal X.prog X.w X.K X.mg X.base k x ps sp) (hr : Room j X.A) (hk : k ≤ j) (hg : Gl X x) (ha : PA X (e :: es) t) (hdb : (x == ("__debug__" : Str)) = false := by decide)
    (he : starEach (e :: es) X.env = (false, eval e X.env) :: starEach es X.env := by rfl) (hpl : (backTo pos (starEach es X.env)).any (·.1) = false := by rfl) : PE X (.Call (.Name x p) (e :: es) [] pos) (tCall sp [] E0 t) := by
  obtain ⟨h1, h2, fd, F, b⟩ := c
  exact pe_call F (hr.mono hk) hg h1 h2 b .nil passL ha hdb he hpl
/-- a module's int -/
theorem pe_gint {i : Int} (h : ∃ t, X.mg x = some (.int i t)) (hg : Gl X x) (hd : (x == ("__debug__" : Str)) = false := by decide) : PE X (.Name x pos) (tC (.int i)) := by
  obtain ⟨t, h⟩ := h
  exact pe_glob (v := .int i) hg h ⟨t, rfl⟩ hd
theorem pe_gcls {a : Addr} (h : X.mg x = some (.ref a)) (hg : Gl X x) (hd : (x == ("__debug__" : Str)) = false := by decide) : PE X (.Name x pos) (tC (.ref a)) := pe_glob (v := .ref a) hg h rfl hd
end
/-- a def of the text -/
abbrev FnP (K : PySem.W.Frag) (x : Str) (st : Stmt) (fd : FuncData) : Prop := FunD K x x (defArgs st) (defBody st) (defScope st) [] [] (He.ga K x) fd
theorem cal_mk {P : Program} {w : World} {K : PySem.W.Frag} {mg : Str → Option Value} {base : Heap} {k : Nat} {x : Str} {st : Stmt} {N ps : List Str} {C : Cl} {S : List D → (D → Prop) → Prop} (g : mg x = some (.ref (He.ga K x))) (F : ∃ fd, FnP K x st fd) (sc : FnScope N ps (defScope st))
    (b : ∀ (kV doc pm : Value) (an : Option Addr) (cdv ct : Value) (us : List Value), us.length = ps.length → bindArgs (PySem.W.fnOf x x (defArgs st) (defBody st) (defScope st) .none kV doc pm an cdv ct) ⟨us, []⟩ = pure (ps.zip us))
    (len : ∀ l K, S l K → l.length = ps.length)
    (hb : ∀ (f : Addr) (cdv : Value) (A : Around) (outer : List Env) (s : Shared) (H : Hp) (E : XK), Room k (A.deeper (envOfC x (defScope st) s.heap.objs.size f cdv)) →
      ∃ t, PSs (cxOf (L2.CX P w) P w K mg base N x (defScope st) f cdv A outer s H E).nox (defBody st) t ∧ ∀ B l K, S l K → SX C B (G0 N l) t (fun _ => K .non) (fun _ => K) (fun _ => False) (fun _ => False)) : Cal P w K mg base (k + 1) x ps (SpOf C S) := by
  obtain ⟨fd, F⟩ := F
  exact ⟨g, F.kp, fd, fn_ok F sc len fun cdv A outer s H E hr => hb _ cdv A outer s H E hr, F.bindsN b⟩
end G
end

section
set_option maxRecDepth 100000
set_option maxHeartbeats 2000000
/-! the data layer: classes made, methods, operators by names -/
namespace G
open PySem PySem.Spec PyProof.Rows L2
section
variable (P : Program) (w : World) (K : PySem.W.Frag) (mg : Str → Option Value) (base : Heap)
/-- C(..) -/
def CalM (k : Nat) (x : Str) (dvs : List V) (sp : Sp) : Prop := mg x = some (.ref (He.ga K x)) ∧ ∃ f fd ps ds, Mk K (He.ga K x) f ∧ FnOk P w K mg base (L2.CX P w) k f fd ps sp ∧ Binds K fd ps ds ∧ Vals dvs ds
/-- o.m(..) -/
def CalT (k : Nat) (A : Addr) (m : Str) (sp : Sp) : Prop := Cls K A ∧ ∃ f fd ps, Meth K A m f ∧ FnOk P w K mg base (L2.CX P w) k f fd ps sp ∧ Binds K fd ps []
/-- an operator -/
def CalO (k : Nat) (A : Addr) (op : Operator) (sp : Sp) : Prop := PySem.W.selfFirst K A = true ∧ ∃ f fd ps, PySem.W.findIn K (.ref A) (PySem.dunder op.info.2) = some (some (.ref f)) ∧ PySem.W.isFn K (.ref f) = true ∧ FnOk P w K mg base (L2.CX P w) k f fd ps sp ∧ Binds K fd ps []
end
section
variable {X : Cx} {k j : Nat} {x m : Str} {A : Addr} {dvs : List V} {sp : Sp} {p pos apos : Pos} {e o : Expr} {es : List Expr} {t : TA} {ta : TE} {opr : Operator}
theorem pe_mkC (c : CalM X.prog X.w X.K X.mg X.base k x dvs sp) (hr : Room j X.A) (hk : k + 1 ≤ j) (hg : Gl X x) (ha : PA X (e :: es) t) (hdb : (x == ("__debug__" : Str)) = false := by decide)
    (he : starEach (e :: es) X.env = (false, eval e X.env) :: starEach es X.env := by rfl) (hpl : (backTo pos (starEach es X.env)).any (·.1) = false := by rfl) : PE X (.Call (.Name x p) (e :: es) [] pos) (tMake (He.ga X.K x) sp dvs E0 t) := by
  obtain ⟨h1, f, fd, ps, ds, M, F, b, hd⟩ := c
  exact pe_make M F (hr.mono hk) hg h1 b hd passL ha hdb he hpl
theorem pe_mtC {pl : Sem Bool} (c : CalT X.prog X.w X.K X.mg X.base k A m sp) (hr : Room j X.A) (hk : k ≤ j) (ho : PE X o ta) (ha : PA X (e :: es) t)
    (hst : starEach (e :: es) X.env = (false, eval e X.env) :: starEach es X.env := by rfl) (hpl : (backTo pos (starEach es X.env)).any (·.1) = false := by rfl)
    (ht : eval (.Call (.Attribute o m apos) (e :: es) [] pos) X.env = (do
      let ov ← eval o X.env
      standAt apos.atName
      let (f, first) ← holding [ov] (getMethod ov m pl)
      callWith pos f first (backTo pos (starEach (e :: es) X.env)) (backToKw pos (keywordEach [] X.env))) := by rfl) :
    PE X (.Call (.Attribute o m apos) (e :: es) [] pos) (tMeth A m sp [] E0 ta t) := by
  obtain ⟨h1, f, fd, ps, M, F, b⟩ := c
  exact pe_meth ho h1 M F (hr.mono hk) b .nil passL ha hst hpl ht
theorem CalO.op (c : CalO X.prog X.w X.K X.mg X.base k A opr sp) (hr : Room j X.A) (hk : k ≤ j) : OpR X (binaryOp opr) (rOwn A sp) := by
  obtain ⟨h1, f, fd, ps, h2, h3, F, b⟩ := c
  exact op_own F h2 h3 h1 b passL (hr.mono hk)
end

/-! ### the rules with the written part named (within a comprehension's block it must be) -/
section
variable {X : Cx}
theorem ix_seqK (KK : PySem.W.Frag) (h : X.K = KK) : IxR X (rIx KK) := h ▸ ix_seq
theorem cr_lenK (KK : PySem.W.Frag) (h : X.K = KK) : CallR X (.builtin "len") (rLenU KK) := h ▸ cr_lenU
theorem cr_listK (KK : PySem.W.Frag) (h : X.K = KK) : CallR X (.type "list") (rListU KK) := h ▸ cr_listU
theorem cr_tupK (KK : PySem.W.Frag) (h : X.K = KK) : CallR X (.type "tuple") (rTupU KK) := h ▸ cr_tupU
theorem cr_isK (KK : PySem.W.Frag) (h : X.K = KK) : CallR X (.builtin "isinstance") (rIsU KK) := h ▸ cr_isU
theorem cr_sumK (KK : PySem.W.Frag) (h : X.K = KK) (hc : X.calm = true) : CallR X (.builtin "sum") (rSum KK) := h ▸ cr_sum hc
theorem cr_allK (KK : PySem.W.Frag) (h : X.K = KK) (hc : X.calm = true) : CallR X (.builtin "all") (rAll KK) := h ▸ cr_all hc
theorem cr_anyK (KK : PySem.W.Frag) (h : X.K = KK) (hc : X.calm = true) : CallR X (.builtin "any") (rAny KK) := h ▸ cr_any hc
theorem sl_listK (KK : PySem.W.Frag) (h : X.K = KK) : SlR X (rSlL KK) := h ▸ sl_list
theorem sl_tupK (KK : PySem.W.Frag) (h : X.K = KK) : SlR X (rSlT KK) := h ▸ sl_tup
section
variable {e e2 tg : Expr} {f : Str} {pos p tpos : Pos} {ta te : TE} {elts : List Expr} {kk n : Nat} {tta : TA} {es : List Expr} {gs : TGs}
theorem pe_fldK (KK : PySem.W.Frag) (h : X.K = KK) (he : PE X e ta) (hb : attributeBase e f X.env (eval e X.env) = eval e X.env) : PE X (.Attribute e f pos) (tFld KK ta f) := h ▸ pe_fld he hb
theorem pi_seqK (KK : PySem.W.Frag) (h : X.K = KK) (hl : PE X e te) : PI X tg e (iSeq KK te) := h ▸ pi_seq hl
theorem pg_tupK (KK : PySem.W.Frag) (h : X.K = KK) (hc : X.calm = true) (hg : PGs X es gs)
    (hn : (assignEach es X.env).length = n := by rfl) (hst : (assignEach es X.env).findIdx? (·.1) = none := by rfl) : PG X (.Tuple es kk pos) (gTup KK n gs) := h ▸ pg_tup hc hg hn hst
theorem pi_enumK (KK : PySem.W.Frag) (h : X.K = KK) (hg : Gl X "enumerate") (hm : X.mg "enumerate" = none) (ha : PA X [e] tta) (hs : starEach [e] X.env = [(false, eval e X.env)] := by rfl) :
    PI X (.Tuple elts kk tpos) (.Call (.Name "enumerate" p) [e] [] pos) (iEnum KK tta) := h ▸ pi_enum hg hm ha hs
theorem pi_zipK (KK : PySem.W.Frag) (h : X.K = KK) (hg : Gl X "zip") (hm : X.mg "zip" = none) (ha : PA X [e, e2] tta)
    (hs : starEach [e, e2] X.env = (false, eval e X.env) :: starEach [e2] X.env := by rfl) (hpl : (backTo pos (starEach [e2] X.env)).any (·.1) = false := by rfl) :
    PI X (.Tuple elts kk tpos) (.Call (.Name "zip" p) [e, e2] [] pos) (RZ.iZipA KK tta) := h ▸ RZ.pi_zipA hg hm ha hs hpl
theorem pi_revK (KK : PySem.W.Frag) (h : X.K = KK) (hg : Gl X "reversed") (hm : X.mg "reversed" = none) (he : PE X e te) (hs : starEach [e] X.env = (false, eval e X.env) :: starEach [] X.env := by rfl) : PI X tg (.Call (.Name "reversed" p) [e] [] pos) (RT.iRevA KK te) := h ▸ RT.pi_revA hg hm he hs
end
section
variable {k j : Nat} {x m : Str} {dvs : List V} {sp : Sp} {p pos : Pos} {e : Expr} {es : List Expr} {t : TA}
theorem pe_mkK (KK : PySem.W.Frag) (h : X.K = KK) (c : CalM X.prog X.w X.K X.mg X.base k x dvs sp) (hr : Room j X.A) (hk : k + 1 ≤ j) (hg : Gl X x) (ha : PA X (e :: es) t) (hdb : (x == ("__debug__" : Str)) = false := by decide)
    (he : starEach (e :: es) X.env = (false, eval e X.env) :: starEach es X.env := by rfl) (hpl : (backTo pos (starEach es X.env)).any (·.1) = false := by rfl) : PE X (.Call (.Name x p) (e :: es) [] pos) (tMake (He.ga KK x) sp dvs E0 t) := h ▸ pe_mkC c hr hk hg ha hdb he hpl
end
section
variable {e : Expr} {te : TE} {k : Nat} {p1 p2 p3 pos : Pos}
theorem pe_lstRevK (KK : PySem.W.Frag) (h : X.K = KK) {p q pos2 : Pos} (hc : X.calm = true) (hg : Gl X "list") (hm : X.mg "list" = none) (hg2 : Gl X "reversed") (hm2 : X.mg "reversed" = none) (he : PE X e te)
    (hs : starEach [e] X.env = (false, eval e X.env) :: starEach [] X.env := by rfl)
    (hs2 : starEach [.Call (.Name "reversed" q) [e] [] pos2] X.env = (false, eval (.Call (.Name "reversed" q) [e] [] pos2) X.env) :: starEach [] X.env := by rfl) :
    PE X (.Call (.Name "list" p) [.Call (.Name "reversed" q) [e] [] pos2] [] pos) (GRv.tLstRev KK te) := h ▸ GRv.pe_lstRev hc hg hm hg2 hm2 he hs hs2
theorem pe_revK (KK : PySem.W.Frag) (h : X.K = KK) (he : PE X e te) : PE X (.Subscript e (.Slice none none (some (.UnaryOp .USub (.Constant (.int 1) k p1) p2)) p3) pos) (tRevL KK te) := h ▸ pe_revL he
end
end
section
variable {C : Cl} {B : Bs} {Γ : List Sl} {ta : TE} {KK : PySem.W.Frag}
theorem ef_rev {K : List D → Prop} (h : EL C B Γ ta fun k l => k = .l ∧ K l.reverse) : EF C B Γ (tRevL KK ta) K := fun W H σ e Q q =>
  h W H σ e _ fun k l a vs W1 H1 s1 ha hP hT r1 ⟨hk, h1⟩ => by
    subst hk
    refine ⟨a, vs, rfl, SqL.of ha, fun p hp => ?_⟩
    have s2 := Stp.own (C := C) (P := B.P) (S := noS) (o := .lst vs.reverse) s1.wh hp (e.pl.step s1).ne
    have hW : W1 p = none := by
      cases z : W1 p with
      | none => rfl
      | some o => rw [s1.wh _ _ z] at hp; cases hp
    exact q l.reverse p vs.reverse _ _ (s1.trans s2) (s1.free hp) hW upd_same r1.reverse h1
end
end G
end

section
set_option maxRecDepth 100000
set_option maxHeartbeats 2000000
/-! the data layer: methods, __init__s -/
namespace G
open PySem PySem.Spec PyProof.Rows L2
section
variable {C : Cl} {B : Bs} {Γ : List Sl} {tt : TT} {t u : TS} {nx bk ct : List Sl → Prop} {rt : List Sl → D → Prop}
/-- if ..: raise, where nothing is raised -/
theorem sx_guard (h : TK C B Γ tt fun b => b = false) (k : SX C B Γ u nx rt bk ct) : SX C B Γ (tSeq (tIfS tt tNever tNext) u) nx rt bk ct :=
  sx_seq (sx_if (h.mono fun b e => ⟨fun z => (by rw [e] at z; cases z), fun _ => sx_next k⟩))
/-- an if whose way is known -/
theorem sx_ifT (h : TK C B Γ tt fun b => b = true) (k : SX C B Γ t nx rt bk ct) : SX C B Γ (tIfS tt t u) nx rt bk ct := sx_if (h.mono fun b e => ⟨fun _ => k, fun z => (by rw [e] at z; cases z)⟩)
theorem sx_ifF (h : TK C B Γ tt fun b => b = false) (k : SX C B Γ u nx rt bk ct) : SX C B Γ (tIfS tt t u) nx rt bk ct := sx_if (h.mono fun b e => ⟨fun z => (by rw [e] at z; cases z), fun _ => k⟩)
/-- an if whose test tells p -/
theorem sx_ifP (p : Prop) [Decidable p] (h : TK C B Γ tt fun b => b = decide p) (k1 : p → SX C B Γ t nx rt bk ct) (k2 : ¬ p → SX C B Γ u nx rt bk ct) : SX C B Γ (tIfS tt t u) nx rt bk ct :=
  sx_if (h.mono fun b e => ⟨fun z => k1 (of_decide_eq_true (e ▸ z)), fun z => k2 (of_decide_eq_false (e ▸ z))⟩)
end
/-! ### rationals as Fracs -/
theorem divInt_num {n d : Int} (h : 0 < d) : (Rat.divInt n d).num = n / ((Nat.gcd n.natAbs d.natAbs : Nat) : Int) := by
  rw [Rat.num_divInt, Int.sign_eq_one_of_pos h, Int.one_mul]
  congr 1
  show ((Nat.gcd d.natAbs n.natAbs : Nat) : Int) = _
  rw [Nat.gcd_comm]
theorem divInt_den {n d : Int} (h : 0 < d) : ((Rat.divInt n d).den : Int) = d / ((Nat.gcd n.natAbs d.natAbs : Nat) : Int) := by
  rw [Rat.den_divInt, if_neg (by omega)]
  have e : d.gcd n = Nat.gcd n.natAbs d.natAbs := by
    show Nat.gcd d.natAbs n.natAbs = _
    rw [Nat.gcd_comm]
  rw [e]
  have hd : (d.natAbs : Int) = d := by omega
  rw [Int.natCast_ediv, hd]
theorem gcd_pos {n d : Int} (h : 0 < d) : 0 < ((Nat.gcd n.natAbs d.natAbs : Nat) : Int) := by
  have : 0 < Nat.gcd n.natAbs d.natAbs := Nat.gcd_pos_of_pos_right _ (by omega)
  omega
/-- small enough for every operation -/
def Sz (i : Int) : Prop := i.natAbs < 2 ^ 4000
def SzQ (q : Rat) : Prop := Sz q.num ∧ Sz q.den
theorem Sz.mul {i j : Int} (a : Sz i) (b : Sz j) : CMulW i j := wide_mul a b (by decide) (by decide) (by decide)
theorem Sz.prod {i j : Int} (a : Sz i) (b : Sz j) : (i * j).natAbs < 2 ^ 8000 := wide_lt a b
theorem of_small {i : Int} {n : Nat} (h : i.natAbs ≤ n) (hn : n < 2 ^ 64) : Sz i := Nat.lt_of_le_of_lt h (Nat.lt_trans hn (by exact Nat.pow_lt_pow_right (by decide) (by decide)))
theorem cdiv_gcd {n d : Int} {b : Nat} (h : 0 < d) (hb : d.natAbs < 2 ^ b) (h0 : 0 < b) (h9 : b ≤ 9000) : CDivW n ((Nat.gcd n.natAbs d.natAbs : Nat) : Int) := by
  refine wide_div (gcd_pos h) (b := b) ?_ h0 h9
  have : Nat.gcd n.natAbs d.natAbs ≤ d.natAbs := Nat.gcd_le_right _ (by omega)
  omega
end G
end

section
set_option maxRecDepth 100000
set_option maxHeartbeats 2000000
/-! the data layer: short forms -/
namespace G
open PySem PySem.Spec PyProof.Rows L2
theorem br_t {b : Bool} {p q : Prop} (hb : b = true) (h : p) : (b = true → p) ∧ (b = false → q) := ⟨fun _ => h, fun z => (by rw [hb] at z; cases z)⟩
theorem br_f {b : Bool} {p q : Prop} (hb : b = false) (h : q) : (b = true → p) ∧ (b = false → q) := ⟨fun z => (by rw [hb] at z; cases z), fun _ => h⟩
theorem br_p {p : Prop} {q r : Prop} [Decidable p] (h1 : p → q) (h2 : ¬ p → r) : (decide p = true → q) ∧ (decide p = false → r) := ⟨fun z => h1 (of_decide_eq_true z), fun z => h2 (of_decide_eq_false z)⟩
theorem br_n {p : Prop} {q r : Prop} [Decidable p] (h1 : ¬ p → q) (h2 : p → r) : ((!decide p) = true → q) ∧ ((!decide p) = false → r) := ⟨fun z => h1 (by simpa using z), fun z => h2 (by simpa using z)⟩
theorem ps_fldK {X : Cx} {o value : Expr} {f : Str} {pos pos' : Pos} {ta tv : TE} (KK : PySem.W.Frag) (h : X.K = KK) (ha : PE X o ta) (hv : PE X value tv) (hs : swapsWith value (some (.Attribute o f pos')) pos.line X.env = pure false) : PS X (.Assign [.Attribute o f pos'] value pos) (sFld KK ta tv f) := h ▸ ps_fld ha hv hs
theorem Wk.trans : ∀ {a b c : List Sl}, Wk a b → Wk b c → Wk a c
  | _, _, _, .nil, .nil => .nil
  | _, _, _, .cut w, .nil => .cut w
  | _, _, _, .sub w _ _, .cut _ => .cut w
  | _, _, _, .sub w h _, .sub _ k m => .sub w (fun p z => h p (k p z)) m
  | _, _, _, .sub w h n, .same .nil => .sub w h n
  | _, _, _, .sub _ _ _, .no _ z => nomatch z
  | _, _, _, .same w, .cut v => .cut (w.trans v)
  | _, _, _, .same w, .sub v h n => .sub (w.trans v) h n
  | _, _, _, .same h, .same k => .same (h.trans k)
  | _, _, _, .same h, .no k z => .no (h.trans k) z
  | _, _, _, .no h z, .same k => .no (h.trans k) z
  | _, _, _, .no h z, .no k _ => .no (h.trans k) z
theorem Wk.set : ∀ {a b : List Sl} {i : Nat} {s : Sl}, Wk a b → isSlot b i = true → Wk (a.set i s) (b.set i s)
  | _, _, _, _, .nil, _ => .nil
  | _, _, _, _, .cut _, h => by cases h
  | _, _, 0, _, .sub _ _ _, h => by cases h
  | _, _, _ + 1, _, .sub _ _ _, h => by cases h
  | _, _, 0, _, .same h, _ => .same h
  | _, _, 0, _, .no h _, _ => .same h
  | _, _, i + 1, _, .same h, z => .same (h.set (i := i) z)
  | _, _, i + 1, _, .no h y, z => .no (h.set (i := i) z) y
section
variable {C : Cl} {B : Bs} {Γ : List Sl} {t u : TS} {te ta tb : TE} {nx bk ct : List Sl → Prop} {rt : List Sl → D → Prop} {K : D → Prop}
theorem gk_weak {Γ' : List Sl} {g : TG} {d : D} {K : List Sl → Prop} (w : Wk Γ Γ') (h : GK C B Γ' g d K) : GK C B Γ g d K := fun W H σ v e r Q q => h W H σ v (e.weak w) r Q q
theorem IK.mono {wi : TI} {K K' : List D → Prop} (h : IK C B Γ wi K) (k : ∀ l, K l → K' l) : IK C B Γ wi K' := fun W H σ e R q => h W H σ e R fun J W' H' l s y z => q J W' H' l s y (k l z)
/-- a loop whose slots are told -/
theorem sx_forW {wi : TI} {i : Nat} (hi : isSlot Γ i = true) (h : IK C B Γ wi fun l => ∃ (α : Type) (xs : List α) (f : α → D) (F : Nat → List Sl), l = xs.map f ∧ Wk Γ (F 0) ∧ (∀ j, isSlot (F j) i = true) ∧
      (∀ B' j x, xs[j]? = some x → SX C B' ((F j).set i (.d (f x))) t (fun Γ' => Wk Γ' (F (j + 1))) rt nx (fun Γ' => Wk Γ' (F (j + 1)))) ∧ ∀ Γ', Wk Γ' (F xs.length) → nx Γ') : SX C B Γ (tFor wi (gName i) t) nx rt bk ct :=
  sx_for (h.mono fun l ⟨α, xs, f, F, e, h0, hl, hs, hd⟩ => by
    subst e
    refine ⟨fun j Γ' => Wk Γ' (F j), h0, fun j Γ' w => w.slot (hl j), fun B' j d Γ' hj w => sx_weak (w.set (hl j)) ?_, by rw [List.length_map]; exact hd⟩
    rw [List.getElem?_map] at hj
    cases hx : xs[j]? with
    | none => rw [hx] at hj; cases hj
    | some x =>
      rw [hx] at hj; cases hj
      exact hs B' j x hx)
theorem sx_forGW {wi : TI} {g : TG} (h : IK C B Γ wi fun l => ∃ (α : Type) (xs : List α) (f : α → D) (F : Nat → List Sl), l = xs.map f ∧ Wk Γ (F 0) ∧
      (∀ B' j x, xs[j]? = some x → GK C B' (F j) g (f x) fun Γ2 => SX C B' Γ2 t (fun Γ' => Wk Γ' (F (j + 1))) rt nx (fun Γ' => Wk Γ' (F (j + 1)))) ∧ ∀ Γ', Wk Γ' (F xs.length) → nx Γ') : SX C B Γ (tFor wi g t) nx rt bk ct :=
  sx_forG (h.mono fun l ⟨α, xs, f, F, e, h0, hs, hd⟩ => by
    subst e
    refine ⟨fun j Γ' => Wk Γ' (F j), h0, fun B' j d Γ' hj w => gk_weak w ?_, by rw [List.length_map]; exact hd⟩
    rw [List.getElem?_map] at hj
    cases hx : xs[j]? with
    | none => rw [hx] at hj; cases hj
    | some x =>
      rw [hx] at hj; cases hj
      exact hs B' j x hx)
/-- a while whose slots are told -/
theorem sx_whileW {tc : TT} {τ : Type} (F : τ → List Sl) (P : τ → Prop) (μ : τ → Nat) (h0 : ∃ s, P s ∧ Wk Γ (F s)) (hs : ∀ s, P s → TK C B (F s) tc fun b => (b = true → SX C B (F s) t (fun Γ2 => ∃ s', μ s' < μ s ∧ P s' ∧ Wk Γ2 (F s')) rt nx (fun Γ2 => ∃ s', μ s' < μ s ∧ P s' ∧ Wk Γ2 (F s'))) ∧ (b = false → ∀ Γ', Wk Γ' (F s) → nx Γ')) :
    SX C B Γ (tWhile tc t) nx rt bk ct :=
  sx_while (fun m Γ' => ∃ s, μ s = m ∧ P s ∧ Wk Γ' (F s)) (by obtain ⟨s, h1, h2⟩ := h0; exact ⟨μ s, s, rfl, h1, h2⟩) fun m Γ' ⟨s, hm, hp, w⟩ W H σ e Q q => hs s hp W H σ (e.weak w) Q fun b W' H' st k => q b W' H' st ⟨fun hb => sx_weak w (sx_mono (k.1 hb) (fun Γ2 ⟨s', z1, z2, z3⟩ => ⟨μ s', hm ▸ z1, s', rfl, z2, z3⟩) (fun _ _ z => z) (fun _ z => z) (fun Γ2 ⟨s', z1, z2, z3⟩ => ⟨μ s', hm ▸ z1, s', rfl, z2, z3⟩)), fun hb => k.2 hb Γ' w⟩
/-- a comprehension, item by item -/
theorem ef_map {wi : TI} {g : TG} {vs : List Nat} {K : List D → Prop} (h : IK C B Γ wi fun l => ∃ (α : Type) (xs : List α) (f y : α → D), l = xs.map f ∧ xs.length ≤ sizeLine ∧
      (∀ W1 x, x ∈ xs → CG C (B.keep W1) (wipeG Γ vs) g (f x) vs fun Γ2 => EK C (B.keep W1) Γ2 te fun z => z = y x) ∧ K (xs.map y)) : EF C B Γ (tLc wi g tYes te vs) K :=
  ef_lc (h.mono fun l ⟨α, xs, f, y, e, hz, hs, hk⟩ => by
    subst e
    refine ⟨fun i acc => acc = (xs.map y).take i, by simp, fun W1 i d acc hi ha => ?_, fun acc ha => ?_⟩
    · rw [List.getElem?_map] at hi
      cases hx : xs[i]? with
      | none => rw [hx] at hi; cases hi
      | some x =>
        rw [hx] at hi; cases hi
        have hlt : i < xs.length := by
          have := List.getElem?_eq_some_iff.mp hx; exact this.1
        intro W H σ v ow e o r Q q
        refine hs W1 x (List.mem_of_getElem? hx) W H σ v ow e o r Q fun Γ' σ' e' o' w k => q Γ' σ' e' o' w (tk_yes ⟨fun _ => k.mono fun z hz2 => ?_, fun z => nomatch z⟩)
        subst hz2
        subst ha
        refine ⟨by rw [List.length_take, List.length_map]; omega, ?_⟩
        show _ = (xs.map y).take (i + 1)
        rw [List.take_succ, List.getElem?_map, hx]
        rfl
    · rw [ha, List.length_map, show xs.length = (xs.map y).length by rw [List.length_map], List.take_length]; exact hk)
theorem ef_filt {wi : TI} {g : TG} {tt : TT} {vs : List Nat} {K : List D → Prop} (h : IK C B Γ wi fun l => ∃ (α : Type) (xs : List α) (f y : α → D) (p : α → Bool), l = xs.map f ∧ xs.length ≤ sizeLine ∧
      (∀ W1 x, x ∈ xs → CG C (B.keep W1) (wipeG Γ vs) g (f x) vs fun Γ2 => TK C (B.keep W1) Γ2 tt fun b => b = p x ∧ (b = true → EK C (B.keep W1) Γ2 te fun z => z = y x)) ∧ K ((xs.filter p).map y)) : EF C B Γ (tLc wi g tt te vs) K :=
  ef_lc (h.mono fun l ⟨α, xs, f, y, p, e, hz, hs, hk⟩ => by
    subst e
    refine ⟨fun i acc => acc = ((xs.take i).filter p).map y, by simp, fun W1 i d acc hi ha => ?_, fun acc ha => ?_⟩
    · rw [List.getElem?_map] at hi
      cases hx : xs[i]? with
      | none => rw [hx] at hi; cases hi
      | some x =>
        rw [hx] at hi; cases hi
        have hlt : i < xs.length := by
          have := List.getElem?_eq_some_iff.mp hx; exact this.1
        intro W H σ v ow e o r Q q
        refine hs W1 x (List.mem_of_getElem? hx) W H σ v ow e o r Q fun Γ' σ' e' o' w k => q Γ' σ' e' o' w (k.mono fun b hb => ⟨fun hbt => (hb.2 hbt).mono fun z hz2 => ?_, fun hbf => ?_⟩)
        · subst hz2
          subst ha
          have hp : p x = true := by rw [← hb.1, hbt]
          have hle : ((xs.take i).filter p).length ≤ i := Nat.le_trans (List.length_filter_le _ _) (by rw [List.length_take]; omega)
          refine ⟨by rw [List.length_map]; omega, ?_⟩
          show _ = ((xs.take (i + 1)).filter p).map y
          rw [List.take_succ, hx]
          simp [hp]
        · subst ha
          have hp : p x = false := by rw [← hb.1, hbf]
          show _ = ((xs.take (i + 1)).filter p).map y
          rw [List.take_succ, hx]
          simp [hp]
    · rw [ha, List.length_map, List.take_length]; exact hk)
theorem enumD_map {α : Type} (xs : List α) (f : α → D) : enumD (xs.map f) = xs.zipIdx.map fun p => .tup [.int (p.2 : Nat), f p.1] := by
  unfold enumD; rw [List.zipIdx_map, List.map_map]; rfl
theorem zipD_map {α β : Type} (xs : List α) (ys : List β) (f : α → D) (g : β → D) : zipD (xs.map f) (ys.map g) = (xs.zip ys).map fun p => .tup [f p.1, g p.2] := by
  unfold zipD; rw [List.zip_map, List.map_map]; rfl
/-- if ..: .., where the test fails -/
theorem sx_skip {tt : TT} (h : TK C B Γ tt fun b => b = false) (k : SX C B Γ u nx rt bk ct) : SX C B Γ (tSeq (tIfS tt t tNext) u) nx rt bk ct :=
  sx_seq (sx_if (h.mono fun b e => ⟨fun z => (by rw [e] at z; cases z), fun _ => sx_next k⟩))
theorem uk_neg {i : Int} (k : K (.int (-i))) : UK C B (L2.rU fun i => .int (-i)) (.int i) K := uk_I (fun _ => .int _) k
/-! ### dicts -/
def valD (l : List (Key × D)) (k : Key) : Option D := (l.find? fun kv => decide (kv.1 = k)).map (·.2)
theorem valV_rep {P : Option Addr} {W : Hp} {k : Key} {d : D} : ∀ {fs : List (Key × V)} {l : List (Key × D)}, fs.map (·.1) = l.map (·.1) → RepL C P W (fs.map (·.2)) (l.map (·.2)) → valD l k = some d → ∃ v, valV fs k = some v ∧ Rep C P W v d
  | [], [], _, _, h => by cases h
  | [], _ :: _, h, _, _ => by cases h
  | _ :: _, [], h, _, _ => by cases h
  | p :: fs, q :: l, h, r, h2 => by
    rw [List.map_cons, List.map_cons] at h
    injection h with h1 h3
    cases r with
    | cons r rr =>
      by_cases e : q.1 = k
      · rw [valV_pos (h1.trans e)]
        simp [valD, List.find?_cons, e] at h2
        subst h2
        exact ⟨_, rfl, r⟩
      · rw [valV_neg (fun z => e (h1.symm.trans z))]
        simp [valD, List.find?_cons, e] at h2
        exact valV_rep h3 rr (by simpa [valD] using h2)
theorem rep_dic {P : Option Addr} {W : Hp} {v : V} {l : List (Key × D)} (r : Rep C P W v (.dic l)) : ∃ a fs, v = .ref a ∧ W a = some (.dK fs) ∧ fs.map (·.1) = l.map (·.1) ∧ RepL C P W (fs.map (·.2)) (l.map (·.2)) := by
  cases r with
  | dic h e r => exact ⟨_, _, rfl, h, e, r⟩
/-- d["k"] -/
theorem ek_dget {x : Str} (h : EK C B Γ ta fun d => ∃ l y, d = .dic l ∧ valD l (.inr x) = some y ∧ K y) : EK C B Γ (tDGet ta (tC (.str x))) K := fun W H σ e Q q =>
  h W H σ e _ fun d v W1 H1 s1 r1 ⟨l, y, e0, hv, k⟩ => by
    subst e0
    obtain ⟨a, fs, rfl, ha, hk, hr⟩ := rep_dic r1
    obtain ⟨u, hu, ru⟩ := valV_rep hk hr hv
    exact ⟨a, u, rfl, by rw [← hu]; exact DGet.k (k := .inr x) (s1.wh _ _ ha), q y u W1 H1 s1 ru k⟩
/-- what a display's pairs make -/
def PK (C : Cl) (B : Bs) (Γ : List Sl) (trs : List (TE × TE)) (K : List (Key × D) → Prop) : Prop := ∀ W H σ, EnvOk C B W H σ Γ → ∀ Q : List (V × V) → Hp → Prop, (∀ (l : List (Key × D)) (fs : List (Key × V)) W' H', Stp C B.P noS W H W' H' → fs.map (·.1) = l.map (·.1) → RepL C B.P W' (fs.map (·.2)) (l.map (·.2)) → K l → Q (fs.map fun kv => (kV kv.1, kv.2)) H') → tPairs trs σ H Q
theorem pk_nil {K : List (Key × D) → Prop} (k : K []) : PK C B Γ [] K := fun W H σ e Q q => q [] [] W H (.refl e.wh) rfl .nil k
theorem pk_cons {x : Str} {trs : List (TE × TE)} {K : List (Key × D) → Prop} (h : EK C B Γ ta fun d => PK C B Γ trs fun l => K ((.inr x, d) :: l)) : PK C B Γ ((tC (.str x), ta) :: trs) K := fun W H σ e Q q =>
  h W H σ e _ fun d v W1 H1 s1 r1 h1 => h1 W1 H1 σ (e.step s1) _ fun l fs W2 H2 s2 hk hr k =>
    q ((.inr x, d) :: l) ((.inr x, v) :: fs) W2 H2 (s1.trans s2) (by rw [List.map_cons, List.map_cons, hk]) (.cons (r1.mono s2.ww) hr) k
theorem mergeK_app : ∀ (fs acc : List (Key × V)), ((acc ++ fs).map (·.1)).Nodup → mergeK acc fs = acc ++ fs
  | [], acc, _ => by rw [List.append_nil]; rfl
  | p :: fs, acc, h => by
    have h1 : (acc.any fun kv => decide (kv.1 = p.1)) = false := by
      rw [List.map_append, List.map_cons] at h
      rw [List.any_eq_false]
      intro kv hk
      have := (List.nodup_append.mp h).2.2 kv.1 (List.mem_map_of_mem hk) p.1 List.mem_cons_self
      simpa using this
    have e : putK acc p.1 p.2 = acc ++ [p] := by unfold putK; rw [h1]; rfl
    show mergeK (putK acc p.1 p.2) fs = _
    rw [e, mergeK_app fs (acc ++ [p]) (by rw [List.append_assoc]; exact h), List.append_assoc]; rfl
/-- {"k": v, ..} -/
theorem ek_disp {trs : List (TE × TE)} (h : PK C B Γ trs fun l => (l.map (·.1)).Nodup ∧ l.length ≤ 15 ∧ K (.dic l)) : EK C B Γ (tDisp trs) K := fun W H σ e Q q p hp => by
  have s0 := Stp.own (C := C) (P := B.P) (S := noS) (o := .dK []) e.wh hp e.pl.ne
  have hP : B.P ≠ some p := fun z => e.pl.ne p z hp
  have hW : W p = none := by
    cases z : W p with
    | none => rfl
    | some o => rw [e.wh _ _ z] at hp; cases hp
  refine h W _ σ (e.step s0) _ fun l fs W2 H2 s2 hk hr ⟨hn, hl, k⟩ => ?_
  have hH2 : H2 p = some (.dK []) := s2.hh _ _ upd_same hP (fun z => nomatch z)
  have hW2 : W2 p = none := (s2.old _ _ upd_same).trans hW
  have hlen : fs.length = l.length := by have := congrArg List.length hk; simpa using this
  refine ⟨hH2, fs, rfl, by omega, ?_⟩
  rw [mergeK_app fs [] (by rw [List.nil_append, hk]; exact hn), List.nil_append]
  have ww : Same W2 (upd W2 p (.dK fs)) := fun b x z => by rw [upd_ne (fun y => by subst y; rw [hW2] at z; cases z)]; exact z
  have st := s0.trans s2
  refine q _ _ (upd W2 p (.dK fs)) _ ⟨st.ww.trans ww, fun b x z => ?_, fun b x z1 z2 z3 => ?_, fun b x z => ?_, fun b x z => ?_, fun b z w => ?_⟩ (.dic upd_same hk (hr.mono ww)) k
  · by_cases hb : b = p
    · subst hb; rw [upd_same] at z ⊢; exact z
    · rw [upd_ne hb] at z ⊢; exact s2.wh b x z
  · rw [upd_ne (ne_of_none z1 hp)]; exact st.hh b x z1 z2 z3
  · rw [upd_ne (ne_of_none z hp)]; exact st.dom b x z
  · rw [upd_ne (ne_of_none z hp)]; exact st.old b x z
  · rw [upd_ne (fun y => by subst y; exact hP z)]; exact C.pkm ww (st.pool b z w)
end
end G
end

section
set_option maxRecDepth 100000
set_option maxHeartbeats 2000000
/-! rationals of a known size -/
namespace G
open PySem PySem.Spec PyProof.Rows L2
def EE : Nat := 360360
def MM : Nat := 11531520
/-- q is over 360360^k, and not big -/
def Nice (k : Nat) (q : Rat) : Prop := ∃ z : Int, z.natAbs ≤ MM ^ k ∧ q * ((EE ^ k : Nat) : Rat) = (z : Rat)
theorem EE_pos (k : Nat) : 0 < EE ^ k := Nat.pow_pos (by decide)
theorem EE_ne (k : Nat) : ((EE ^ k : Nat) : Rat) ≠ 0 := by
  have := EE_pos k
  intro h
  have : EE ^ k = 0 := by exact_mod_cast h
  omega
theorem Nice.up {k : Nat} {q : Rat} (h : Nice k q) : Nice (k + 1) q := by
  obtain ⟨z, h1, h2⟩ := h
  refine ⟨z * (EE : Int), ?_, ?_⟩
  · rw [Int.natAbs_mul, Nat.pow_succ]
    exact Nat.mul_le_mul h1 (by decide)
  · rw [Nat.pow_succ]
    push_cast
    rw [← h2]; push_cast; grind
theorem Nice.mono {k l : Nat} {q : Rat} (h : Nice k q) (hl : k ≤ l) : Nice l q := by
  induction hl with
  | refl => exact h
  | step _ ih => exact ih.up
theorem Nice.zero (k : Nat) : Nice k 0 := ⟨0, Nat.zero_le _, by simp⟩
theorem Nice.int {i : Int} (h : i.natAbs ≤ 32) : Nice 1 i := by
  refine ⟨i * (EE : Int), ?_, ?_⟩
  · rw [Int.natAbs_mul, Nat.pow_one, show MM = 32 * EE from rfl]
    exact Nat.mul_le_mul h (Nat.le_refl _)
  · rw [Nat.pow_one]; push_cast; rfl
theorem Nice.neg {k : Nat} {q : Rat} (h : Nice k q) : Nice k (-q) := by
  obtain ⟨z, h1, h2⟩ := h
  exact ⟨-z, by rwa [Int.natAbs_neg], by push_cast; rw [← h2]; grind⟩
theorem Nice.sumZ {k : Nat} : ∀ {xs : List Rat}, (∀ x ∈ xs, Nice k x) → ∃ z : Int, z.natAbs ≤ xs.length * MM ^ k ∧ xs.sum * ((EE ^ k : Nat) : Rat) = (z : Rat)
  | [], _ => ⟨0, Nat.zero_le _, by simp⟩
  | x :: xs, h => by
    obtain ⟨z, h1, h2⟩ := Nice.sumZ fun y hy => h y (List.mem_cons_of_mem _ hy)
    obtain ⟨u, h3, h4⟩ := h x List.mem_cons_self
    refine ⟨u + z, ?_, ?_⟩
    · have := Int.natAbs_add_le u z
      rw [List.length_cons, Nat.succ_mul]
      omega
    · rw [List.sum_cons]; push_cast; rw [← h2, ← h4]; push_cast; grind
theorem Nice.sum {k : Nat} {xs : List Rat} (h : ∀ x ∈ xs, Nice k x) (hl : xs.length ≤ 32) : Nice (k + 1) xs.sum := by
  obtain ⟨z, h1, h2⟩ := Nice.sumZ h
  refine ⟨z * (EE : Int), ?_, ?_⟩
  · rw [Int.natAbs_mul, Nat.pow_succ, show MM = 32 * EE from rfl, Nat.mul_comm 32 EE, ← Nat.mul_assoc, Nat.mul_right_comm]
    refine Nat.mul_le_mul (Nat.le_trans h1 ?_) (Nat.le_refl _)
    rw [Nat.mul_comm]
    exact Nat.mul_le_mul (Nat.le_refl _) hl
  · rw [Nat.pow_succ]
    push_cast
    rw [← h2]; push_cast; grind
theorem Nice.add {k : Nat} {p q : Rat} (h : Nice k p) (h' : Nice k q) : Nice (k + 1) (p + q) := by
  have := Nice.sum (xs := [p, q]) (k := k) (by simp [h, h']) (by simp)
  simpa [Rat.add_zero] using this
theorem Nice.sub {k : Nat} {p q : Rat} (h : Nice k p) (h' : Nice k q) : Nice (k + 1) (p - q) := by
  rw [Rat.sub_eq_add_neg]; exact h.add h'.neg
theorem Nice.mul {k l : Nat} {p q : Rat} (h : Nice k p) (h' : Nice l q) : Nice (k + l) (p * q) := by
  obtain ⟨z, h1, h2⟩ := h
  obtain ⟨u, h3, h4⟩ := h'
  refine ⟨z * u, ?_, ?_⟩
  · rw [Int.natAbs_mul, Nat.pow_add]; exact Nat.mul_le_mul h1 h3
  · rw [Nat.pow_add]; push_cast; rw [← h2, ← h4]; push_cast; grind
theorem Nice.eq {k : Nat} {q : Rat} {z : Int} (h : q * ((EE ^ k : Nat) : Rat) = (z : Rat)) : q = Rat.divInt z (EE ^ k : Nat) := by
  rw [Rat.divInt_eq_div, ← h]
  have := EE_ne k
  have e : (((EE ^ k : Nat) : Int) : Rat) = ((EE ^ k : Nat) : Rat) := Rat.intCast_natCast _
  rw [e]
  grind
theorem Nice.den {k : Nat} {q : Rat} (h : Nice k q) : q.den ≤ EE ^ k := by
  obtain ⟨z, h1, h2⟩ := h
  rw [Nice.eq h2, Rat.den_divInt]
  split
  · exact EE_pos k
  · exact Nat.le_trans (Nat.div_le_self _ _) (by rw [Int.natAbs_natCast]; exact Nat.le_refl _)
theorem Nice.num {k : Nat} {q : Rat} (h : Nice k q) : q.num.natAbs ≤ MM ^ k := by
  obtain ⟨z, h1, h2⟩ := h
  have hp : (0 : Int) < (EE ^ k : Nat) := by have := EE_pos k; omega
  rw [Nice.eq h2, Rat.num_divInt, Int.sign_eq_one_of_pos hp, Int.one_mul]
  exact Nat.le_trans (Int.natAbs_ediv_le_natAbs _ _) h1
theorem MM_bits (k : Nat) : MM ^ k < 2 ^ (24 * k + 1) := by
  rw [Nat.pow_succ, Nat.pow_mul]
  have : MM ^ k ≤ (2 ^ 24) ^ k := Nat.pow_le_pow_left (by decide) k
  have : 0 < (2 ^ 24) ^ k := Nat.pow_pos (by decide)
  omega
theorem Nice.bits {k : Nat} {q : Rat} (h : Nice k q) : q.num.natAbs < 2 ^ (24 * k + 1) ∧ q.den < 2 ^ (24 * k + 1) :=
  ⟨Nat.lt_of_le_of_lt h.num (MM_bits k), Nat.lt_of_le_of_lt h.den (Nat.lt_of_le_of_lt (Nat.pow_le_pow_left (by decide) k) (MM_bits k))⟩
theorem Nice.sz {k : Nat} {q : Rat} (h : Nice k q) (hk : k ≤ 160) : SzQ q :=
  ⟨Nat.lt_of_lt_of_le h.bits.1 (Nat.pow_le_pow_right (by decide) (by omega)), Nat.lt_of_lt_of_le h.bits.2 (Nat.pow_le_pow_right (by decide) (by omega))⟩
/-- a pair of the law's own for q -/
def LR (b : Nat) (q : Rat) (d : D) : Prop := ∃ n m : Int, d = .tup [.int n, .int m] ∧ 0 < m ∧ (n : Rat) = q * (m : Rat) ∧ n.natAbs < 2 ^ b ∧ m.natAbs < 2 ^ b
def lowD (q : Rat) : D := .tup [.int q.num, .int (q.den : Nat)]
theorem num_mul (q : Rat) : (q.num : Rat) = q * ((q.den : Int) : Rat) := by
  have h : (q.den : Rat) ≠ 0 := by
    intro h; have : q.den = 0 := by exact_mod_cast h
    exact q.den_nz this
  have e : (((q.den : Nat) : Int) : Rat) = ((q.den : Nat) : Rat) := Rat.intCast_natCast _
  rw [e]
  have := Rat.num_divInt_den q
  rw [Rat.divInt_eq_div, e] at this
  grind
theorem LR.low {k : Nat} {q : Rat} (h : Nice k q) : LR (24 * k + 1) q (lowD q) :=
  ⟨q.num, q.den, rfl, by have := q.den_pos; omega, num_mul q, h.bits.1, by rw [Int.natAbs_natCast]; exact h.bits.2⟩
theorem LR.mono {b c : Nat} {q : Rat} {d : D} (h : LR b q d) (hb : b ≤ c) : LR c q d := by
  obtain ⟨n, m, e, h1, h2, h3, h4⟩ := h
  exact ⟨n, m, e, h1, h2, Nat.lt_of_lt_of_le h3 (Nat.pow_le_pow_right (by decide) hb), Nat.lt_of_lt_of_le h4 (Nat.pow_le_pow_right (by decide) hb)⟩
theorem lt_prod {x y : Int} {b c : Nat} (h : x.natAbs < 2 ^ b) (k : y.natAbs < 2 ^ c) : (x * y).natAbs < 2 ^ (b + c) := by
  rw [Int.natAbs_mul, Nat.pow_add]
  exact Nat.mul_lt_mul_of_lt_of_le h (Nat.le_of_lt k) (Nat.pos_of_ne_zero (by omega))
theorem lt_sum {x y : Int} {b : Nat} (h : x.natAbs < 2 ^ b) (k : y.natAbs < 2 ^ b) : (x + y).natAbs < 2 ^ (b + 1) := by
  have := Int.natAbs_add_le x y
  rw [Nat.pow_succ]; omega
theorem pair_lt {n m i j : Int} {p q : Rat} (hm : 0 < m) (hj : 0 < j) (h : (n : Rat) = p * (m : Rat)) (k : (i : Rat) = q * (j : Rat)) : n * j < i * m ↔ p < q := by
  rw [← Rat.intCast_lt_intCast]
  push_cast
  rw [h, k]
  have h1 : (0 : Rat) < (m : Rat) := Rat.intCast_pos.mpr hm
  have h2 : (0 : Rat) < (j : Rat) := Rat.intCast_pos.mpr hj
  have h3 := Rat.mul_pos h1 h2
  constructor
  · intro z
    apply Decidable.byContradiction
    intro hn
    have hn := Rat.not_lt.mp hn
    have : (0 : Rat) ≤ (p - q) * (m * j : Rat) := Rat.mul_nonneg (by grind) (Rat.le_of_lt h3)
    grind
  · intro z
    have : (0 : Rat) < (q - p) * (m * j : Rat) := Rat.mul_pos (by grind) h3
    grind
theorem pair_eq {n m i j : Int} {p q : Rat} (hm : 0 < m) (hj : 0 < j) (h : (n : Rat) = p * (m : Rat)) (k : (i : Rat) = q * (j : Rat)) : n * j = i * m ↔ p = q := by
  rw [← Rat.intCast_inj]
  push_cast
  rw [h, k]
  have h1 : (0 : Rat) < (m : Rat) := Rat.intCast_pos.mpr hm
  have h2 : (0 : Rat) < (j : Rat) := Rat.intCast_pos.mpr hj
  constructor
  · intro z
    have : (p - q) * (m * j : Rat) = 0 := by grind
    have h3 := Rat.mul_pos h1 h2
    rcases Rat.mul_eq_zero.mp this with h | h <;> grind
  · intro z; subst z; grind
theorem pair_div {n m : Int} {p : Rat} (hm : 0 < m) (h : (n : Rat) = p * (m : Rat)) : Rat.divInt n m = p := by
  rw [Rat.divInt_eq_div, h]
  have h1 : (0 : Rat) < (m : Rat) := Rat.intCast_pos.mpr hm
  grind
def rmax (p q : Rat) : Rat := if p < q then q else p
theorem Nice.rmax {k : Nat} {p q : Rat} (h : Nice k p) (h' : Nice k q) : Nice k (rmax p q) := by
  unfold G.rmax; split <;> assumption
end G
namespace G
open PySem PySem.Spec PyProof.Rows L2
/-- numerator and denominator below 2^b -/
def Bd (b : Nat) (q : Rat) : Prop := q.num.natAbs < 2 ^ b ∧ q.den < 2 ^ b
theorem Bd.mono {b c : Nat} {q : Rat} (h : Bd b q) (hb : b ≤ c) : Bd c q := ⟨Nat.lt_of_lt_of_le h.1 (Nat.pow_le_pow_right (by decide) hb), Nat.lt_of_lt_of_le h.2 (Nat.pow_le_pow_right (by decide) hb)⟩
theorem Nice.bd {k : Nat} {q : Rat} (h : Nice k q) : Bd (24 * k + 1) q := h.bits
theorem Bd.sz {b : Nat} {q : Rat} (h : Bd b q) (hb : b ≤ 4000) : SzQ q := ⟨(h.mono hb).1, (h.mono hb).2⟩
theorem bd_div {n d : Int} {b : Nat} (hd : 0 < d) (hn : n.natAbs < 2 ^ b) (h : d.natAbs < 2 ^ b) : Bd b (Rat.divInt n d) := by
  refine ⟨?_, ?_⟩
  · rw [divInt_num hd]
    exact Nat.lt_of_le_of_lt (Int.natAbs_ediv_le_natAbs _ _) hn
  · have e := divInt_den (n := n) hd
    have h2 := Int.ediv_le_self (a := d) ((Nat.gcd n.natAbs d.natAbs : Nat) : Int) (by omega)
    omega
theorem Bd.add {b c : Nat} {p q : Rat} (h : Bd b p) (k : Bd c q) : Bd (b + c + 1) (p + q) := by
  have e := Rat.add_def' p q
  rw [e, ← Rat.divInt_ofNat]
  have d1 := p.den_pos
  have d2 := q.den_pos
  refine bd_div (by push_cast; exact Int.mul_pos (by omega) (by omega)) ?_ ?_
  · refine lt_sum ?_ ?_
    · exact lt_prod h.1 (by rw [Int.natAbs_natCast]; exact k.2)
    · rw [Nat.add_comm b c]
      exact lt_prod k.1 (by rw [Int.natAbs_natCast]; exact h.2)
  · push_cast
    refine Nat.lt_of_lt_of_le (lt_prod (x := (p.den : Int)) (y := (q.den : Int)) (by rw [Int.natAbs_natCast]; exact h.2) (by rw [Int.natAbs_natCast]; exact k.2)) (Nat.pow_le_pow_right (by decide) (by omega))
theorem Bd.mul {b c : Nat} {p q : Rat} (h : Bd b p) (k : Bd c q) : Bd (b + c) (p * q) := by
  have e := Rat.mul_def' p q
  rw [e, ← Rat.divInt_ofNat]
  have d1 := p.den_pos
  have d2 := q.den_pos
  refine bd_div (by push_cast; exact Int.mul_pos (by omega) (by omega)) (lt_prod h.1 k.1) ?_
  push_cast
  exact lt_prod (x := (p.den : Int)) (y := (q.den : Int)) (by rw [Int.natAbs_natCast]; exact h.2) (by rw [Int.natAbs_natCast]; exact k.2)
theorem Bd.rmax {b : Nat} {p q : Rat} (h : Bd b p) (k : Bd b q) : Bd b (rmax p q) := by unfold G.rmax; split <;> assumption
theorem Bd.zero {b : Nat} (h : 1 ≤ b) : Bd b 0 := Bd.mono (b := 1) ⟨by decide, by decide⟩ h
theorem Bd.sum {k : Nat} : ∀ {xs : List Rat}, (∀ x ∈ xs, Bd k x) → Bd (1 + xs.length * (k + 1)) xs.sum
  | [], _ => by rw [List.sum_nil]; exact Bd.zero (by omega)
  | x :: xs, h => by
    rw [List.sum_cons]
    have := (h x List.mem_cons_self).add (Bd.sum fun y hy => h y (List.mem_cons_of_mem _ hy))
    refine this.mono ?_
    rw [List.length_cons, Nat.succ_mul]; omega
end G
end

section
set_option maxRecDepth 100000
set_option maxHeartbeats 2000000
/-! enumerate(a tuple) -/
namespace GEn
open PySem PySem.Spec PyProof.Rows L2
theorem meets_enumerate_newT (l : Addr) (items : Array Value) :
    Meets (Builtin.«enumerate.__new__» ⟨[.type "enumerate", .ref l], []⟩) (fun _ R s => s.heap.IsTuple l items ∧
      R (.ok (.ret (.ref (s.heap.push { cls := .type "tuple_iterator", data := .fields #[.ref l, .int 0 0] }).objs.size)))
        { s with heap := (s.heap.push { cls := .type "tuple_iterator", data := .fields #[.ref l, .int 0 0] }).push { cls := .type "enumerate", data := .fields #[.none, .bool false, .ref s.heap.objs.size, rawInt 0, .none, .none] } }) :=
  .of_wp fun prog w A R s h => by
    obtain ⟨hp, g, d, tk, os⟩ := s; obtain ⟨hl, h⟩ := h
    have hsub := sub_enumerate
    have hL : Heap.IsTuple (Shared.heap ⟨hp, g, d, tk, os⟩) l items := hl
    wp_walk
    refine wpAny_stack_any fun st => wpAny_pure ?_
    split
    · rename_i c _ _ _ _ _
      cases (c == Value.type "enumerate")
      · wp_walk using wpAny_pyIter_tuple hL
        exact ⟨_, rfl, h⟩
      · wp_walk using wpAny_pyIter_tuple hL
        exact ⟨_, rfl, h⟩
    · wp_walk using wpAny_pyIter_tuple hL
      exact ⟨_, rfl, h⟩
theorem call_enumerate_tup {prog : Program} {w : World} {A : Around} {E : Value → Shared → Prop} {s : Shared} {l : Addr} {items : Array Value} {Q : Value → Shared → Prop} (hL : s.heap.IsTuple l items)
    (h : ∀ h', IsEnum h' (s.heap.objs.size + 1) s.heap.objs.size 0 .none → h'.IsTupleIter s.heap.objs.size l 0 → h'.objs.size = s.heap.objs.size + 2 →
      (∀ b o, s.heap.get? b = some o → h'.get? b = some o) → Q (.ref (s.heap.objs.size + 1)) { s with heap := h' }) :
    wpAny (model prog w) A (call (.type "enumerate") [.ref l]) Q E s := by
  refine callType_new F.called_enumerate (by decide) (F.typeCall_enumerate_1 _) (F.newCall_enumerate_1 _) (fun obj => F.args_object_init_2 obj _) F.entry_enumerate_new
    (meets_enumerate_newT l items) ⟨hL, ?_⟩
  have hz : (s.heap.push { cls := .type "tuple_iterator", data := .fields #[.ref l, .int 0 0] }).objs.size = s.heap.objs.size + 1 := Heap.size_push ..
  show _ ∧ _
  rw [hz]
  have he : IsEnum ((s.heap.push { cls := .type "tuple_iterator", data := .fields #[.ref l, .int 0 0] }).push
      { cls := .type "enumerate", data := .fields #[.none, .bool false, .ref s.heap.objs.size, rawInt 0, .none, .none] }) (s.heap.objs.size + 1) s.heap.objs.size 0 .none := by
    have := Heap.get?_push_size (s.heap.push { cls := .type "tuple_iterator", data := .fields #[.ref l, .int 0 0] })
      (o := { cls := .type "enumerate", data := .fields #[.none, .bool false, .ref s.heap.objs.size, rawInt 0, .none, .none] }) rfl
    rw [hz] at this; exact this
  refine ⟨⟨_, he, rfl⟩, h _ he ⟨_, Heap.get?_push_of_some _ (Heap.get?_push_size _ rfl), rfl, rfl⟩ (by rw [Heap.size_push, hz]) fun b o x => Heap.get?_push_of_some _ (Heap.get?_push_of_some _ x)⟩
def IteT (K : PySem.W.Frag) (a : Addr) : It :=
  ⟨fun i H => ∃ (xs : List V) (x : V), SqT K H a xs ∧ xs[i]? = some x, fun i H v H' => ∃ T x, v = .ref T ∧ H T = none ∧ H' = upd H T (.tup [.int (i : Nat), x]) ∧ ∀ xs, SqT K H a xs → xs[i]? = some x, fun i H => ∃ xs : List V, SqT K H a xs ∧ xs.length ≤ i⟩
theorem enum_ne_tup {h : Heap} {e it a : Addr} {i : Int} {old : Value} {items : Array Value} (he : IsEnum h e it i old) (ht : h.IsTuple a items) : e ≠ a := fun z => by
  subst z
  obtain ⟨o, ho, hc, _⟩ := ht
  have he' : h.get? e = some _ := he
  rw [ho] at he'
  injection he' with he'
  rw [he'] at hc
  exact absurd (show Value.type "enumerate" = Value.type "tuple" from hc) (by decide)
theorem it_ne_tup {h : Heap} {it a : Addr} {i : Nat} {items : Array Value} (hit : h.IsTupleIter it a i) (ht : h.IsTuple a items) : a ≠ it := fun z => by
  subst z
  obtain ⟨o, ho, hc, _⟩ := ht
  obtain ⟨o', ho', hc', _⟩ := hit
  rw [ho] at ho'
  injection ho' with ho'
  rw [← ho', hc] at hc'
  exact absurd hc' (by decide)
theorem turn_enumT {P : Program} {w : World} {K : PySem.W.Frag} {elts : List Expr} {kk : Nat} {tpos : Pos} (a e it : Addr) :
    Turn P w K (.Tuple elts kk tpos) (IteT K a) [e, it] e (fun i h => (∃ old, IsEnum h e it ((i : Nat) : Int) old) ∧ h.IsTupleIter it a i ∧ e ≠ it) where
  mem := by simp
  obj := fun i h st b hb => by
    obtain ⟨⟨old, he⟩, ⟨o, ho, hc, hd⟩, _⟩ := st
    have e' : b = e ∨ b = it := by simpa using hb
    rcases e' with z | z
    · rw [z]; exact ⟨_, he, fun v q => nomatch q⟩
    · rw [z]; exact ⟨o, ho, fun v q => by rw [hd] at q; cases q⟩
  keep := fun i h h' st k => let ⟨⟨old, he⟩, hi, hne⟩ := st; ⟨⟨old, k e (by simp) _ he⟩, hi.at fun o q => k it (by simp) o q, hne⟩
  item := by
    intro X hP hw hK hc i pins s σ H E I hf st hg
    subst hP hw hK
    obtain ⟨⟨old, he⟩, hit, hne⟩ := st
    obtain ⟨xs, x, hq, hx⟩ := hg
    obtain ⟨its, rv, p, hz⟩ := I.tuple hq
    have p : s.heap.IsTuple a its.toArray := p
    obtain ⟨u, hu, ru⟩ := rv.get hx
    have hel : e < s.heap.objs.size := Heap.lt_size he
    have hil : it < s.heap.objs.size := by obtain ⟨_, q, _⟩ := hit; exact Heap.lt_size q
    have hlt : i < its.toArray.size := by
      have := List.getElem?_eq_some_iff.mp hu
      obtain ⟨h1, _⟩ := this
      simpa using h1
    refine wpAny_pyNext_enum_itemD (Draws.tuple (A := X.A.in1) (I.ok.hd hc) it a (it_ne_tup hit p) its.toArray) he ⟨hit, p⟩ hlt hne (by
      have := enum_ne_tup he p
      simp [hne, this]) fun u' h' tk hu' ho hit' hT hsz hk => ?_
    have eu : u' = u := by
      have : its.toArray[i]? = some u := by simpa using hu
      rw [this] at hu'; exact (Option.some.inj hu').symm
    subst eu
    obtain ⟨hit', _⟩ := hit'
    refine ⟨_, rfl, wpAny_letOwnedTupleGo_enum (s := { s with heap := h', toks := tk + 1 }) ho fun h'' he' sb => ?_⟩
    have hT2 : h''.get? s.heap.objs.size = some { cls := .type "tuple", data := .seq #[.int i tk, u'] } := (sb.2 _ (Nat.ne_of_gt hel)).trans hT
    have new : ObjOk X.prog X.w (upd H s.heap.objs.size (.tup [.int (i : Nat), x])) h'' s.heap.objs.size (.tup [.int (i : Nat), x]) :=
      ⟨by show 2 ≤ sizeLine; decide, [.int i tk, u'], .cons ⟨_, rfl⟩ (.cons ru .nil), ⟨_, hT2, rfl, _, rfl⟩⟩
    have I1 : Inv X pins σ (upd H s.heap.objs.size (.tup [.int (i : Nat), x])) { s with heap := h'', toks := tk + 1 } :=
      I.turnedNew (ch := [e, it]) (fun b ob hb q => (sb.2 b (fun z => hb (by simp [z]))).trans (hk b ob (fun z => hb (by simp [z])) (fun z => hb (by simp [z])) q)) hf (Nat.le_refl _) new
    refine ⟨.ref s.heap.objs.size, _, I1, rfl, ⟨_, x, rfl, I.hok.fresh (Nat.le_refl _), rfl, fun ys hy => by rw [I.tuple_inj hy hq]; exact hx⟩, ⟨⟨u', ?_⟩, hit'.at fun o q => (sb.2 it (Ne.symm hne)).trans q, hne⟩, fun b hb => ?_⟩
    · have e1 : ((i + 1 : Nat) : Int) = (i : Int) + 1 := by omega
      rw [e1]; exact he'
    · have hb' : b < s.heap.objs.size := by
        have e' : b = e ∨ b = it := by simpa using hb
        rcases e' with z | z
        · rw [z]; exact hel
        · rw [z]; exact hil
      rw [upd_ne (Nat.ne_of_lt hb')]
      exact (hf b hb).1
  done := by
    intro X hP hw hK hc i pins s σ H E I hf st hg
    subst hP hw hK
    obtain ⟨⟨old, he⟩, hit, hne⟩ := st
    obtain ⟨xs, hq, hx⟩ := hg
    obtain ⟨its, rv, p, hz⟩ := I.tuple hq
    have p : s.heap.IsTuple a its.toArray := p
    obtain ⟨f0, f1, f2, f3, f4, f5⟩ := hf it (by simp)
    have hl := rv.length
    unfold pyNext
    have hT : s.TypeIs (.ref e) "enumerate" := ⟨_, he, rfl⟩
    refine wpAny_bind (wpAny_attempt (wpAny_callSpecial?_slot (name := Str.ofString "__next__") hT F.slot_enumerate_next
      (wpAny_call_entry F.slot_enumerate_next hT F.entry_enumerate_next ?_ (F.args_enumerate_next_1 _))))
    show wpAny _ _ (field (.ref e) 2 >>= _) _ _ _
    refine wpAny_bind (wpAny_field he rfl (x := .ref it) rfl ?_)
    refine wpAny_bind (wpAny_nextOf_tuple_end (I.ok.hd hc) hit p (by simp; omega) fun h' x he' hx' => ?_)
    obtain ⟨o, ho, hc⟩ := hx'
    refine wpAny_bind (wpAny_isInstance (T := "StopIteration") (b := true) ⟨o, ho, hc⟩ isSubtype_stop ?_)
    exact wpAny_pure ⟨rfl, I.turned (t' := s.toks) (fun b o hb q => he' b o hb q) f0 f1 f3 f4 f5⟩
  self := fun A i s Q E st h => let ⟨⟨_, he⟩, _⟩ := st; wpAny_pyIter_enum he h
def iEnumA (K : PySem.W.Frag) (ta : TA) : TI := fun σ H R => ta σ H fun vs H1 => ∃ a xs, vs = [.ref a] ∧ (SqL K H1 a xs ∧ R (Ite K a) H1 ∨ SqT K H1 a xs ∧ R (IteT K a) H1)
theorem pi_enumA {X : Cx} {e : Expr} {ta : TA} {p pos tpos : Pos} {elts : List Expr} {kk : Nat} (KK : PySem.W.Frag) (h : X.K = KK) (hg : Gl X "enumerate") (hm : X.mg "enumerate" = none) (ha : PA X [e] ta) (hs : starEach [e] X.env = [(false, eval e X.env)] := by rfl) :
    PI X (.Tuple elts kk tpos) (.Call (.Name "enumerate" p) [e] [] pos) (iEnumA KK ta) := by
  subst h
  refine ⟨fun pins s σ H R I h => ?_⟩
  refine Call_ (ld_blt I hg hm boot_enumerate (PyProof.Rows.callWith_type1 (thn (ha.run pos pins s σ H _ I h) fun us s1 ⟨vs, H1, I1, r1, q1⟩ => ?_) hs rfl))
  obtain ⟨a, xs, ex, q1⟩ := q1
  subst ex
  cases r1 with
  | cons r rr =>
    cases rr
    cases r
    have fr : ∀ b ∈ [s1.heap.objs.size + 1, s1.heap.objs.size], FpOk X pins H1 b := fun b hb => by
      have e' : b = s1.heap.objs.size + 1 ∨ b = s1.heap.objs.size := by simpa using hb
      have hle : s1.heap.objs.size ≤ b := by
        rcases e' with z | z
        · rw [z]; exact Nat.le_add_right _ _
        · rw [z]; exact Nat.le_refl _
      exact I1.fpOk hle (I1.hok.fresh hle)
    rcases q1 with ⟨hq, q⟩ | ⟨hq, q⟩
    · obtain ⟨its, rv, p', hz⟩ := I1.list hq
      refine call_enumerate_list p'.isList fun h' he hit hsz hk => wpAny_pyIter_enum he ?_
      have I2 : Inv X pins σ H1 { s1 with heap := h' } := I1.kept (t' := s1.toks) hk
      exact ⟨s1.heap.objs.size + 1, [s1.heap.objs.size + 1, s1.heap.objs.size], _, _, H1, rfl, I2, turn_enum a (s1.heap.objs.size + 1) s1.heap.objs.size, ⟨⟨.none, he⟩, hit, Nat.succ_ne_self _⟩, fr, q⟩
    · obtain ⟨its, rv, p', hz⟩ := I1.tuple hq
      refine call_enumerate_tup (items := its.toArray) p' fun h' he hit hsz hk => wpAny_pyIter_enum he ?_
      have I2 : Inv X pins σ H1 { s1 with heap := h' } := I1.kept (t' := s1.toks) hk
      exact ⟨s1.heap.objs.size + 1, [s1.heap.objs.size + 1, s1.heap.objs.size], _, _, H1, rfl, I2, turn_enumT a (s1.heap.objs.size + 1) s1.heap.objs.size, ⟨⟨.none, he⟩, hit, Nat.succ_ne_self _⟩, fr, q⟩
end GEn
namespace G
open PySem PySem.Spec PyProof.Rows L2
section
variable {C : Cl} {B : Bs} {Γ : List Sl} {KK : PySem.W.Frag}
theorem yl_enumT {W1 : Hp} {a : Addr} {vs : List V} {l : List D} (ha : W1 a = some (.tup vs)) (r : RepL C B.P W1 vs l) : Yl C B (GEn.IteT KK a) W1 (enumD l) where
  stop := fun H s _ => ⟨vs, SqT.of (s _ _ ha), by simp [enumD, r.length]⟩
  go := fun i W H hi s1 s2 pl => by
    have hi' : i < l.length := by simpa [enumD] using hi
    have hv : i < vs.length := by rw [r.length]; exact hi'
    refine ⟨⟨vs, vs[i], SqT.of (s2 _ _ (s1 _ _ ha)), by simp [hv]⟩, fun x H' ⟨T, x0, e1, e2, e3, y⟩ => ?_⟩
    subst e1; subst e3
    obtain ⟨d, h1, h2⟩ := (r.mono s1).getV (y vs (SqT.of (s2 _ _ (s1 _ _ ha))))
    have st := Stp.new (C := C) (P := B.P) (S := noS) (o := .tup [.int (i : Nat), x0]) s2 e2 pl.ne
    exact ⟨_, .tup [.int (i : Nat), d], st, by simp [enumD, h1], .tup upd_same (.cons (.int _) (.one (h2.mono st.ww)))⟩
theorem yl_enumM {W1 : Hp} {a : Addr} {vs : List V} {l : List D} (ha : C.m a = some (.lst vs)) (r : RepL C B.P W1 vs l) : Yl C B (Ite KK a) W1 (enumD l) where
  stop := fun H s z => ⟨vs, SqL.of (z _ _ ha), by simp [enumD, r.length]⟩
  go := fun i W H hi s1 s2 pl => by
    have hi' : i < l.length := by simpa [enumD] using hi
    have hv : i < vs.length := by rw [r.length]; exact hi'
    have hq : SqL KK H a vs := SqL.of (pl.rg _ _ ha).1
    refine ⟨⟨vs, vs[i], hq, by simp [hv]⟩, fun x H' ⟨T, x0, e1, e2, e3, y⟩ => ?_⟩
    subst e1; subst e3
    obtain ⟨d, h1, h2⟩ := (r.mono s1).getV (y vs hq)
    have st := Stp.new (C := C) (P := B.P) (S := noS) (o := .tup [.int (i : Nat), x0]) s2 e2 pl.ne
    exact ⟨_, .tup [.int (i : Nat), d], st, by simp [enumD, h1], .tup upd_same (.cons (.int _) (.one (h2.mono st.ww)))⟩
theorem ik_enumA {ta : TA} {K : List D → Prop} (h : AK C B Γ ta fun l => ∃ k xs, l = [Kd.d k xs] ∧ K (enumD xs)) : IK C B Γ (GEn.iEnumA KK ta) K := fun W H σ e R q =>
  h W H σ e _ fun l vs W1 H1 s1 r1 ⟨k, xs, e0, hk⟩ => by
    subst e0
    cases r1 with
    | cons r rr =>
      cases rr
      cases k with
      | l => cases r with
        | lst ha r => exact ⟨_, _, rfl, .inl ⟨SqL.of (s1.wh _ _ ha), q _ W1 H1 _ s1 (yl_enum ha r) hk⟩⟩
      | t => cases r with
        | tup ha r => exact ⟨_, _, rfl, .inr ⟨SqT.of (s1.wh _ _ ha), q _ W1 H1 _ s1 (yl_enumT ha r) hk⟩⟩
      | m => cases r with
        | mls ha r => exact ⟨_, _, rfl, .inl ⟨SqL.of ((e.pl.step s1).rg _ _ ha).1, q _ W1 H1 _ s1 (yl_enumM ha r) hk⟩⟩
end
/-! ### None in a list of pairs -/
def pairP (p : Int × Int) : D := .tup [.int p.1, .int p.2]
section
variable {C : Cl} {B : Bs} {Γ : List Sl} {KK : PySem.W.Frag}
theorem dp_pairs {P : Option Addr} {W H : Hp} (s : Same W H) : ∀ {ps : List (Int × Int)} {vs : List V}, RepL C P W vs (ps.map pairP) → DpAll KK H vs (ps.map fun p => .tuple [.int p.1, .int p.2])
  | [], _, r => by cases r; exact .nil
  | p :: ps, _, r => by
    cases r with
    | cons r rr =>
      cases r with
      | tup ha r =>
        cases r with
        | cons r1 r2 =>
          cases r2 with
          | cons r2 r3 =>
            cases r1; cases r2; cases r3
            exact .cons (.tup (SqT.of (s _ _ ha)) (.cons (.int _) (.cons (.int _) .nil))) (dp_pairs s rr)
theorem shaped_pairs : ∀ (ps : List (Int × Int)), PyData.canLayAll0 (ps.map fun p => PyData.tuple [.int p.1, .int p.2]) = true ∧ PyData.depthAll (ps.map fun p => PyData.tuple [.int p.1, .int p.2]) ≤ 2
  | [] => ⟨by simp [PyData.canLayAll0], by simp [PyData.depthAll]⟩
  | p :: ps => by
    obtain ⟨h1, h2⟩ := shaped_pairs ps
    refine ⟨by simp [PyData.canLayAll0, PyData.canLay0, h1], ?_⟩
    simp only [List.map_cons, PyData.depthAll, PyData.depth]
    omega
theorem rk_nonIn {ps : List (Int × Int)} {K : D → Prop} (k : K (.bl false)) : RK C B (rInD KK) .non (.lst (ps.map pairP)) K := fun W H hw pl v1 v2 r1 r2 Q q => by
  cases r1
  cases r2 with
  | lst ha r =>
    obtain ⟨h1, h2⟩ := shaped_pairs ps
    refine ⟨.none, ps.map fun p => .tuple [.int p.1, .int p.2], .non, .lst (SqL.of (hw _ _ ha)) (dp_pairs hw r), by simp [SeqAt.shaped, PyData.canLay0, PyData.depth], ?_, ?_⟩
    · simp only [SeqAt.shaped, PyData.canLay0, PyData.depth, h1, Bool.true_and]
      exact decide_eq_true (by omega)
    · have e : (ps.map fun p => PyData.tuple [.int p.1, .int p.2]).any (fun z => PyData.eqv z .none) = false := by
        rw [List.any_eq_false]
        intro z hz
        obtain ⟨p, _, rfl⟩ := List.mem_map.mp hz
        simp [PyData.eqv]
      rw [e]
      exact q _ _ W H (.refl hw) (.bl _) k
theorem op_nonIn {X : Cx} (h : X.K = KK) {k : Nat} (hr : Room k X.A) : OpR X (compareOp .In) (rInD KK) := h ▸ op_inD (by
  have := hr.un
  omega)
end
end G
/-! ### plain existentials that the rules leave -/
namespace G
open PySem PySem.Spec PyProof.Rows L2
theorem x_bl {b : Bool} {p : Bool → Prop} (h : p b) : ∃ b', D.bl b = D.bl b' ∧ p b' := ⟨b, rfl, h⟩
theorem x_int {i : Int} {p : Int → Prop} (h : p i) : ∃ j, D.int i = D.int j ∧ p j := ⟨i, rfl, h⟩
theorem x_frac {q : Rat} {p : Rat → Prop} (h : p q) : ∃ j, D.frac q = D.frac j ∧ p j := ⟨q, rfl, h⟩
theorem x_lst {l : List D} {p : Kd → List D → Prop} (h : p .l l) : ∃ k m, D.lst l = Kd.d k m ∧ p k m := ⟨.l, l, rfl, h⟩
theorem x_tup {l : List D} {p : Kd → List D → Prop} (h : p .t l) : ∃ k m, D.tup l = Kd.d k m ∧ p k m := ⟨.t, l, rfl, h⟩
theorem x_kd {k : Kd} {l : List D} {p : Kd → List D → Prop} (h : p k l) : ∃ k' m, Kd.d k l = Kd.d k' m ∧ p k' m := ⟨k, l, rfl, h⟩
theorem x_at {l : List D} {i : Int} {x : D} {p : Int → D → Prop} (h1 : atI l i = some x) (h : p i x) : ∃ j y, D.int i = D.int j ∧ atI l j = some y ∧ p j y := ⟨i, x, rfl, h1, h⟩
theorem x_dic {l : List (Key × D)} {x : Str} {y : D} {p : List (Key × D) → D → Prop} (h1 : valD l (.inr x) = some y) (h : p l y) : ∃ m z, D.dic l = D.dic m ∧ valD m (.inr x) = some z ∧ p m z := ⟨l, y, rfl, h1, h⟩
theorem x_r1 {j : Int} {p : Int → Prop} (h1 : -(2 ^ 62) ≤ j) (h2 : j < 2 ^ 62) (h : p j) : ∃ i : Int, [D.int j] = [D.int i] ∧ -(2 ^ 62) ≤ i ∧ i < 2 ^ 62 ∧ p i := ⟨j, rfl, h1, h2, h⟩
theorem x_one {l : List D} {k : Kd} {p : Kd → List D → Prop} (h : p k l) : ∃ k' m, [Kd.d k l] = [Kd.d k' m] ∧ p k' m := ⟨k, l, rfl, h⟩
theorem x_oneL {l : List D} {p : Kd → List D → Prop} (h : p .l l) : ∃ k' m, [D.lst l] = [Kd.d k' m] ∧ p k' m := ⟨.l, l, rfl, h⟩
theorem x_oneT {l : List D} {p : Kd → List D → Prop} (h : p .t l) : ∃ k' m, [D.tup l] = [Kd.d k' m] ∧ p k' m := ⟨.t, l, rfl, h⟩
theorem x_len {l : List D} {p : Prop} (h1 : Nat.ble l.length 1000 = true) (h : p) : l.length ≤ sizeLine ∧ p := ⟨Nat.le_of_lt (small1000 (Nat.le_of_ble_eq_true h1)), h⟩
theorem x_lenD {l : List (Key × D)} {p : D → Prop} (h0 : (l.map (·.1)).Nodup) (h1 : Nat.ble l.length 15 = true) (h : p (.dic l)) : (l.map (·.1)).Nodup ∧ l.length ≤ 15 ∧ p (.dic l) := ⟨h0, Nat.le_of_ble_eq_true h1, h⟩
end G

/-! ### a, b = a list or a tuple -/
namespace G
open PySem PySem.Spec PyProof.Rows L2
def gAny (K : PySem.W.Frag) (n : Nat) (t : TGs) : TG := fun v σ H Q => gTup K n t v σ H Q ∨ gLst K n t v σ H Q
theorem pg_anyK {X : Cx} {pos : Pos} {es : List Expr} {k : Nat} {t : TGs} {n : Nat} (KK : PySem.W.Frag) (h : X.K = KK) (hc : X.calm = true) (hg : PGs X es t)
    (hn : (assignEach es X.env).length = n := by rfl) (hst : (assignEach es X.env).findIdx? (·.1) = none := by rfl) : PG X (.Tuple es k pos) (gAny KK n t) := ⟨fun pins s σ H v u Q I r hw => by
  subst h
  rcases hw with hw | hw
  · exact (pg_tup hc hg hn hst).run pins s σ H v u Q I r hw
  · exact (pg_lst hc hg hn hst).run pins s σ H v u Q I r hw⟩
section
variable {C : Cl} {B : Bs} {Γ : List Sl} {KK : PySem.W.Frag}
theorem gk_anyT {n : Nat} {gs : TGs} {l : List D} {K : List Sl → Prop} (hn : l.length = n) (h : GKs C B Γ gs l K) : GK C B Γ (gAny KK n gs) (.tup l) K := fun W H σ v e r Q q => .inl (gk_tupL hn h W H σ v e r Q q)
theorem gk_anyL {n : Nat} {gs : TGs} {l : List D} {K : List Sl → Prop} (hn : l.length = n) (h : GKs C B Γ gs l K) : GK C B Γ (gAny KK n gs) (.lst l) K := fun W H σ v e r Q q => .inr (by
  cases r with
  | lst ha rl => exact ⟨_, _, rfl, SqL.of (e.wh _ _ ha), rl.length.trans hn, h W H σ _ e rl Q q⟩)
theorem gk_anyM {n : Nat} {gs : TGs} {l : List D} {K : List Sl → Prop} (hn : l.length = n) (h : GKs C B Γ gs l K) : GK C B Γ (gAny KK n gs) (.mls l) K := fun W H σ v e r Q q => .inr (by
  cases r with
  | mls ha rl => exact ⟨_, _, rfl, SqL.of (e.pl.rg _ _ ha).1, rl.length.trans hn, h W H σ _ e rl Q q⟩)
theorem gk_anyK {k : Kd} {n : Nat} {gs : TGs} {l : List D} {K : List Sl → Prop} (hn : l.length = n) (h : GKs C B Γ gs l K) : GK C B Γ (gAny KK n gs) (Kd.d k l) K := by
  cases k
  · exact gk_anyL hn h
  · exact gk_anyT hn h
  · exact gk_anyM hn h
theorem gks_consA {n i j : Nat} {gs : TGs} {x y : D} {l : List D} {K : List Sl → Prop} (h : GKs C B ((Γ.set i (.d x)).set j (.d y)) gs l K) (hi : isSlot Γ i = true := by rfl) (hj : isSlot Γ j = true := by rfl) :
    GKs C B Γ (gCons (gAny KK 2 (gCons (gName i) (gCons (gName j) gNil))) gs) (.tup [x, y] :: l) K := fun W H σ vs e r Q q => by
  obtain ⟨u, us, h1, h2⟩ := gks_consT (KK := KK) (n := n) h hi hj W H σ vs e r Q q
  exact ⟨u, us, h1, .inl h2⟩
theorem cg_anyT {n : Nat} {gs : TGs} {l : List D} {vs : List Nat} {K : List Sl → Prop} (hn : l.length = n) (h : CGs C B Γ gs l vs K) : CG C B Γ (gAny KK n gs) (.tup l) vs K := fun W H σ v ow e o r Q q => .inl (cg_tup hn h W H σ v ow e o r Q q)
theorem cg_anyL {n : Nat} {gs : TGs} {l : List D} {vs : List Nat} {K : List Sl → Prop} (hn : l.length = n) (h : CGs C B Γ gs l vs K) : CG C B Γ (gAny KK n gs) (.lst l) vs K := fun W H σ v ow e o r Q q => .inr (by
  cases r with
  | lst ha rl => exact ⟨_, _, rfl, SqL.of (e.wh _ _ ha), rl.length.trans hn, h W H σ _ ow e o rl Q q⟩)
theorem cg_anyM {n : Nat} {gs : TGs} {l : List D} {vs : List Nat} {K : List Sl → Prop} (hn : l.length = n) (h : CGs C B Γ gs l vs K) : CG C B Γ (gAny KK n gs) (.mls l) vs K := fun W H σ v ow e o r Q q => .inr (by
  cases r with
  | mls ha rl => exact ⟨_, _, rfl, SqL.of (e.pl.rg _ _ ha).1, rl.length.trans hn, h W H σ _ ow e o rl Q q⟩)
theorem cg_anyK {k : Kd} {n : Nat} {gs : TGs} {l : List D} {vs : List Nat} {K : List Sl → Prop} (hn : l.length = n) (h : CGs C B Γ gs l vs K) : CG C B Γ (gAny KK n gs) (Kd.d k l) vs K := by
  cases k
  · exact cg_anyL hn h
  · exact cg_anyT hn h
  · exact cg_anyM hn h
end
end G
end

section
set_option maxRecDepth 100000
set_option maxHeartbeats 2000000
/-! promises for a family of pools -/
namespace G
open PySem PySem.Spec PyProof.Rows L2
/-- the same classes and pool, whatever may be read but not kept -/
structure Fam (F : Hp → Cl) : Prop where
  frac : ∀ n m, (F n).frac = (F m).frac
  cls : ∀ n m, (F n).cls = (F m).cls
  pk : ∀ n m W o, (F n).pk W o → (F m).pk W o
  m : ∀ n, (F n).m = n
def SpFam (F : Hp → Cl) (S : List D → (D → Prop) → Prop) : Sp := fun vs H Q E => ∃ n, SpOf (F n) S vs H Q E
def SpFamI (F : Hp → Cl) (A : Addr) (S : List D → (List (Str × D) → Prop) → Prop) : Sp := fun vs H Q E => ∃ n, SpI (F n) A S vs H Q E
section
variable {F : Hp → Cl} {n : Hp} {B : Bs} {Γ : List Sl} {ta : TE} {t : TA} {K : D → Prop}
theorem ek_callF {S : List D → (D → Prop) → Prop} {t : TA} (h : AK (F n) B Γ t fun l => S l K) : EK (F n) B Γ (tCall (SpFam F S) [] E0 t) K := fun W H σ e Q q =>
  h W H σ e _ fun l vs W1 H1 s1 r1 h1 => ⟨n, B.P, W1, l, K, s1.wh, e.pl.step s1, by rw [List.append_nil]; exact r1, h1, fun d v W3 H3 k s3 r3 => q d v W3 H3 (s1.trans s3) r3 k⟩
theorem ek_methFF {A : Addr} (hA : (F n).frac = A) {S : List D → (D → Prop) → Prop} {m : Str} (hl : ∀ q, (fracF q).lookup m = none)
    (h : EK (F n) B Γ ta fun d0 => ∃ q, d0 = .frac q ∧ AK (F n) B Γ t fun l => S (.frac q :: l) K) : EK (F n) B Γ (tMeth A m (SpFam F S) [] E0 ta t) K := fun W H σ e Q q =>
  h W H σ e _ fun d0 v0 W1 H1 s1 r1 ⟨x, e0, h1⟩ => by
    subst e0; subst hA
    obtain ⟨a, dx, rfl, ha⟩ := rep_frac r1
    refine ⟨a, dx, _, rfl, s1.wh _ _ ha, hl x, h1 W1 H1 σ (e.step s1) _ fun l vs W2 H2 s2 r2 h2 => ?_⟩
    rw [List.append_nil]
    exact ⟨n, B.P, W2, .frac x :: l, K, s2.wh, (e.pl.step s1).step s2, .cons (r1.mono s2.ww) r2, h2, fun d v W3 H3 k s3 r3 => q d v W3 H3 ((s1.trans s2).trans s3) r3 k⟩
theorem rk_ownF {A : Addr} (hA : (F n).frac = A) {S : List D → (D → Prop) → Prop} {p q : Rat} (h : S [.frac p, .frac q] K) : RK (F n) B (rOwn A (SpFam F S)) (.frac p) (.frac q) K := fun W H hw pl v1 v2 r1 r2 Q k => by
  subst hA
  obtain ⟨a, dx, e1, ha⟩ := rep_frac r1
  obtain ⟨b, dy, e2, hb⟩ := rep_frac r2
  exact ⟨a, b, dx, dy, _, _, e1, e2, hw _ _ ha, hw _ _ hb, n, B.P, W, _, K, hw, pl, .cons r1 (.one r2), h, fun d v W' H' kd s r => k d v W' H' s r kd⟩
/-- the making of an object: what is left to be done behind the arguments -/
theorem make_run {A : Addr} {S : List D → (List (Str × D) → Prop) → Prop} {dvs : List V} {dds : List D} {W H W1 H1 : Hp} {vs : List V} {l : List D} (s1 : Stp (F n) B.P noS W H W1 H1) (pl : PlOk (F n) B.P W1 H1) (r1 : RepL (F n) B.P W1 vs l) (hd : ∀ W, RepL (F n) B.P W dvs dds)
    (R : List (Str × D) → D → Prop) (hR : ∀ (W : Hp) (x dx : Addr) (fs : List (Str × V)) (fl : List (Str × D)) (d : D), R fl d → W x = some (.ins A dx fs) → fs.map (·.1) = fl.map (·.1) → RepL (F n) B.P W (fs.map (·.2)) (fl.map (·.2)) → Rep (F n) B.P W (.ref x) d)
    (h1 : S (l ++ dds) fun fl => ∃ d, R fl d ∧ K d) (Q : VK) (q : ∀ d v W' H', Stp (F n) B.P noS W H W' H' → Rep (F n) B.P W' v d → K d → Q v H') (x dx : Addr) (hx : H1 x = none) (hdx : H1 dx = none) (hne : x ≠ dx) :
    SpFamI F A S (.ref x :: (vs ++ dvs)) (upd (upd H1 dx (.own x)) x (.ins A dx [])) (fun v H' => v = .non ∧ Q (.ref x) H') E0 := by
  have hP : B.P ≠ some x := fun z => pl.ne x z hx
  have hP2 : B.P ≠ some dx := fun z => pl.ne dx z hdx
  have nW : ∀ a, H1 a = none → W1 a = none := fun a ha => by
    cases z : W1 a with
    | none => rfl
    | some o => rw [s1.wh _ _ z] at ha; cases ha
  have up : ∀ a o, H1 a = some o → (upd (upd H1 dx (.own x)) x (.ins A dx [])) a = some o := fun a o ha => by
    rw [upd_ne (ne_of_none ha hx), upd_ne (ne_of_none ha hdx)]; exact ha
  refine ⟨n, B.P, W1, x, dx, vs ++ dvs, l ++ dds, _, rfl, upd_same, nW x hx, hP, ?_, fun a o z => up a o (s1.wh a o z), ⟨fun a z => ?_, fun a o z => ?_⟩, r1.append (hd W1), h1, fun fl fs dx' W' H' ⟨d, hRd, kd⟩ st g1 g2 g3 g4 => ⟨rfl, ?_⟩⟩
  · cases z : (F n).m x with
    | none => rfl
    | some o => rw [(pl.rg x o z).1] at hx; cases hx
  · have hax : a ≠ x := fun y => by subst y; exact hP z
    have had : a ≠ dx := fun y => by subst y; exact hP2 z
    rw [upd_ne hax, upd_ne had]
    exact pl.po a z
  · obtain ⟨z1, z2, z3⟩ := pl.rg a o z
    exact ⟨up a o z1, z2, z3⟩
  · have ww : Same W' (upd W' x (.ins A dx' fs)) := fun a o z => by
      rw [upd_ne (fun y => by subst y; rw [g2] at z; cases z)]; exact z
    refine q d (.ref x) (upd W' x (.ins A dx' fs)) H' ⟨(s1.ww.trans st.ww).trans ww, fun a o z => ?_, fun a o z p _ => ?_, fun a o z => ?_, fun a o z => ?_, fun a z w => ?_⟩ (hR _ x dx' fs fl d hRd upd_same g3 (g4.mono ww)) kd
    · by_cases ha : a = x
      · subst ha; rw [upd_same] at z; cases z; exact g1
      · rw [upd_ne ha] at z; exact st.wh a o z
    · have z1 := s1.hh a o z p (fun y => nomatch y)
      exact st.hh a o (up a o z1) p fun y => by cases y; rw [hx] at z1; cases z1
    · obtain ⟨o1, z1⟩ := s1.dom a o z
      exact st.dom a o1 (up a o1 z1)
    · obtain ⟨o1, z1⟩ := s1.dom a o z
      rw [upd_ne (ne_of_none z1 hx)]
      exact (st.old a o1 (up a o1 z1)).trans (s1.old a o z)
    · have w1 := s1.pool a z w
      obtain ⟨o1, z1⟩ := (F n).pks w1
      refine (F n).pkm ww (st.pool a z ?_)
      rw [up a o1 z1, ← z1]
      exact w1

theorem ek_makeF {A : Addr} {S : List D → (List (Str × D) → Prop) → Prop} {dvs : List V} {dds : List D} {t : TA} (hd : ∀ W, RepL (F n) B.P W dvs dds) (R : List (Str × D) → D → Prop)
    (hR : ∀ (W : Hp) (x dx : Addr) (fs : List (Str × V)) (fl : List (Str × D)) (d : D), R fl d → W x = some (.ins A dx fs) → fs.map (·.1) = fl.map (·.1) → RepL (F n) B.P W (fs.map (·.2)) (fl.map (·.2)) → Rep (F n) B.P W (.ref x) d)
    (h : AK (F n) B Γ t fun l => S (l ++ dds) fun fl => ∃ d, R fl d ∧ K d) : EK (F n) B Γ (tMake A (SpFamI F A S) dvs E0 t) K := fun W H σ e Q q =>
  h W H σ e _ fun l vs W1 H1 s1 r1 h1 x dx hx hdx hne => make_run s1 (e.pl.step s1) r1 hd R hR h1 Q q x dx hx hdx (fun z => hne z.symm)
theorem obj_rep {A : Addr} {c : Nat} (hA : (F n).cls c = A) (W : Hp) (x dx : Addr) (fs : List (Str × V)) (fl : List (Str × D)) (d : D) (e : d = .obj c fl) (h1 : W x = some (.ins A dx fs)) (h2 : fs.map (·.1) = fl.map (·.1)) (h3 : RepL (F n) B.P W (fs.map (·.2)) (fl.map (·.2))) : Rep (F n) B.P W (.ref x) d := by
  subst e; subst hA; exact .obj h1 h2 h3
theorem frac_rep {A : Addr} (hA : (F n).frac = A) (W : Hp) (x dx : Addr) (fs : List (Str × V)) (fl : List (Str × D)) (d : D) (e : ∃ q : Rat, fl = fracL q ∧ d = .frac q) (h1 : W x = some (.ins A dx fs)) (h2 : fs.map (·.1) = fl.map (·.1)) (h3 : RepL (F n) B.P W (fs.map (·.2)) (fl.map (·.2))) : Rep (F n) B.P W (.ref x) d := by
  obtain ⟨q, e1, e2⟩ := e
  subst e1; subst e2; subst hA
  match fs, h2, h3 with
  | [(a, v), (b, u)], h2, h3 =>
    have ha : a = "num" := by have := congrArg List.head? h2; simpa [fracL] using this
    have hb : b = "den" := by have := congrArg (fun l => l[1]?) h2; simpa [fracL] using this
    subst ha; subst hb
    cases h3 with
    | cons g1 g2 =>
      cases g2 with
      | cons g2 g3 =>
        cases g1; cases g2; cases g3
        exact .frac h1
theorem ek_mkOF {A : Addr} {c : Nat} (hA : (F n).cls c = A) {S : List D → (List (Str × D) → Prop) → Prop} {t : TA} (h : AK (F n) B Γ t fun l => S l fun fl => K (.obj c fl)) : EK (F n) B Γ (tMake A (SpFamI F A S) [] E0 t) K :=
  ek_makeF (dds := []) (fun _ => .nil) (fun fl d => d = .obj c fl) (fun W x dx fs fl d e h1 h2 h3 => obj_rep hA W x dx fs fl d e h1 h2 h3) (fun W H σ e Q q => h W H σ e Q fun l vs W' H' s r k => q l vs W' H' s r (by
    have : (fun fl => ∃ d, d = D.obj c fl ∧ K d) = fun fl => K (.obj c fl) := by
      funext fl; exact propext ⟨fun ⟨d, e, k⟩ => e ▸ k, fun k => ⟨_, rfl, k⟩⟩
    rw [this]; show S (l ++ []) _; rw [List.append_nil]; exact k))
theorem ek_mkFF {A : Addr} (hA : (F n).frac = A) {S : List D → (List (Str × D) → Prop) → Prop} {dvs : List V} {dds : List D} {t : TA} (hd : ∀ W, RepL (F n) B.P W dvs dds)
    (h : AK (F n) B Γ t fun l => S (l ++ dds) fun fl => ∃ q : Rat, fl = fracL q ∧ K (.frac q)) : EK (F n) B Γ (tMake A (SpFamI F A S) dvs E0 t) K :=
  ek_makeF hd (fun fl d => ∃ q : Rat, fl = fracL q ∧ d = .frac q) (fun W x dx fs fl d e h1 h2 h3 => frac_rep hA W x dx fs fl d e h1 h2 h3) (fun W H σ e Q q => h W H σ e Q fun l vs W' H' s r k => q l vs W' H' s r (by
    have : (fun fl => ∃ d, (∃ q : Rat, fl = fracL q ∧ d = D.frac q) ∧ K d) = fun fl : List (Str × D) => ∃ q : Rat, fl = fracL q ∧ K (.frac q) := by
      funext fl; exact propext ⟨fun ⟨d, ⟨q, e1, e2⟩, k⟩ => ⟨q, e1, e2 ▸ k⟩, fun ⟨q, e1, k⟩ => ⟨_, ⟨q, e1, rfl⟩, k⟩⟩
    rw [this]; exact k))
end
/-! defs that keep such promises -/
section
variable {P : Program} {w : World} {K : PySem.W.Frag} {mg : Str → Option Value} {base : Heap} {k : Nat} {x : Str} {st : Stmt} {N ps : List Str} {F : Hp → Cl}
theorem cal_mkF {S : List D → (D → Prop) → Prop} (g : mg x = some (.ref (He.ga K x))) (Fd : ∃ fd, FnP K x st fd) (sc : FnScope N ps (defScope st))
    (b : ∀ (kV doc pm : Value) (an : Option Addr) (cdv ct : Value) (us : List Value), us.length = ps.length → bindArgs (PySem.W.fnOf x x (defArgs st) (defBody st) (defScope st) .none kV doc pm an cdv ct) ⟨us, []⟩ = pure (ps.zip us))
    (len : ∀ l K, S l K → l.length = ps.length)
    (hb : ∀ (f : Addr) (cdv : Value) (A : Around) (outer : List Env) (s : Shared) (H : Hp) (E : XK), Room k (A.deeper (envOfC x (defScope st) s.heap.objs.size f cdv)) →
      ∃ t, PSs (cxOf (L2.CX P w) P w K mg base N x (defScope st) f cdv A outer s H E).nox (defBody st) t ∧ ∀ n B l K, S l K → SX (F n) B (G0 N l) t (fun _ => K .non) (fun _ => K) (fun _ => False) (fun _ => False)) : Cal P w K mg base (k + 1) x ps (SpFam F S) := by
  obtain ⟨fd, Fd⟩ := Fd
  refine ⟨g, Fd.kp, fd, Fd.ok sc (fun vs H Q E ⟨n, P, W, l, K, _, _, r, hS, _⟩ => r.length.trans (len l K hS)) fun cdv A outer s H vs Q E hr ⟨n, hsp⟩ => ?_, Fd.bindsN b⟩
  obtain ⟨t, h1, h2⟩ := hb _ cdv A outer s H E hr
  exact ⟨t, h1.nox, sp_body (h2 n) vs H Q E hsp⟩
theorem mth_mkF {qual : Str} {params : Arguments} {body : List Stmt} {scope : Scope} {f : Addr} {S : List D → (D → Prop) → Prop} (Fd : ∃ fd, FunD K x qual params body scope [] [] f fd) (sc : FnScope N ps scope)
    (b : ∀ (kV doc pm : Value) (an : Option Addr) (cdv ct : Value) (us : List Value), us.length = ps.length → bindArgs (PySem.W.fnOf x qual params body scope .none kV doc pm an cdv ct) ⟨us, []⟩ = pure (ps.zip us))
    (len : ∀ l K, S l K → l.length = ps.length)
    (hb : ∀ (f : Addr) (cdv : Value) (A : Around) (outer : List Env) (s : Shared) (H : Hp) (E : XK), Room k (A.deeper (envOfC qual scope s.heap.objs.size f cdv)) →
      ∃ t, PSs (cxOf (L2.CX P w) P w K mg base N qual scope f cdv A outer s H E).nox body t ∧ ∀ n B l K, S l K → SX (F n) B (G0 N l) t (fun _ => K .non) (fun _ => K) (fun _ => False) (fun _ => False)) :
    ∃ fd, FnOk P w K mg base (L2.CX P w) (k + 1) f fd ps (SpFam F S) ∧ Binds K fd ps [] := by
  obtain ⟨fd, Fd⟩ := Fd
  refine ⟨fd, Fd.ok sc (fun vs H Q E ⟨n, P, W, l, K, _, _, r, hS, _⟩ => r.length.trans (len l K hS)) fun cdv A outer s H vs Q E hr ⟨n, hsp⟩ => ?_, Fd.bindsN b⟩
  obtain ⟨t, h1, h2⟩ := hb _ cdv A outer s H E hr
  exact ⟨t, h1.nox, sp_body (h2 n) vs H Q E hsp⟩
theorem init_mkF {qual : Str} {params : Arguments} {body : List Stmt} {scope : Scope} {f : Addr} {dvs : List V} {kws : List (Str × V)} {S : List D → (List (Str × D) → Prop) → Prop} {A0 : Addr} {self : Str} {fd : FuncData} (Fd : FunD K x qual params body scope dvs kws f fd) (sc : FnScope (self :: N) ps scope) (len : ∀ l K, S l K → l.length + 1 = ps.length)
    (hb : ∀ (f : Addr) (cdv : Value) (A : Around) (outer : List Env) (s : Shared) (H : Hp) (E : XK), Room k (A.deeper (envOfC qual scope s.heap.objs.size f cdv)) →
      ∃ t, PSs (cxOf (L2.CX P w) P w K mg base (self :: N) qual scope f cdv A outer s H E).nox body t ∧ ∀ n B l K, S l K → SX (F n) B (.ins A0 [] :: G0 N l) t (fun Γ => ∃ fl, Γ[0]? = some (.ins A0 fl) ∧ K fl) (fun _ _ => False) (fun _ => False) (fun _ => False)) :
    FnOk P w K mg base (L2.CX P w) (k + 1) f fd ps (SpFamI F A0 S) :=
  Fd.ok sc (fun vs H Q E ⟨n, P, W, p, dx, us, l, K, e, _, _, _, _, _, _, r, hS, _⟩ => by rw [e, List.length_cons, r.length]; exact len l K hS) fun cdv A outer s H vs Q E hr ⟨n, hsp⟩ => by
    obtain ⟨t, h1, h2⟩ := hb _ cdv A outer s H E hr
    exact ⟨t, h1.nox, sp_bodyI (h2 n) vs H Q E hsp⟩
end
end G
end

section
set_option maxRecDepth 100000
set_option maxHeartbeats 2000000
/-! lists that a frame may change: made, stored into, handed over, handed back -/
namespace G
open PySem PySem.Spec PyProof.Rows L2
mutual
theorem Rep.cl {C C' : Cl} (hf : C.frac = C'.frac) (hc : C.cls = C'.cls) (hm : Same C.m C'.m) {P : Option Addr} {W : Hp} : ∀ {v : V} {d : D}, Rep C P W v d → Rep C' P W v d
  | _, _, .non => .non
  | _, _, .bl b => .bl b
  | _, _, .int i => .int i
  | _, _, .str i => .str i
  | _, _, .lst h r => .lst h (RepL.cl hf hc hm r)
  | _, _, .tup h r => .tup h (RepL.cl hf hc hm r)
  | _, _, .raw h r => .raw h (RepL.cl hf hc hm r)
  | _, _, .mls h r => .mls (hm _ _ h) (RepL.cl hf hc hm r)
  | _, _, .adr a => .adr a
  | _, _, .frac h => .frac (hf ▸ h)
  | _, _, .obj h e r => .obj (hc ▸ h) e (RepL.cl hf hc hm r)
  | _, _, .dic h e r => .dic h e (RepL.cl hf hc hm r)
  | _, _, .pool h => .pool h
  | _, _, .ty n => .ty n
  | _, _, .cls n => .cls n
theorem RepL.cl {C C' : Cl} (hf : C.frac = C'.frac) (hc : C.cls = C'.cls) (hm : Same C.m C'.m) {P : Option Addr} {W : Hp} : ∀ {vs : List V} {l : List D}, RepL C P W vs l → RepL C' P W vs l
  | _, _, .nil => .nil
  | _, _, .cons h r => .cons (Rep.cl hf hc hm h) (RepL.cl hf hc hm r)
end
/-- nothing in it that may only be read -/
inductive NoM : D → Prop where
  | non : NoM .non
  | bl (b : Bool) : NoM (.bl b)
  | int (i : Int) : NoM (.int i)
  | str (s : Str) : NoM (.str s)
  | frac (q : Rat) : NoM (.frac q)
  | pool : NoM .pool
  | ty (n : String) : NoM (.ty n)
  | cls (a : Addr) : NoM (.cls a)
  | adr (a : Addr) : NoM (.adr a)
  | lst {l : List D} (h : ∀ x ∈ l, NoM x) : NoM (.lst l)
  | tup {l : List D} (h : ∀ x ∈ l, NoM x) : NoM (.tup l)
  | raw {l : List D} (h : ∀ x ∈ l, NoM x) : NoM (.raw l)
  | obj {c : Nat} {l : List (Str × D)} (h : ∀ x ∈ l.map (·.2), NoM x) : NoM (.obj c l)
  | dic {l : List (Key × D)} (h : ∀ x ∈ l.map (·.2), NoM x) : NoM (.dic l)
mutual
theorem Rep.noM {C C' : Cl} (hf : C.frac = C'.frac) (hc : C.cls = C'.cls) {P : Option Addr} {W : Hp} : ∀ {v : V} {d : D}, Rep C P W v d → NoM d → Rep C' P W v d
  | _, _, .non, _ => .non
  | _, _, .bl b, _ => .bl b
  | _, _, .int i, _ => .int i
  | _, _, .str i, _ => .str i
  | _, _, .lst h r, n => .lst h (RepL.noM hf hc r (by cases n; assumption))
  | _, _, .tup h r, n => .tup h (RepL.noM hf hc r (by cases n; assumption))
  | _, _, .raw h r, n => .raw h (RepL.noM hf hc r (by cases n; assumption))
  | _, _, .mls h r, n => by cases n
  | _, _, .adr a, _ => .adr a
  | _, _, .frac h, _ => .frac (hf ▸ h)
  | _, _, .obj h e r, n => .obj (hc ▸ h) e (RepL.noM hf hc r (by cases n; assumption))
  | _, _, .dic h e r, n => .dic h e (RepL.noM hf hc r (by cases n; assumption))
  | _, _, .pool h, _ => .pool h
  | _, _, .ty n, _ => .ty n
  | _, _, .cls n, _ => .cls n
theorem RepL.noM {C C' : Cl} (hf : C.frac = C'.frac) (hc : C.cls = C'.cls) {P : Option Addr} {W : Hp} : ∀ {vs : List V} {l : List D}, RepL C P W vs l → (∀ x ∈ l, NoM x) → RepL C' P W vs l
  | _, _, .nil, _ => .nil
  | _, _, .cons h r, n => .cons (Rep.noM hf hc h (n _ List.mem_cons_self)) (RepL.noM hf hc r fun x hx => n x (List.mem_cons_of_mem _ hx))
end
/-! ### what is new -/
structure News (C : Cl) (P : Option Addr) (H W' H' : Hp) (ds : List (Addr × List D)) : Prop where
  nd : (ds.map (·.1)).Nodup
  ok : ∀ p ∈ ds, H p.1 = none ∧ W' p.1 = none ∧ ∃ vs, H' p.1 = some (.lst vs) ∧ RepL C P W' vs p.2
section
variable {C : Cl} {B : Bs} {Γ : List Sl} {W H W1 H1 W2 H2 : Hp} {ds es : List (Addr × List D)}
theorem News.nil : News C B.P H W1 H1 [] := ⟨List.nodup_nil, fun _ h => (nomatch h)⟩
theorem News.step (n : News C B.P H W1 H1 ds) (pl : ∀ a, B.P = some a → H a ≠ none) (s : Stp C B.P noS W1 H1 W2 H2) : News C B.P H W2 H2 ds := ⟨n.nd, fun p hp => by
  obtain ⟨h1, h2, vs, h3, h4⟩ := n.ok p hp
  exact ⟨h1, (s.old _ _ h3).trans h2, vs, s.hh _ _ h3 (fun z => pl _ z h1) (fun z => z), h4.mono s.ww⟩⟩
theorem News.app (n : News C B.P H W2 H2 ds) (s : Stp C B.P noS W H W1 H1) (k : ∀ p ∈ ds, ∃ o, H1 p.1 = some o) (m : News C B.P H1 W2 H2 es) : News C B.P H W2 H2 (ds ++ es) where
  nd := by
    rw [List.map_append]
    refine List.nodup_append.mpr ⟨n.nd, m.nd, fun x hx y hy z => ?_⟩
    obtain ⟨p, hp, rfl⟩ := List.mem_map.mp hx
    obtain ⟨q, hq, e⟩ := List.mem_map.mp hy
    obtain ⟨o, h⟩ := k p hp
    have := (m.ok q hq).1
    have e : q.1 = y := e
    rw [e, ← z, h] at this; cases this
  ok := fun p hp => by
    rcases List.mem_append.mp hp with hp | hp
    · exact n.ok p hp
    · obtain ⟨h1, h2⟩ := m.ok p hp
      exact ⟨s.free h1, h2⟩
theorem News.one {a : Addr} {vs : List V} {l : List D} (ha : H a = none) (hW : W1 a = none) (hh : H1 a = some (.lst vs)) (r : RepL C B.P W1 vs l) : News C B.P H W1 H1 [(a, l)] := ⟨by simp, fun p hp => by
  cases List.mem_singleton.mp hp
  exact ⟨ha, hW, vs, hh, r⟩⟩
theorem News.there (n : News C B.P H W1 H1 ds) : ∀ p ∈ ds, ∃ o, H1 p.1 = some o := fun p hp => let ⟨_, _, vs, h, _⟩ := n.ok p hp; ⟨_, h⟩
/-- the new ones are the frame's to change -/
theorem EnvOk.regNews {σ : L2.St} (e : EnvOk C B W H σ Γ) {j : Nat} {cs : List (Addr × List D)} (hj : Γ[j]? = some (.reg cs)) (s : Stp C B.P noS W H W1 H1) (n : News C B.P H W1 H1 ds) : EnvOk C B W1 H1 σ (Γ.set j (.reg (cs ++ ds))) := by
  obtain ⟨ow, o⟩ := e.ow
  have e1 := e.step s
  have o1 := o.step s
  refine ⟨e1.stp, e1.kp, e1.pl, e1.p0, e1.len.setG hj rfl, ow, o1.regSet hj ?_ (fun p hp => ?_) (fun p hp i t h1 h2 => ?_)⟩
  · rw [List.map_append]
    refine List.nodup_append.mpr ⟨o.nd _ _ hj, n.nd, fun x hx y hy z => ?_⟩
    obtain ⟨p, hp, rfl⟩ := List.mem_map.mp hx
    obtain ⟨q, hq, e⟩ := List.mem_map.mp hy
    exact o.neC (n.ok q hq).1 j cs p hj hp (z.trans e.symm)
  · rcases List.mem_append.mp hp with hp | hp
    · exact o1.cl j cs p hj hp
    · obtain ⟨h1, h2, h3⟩ := n.ok p hp
      exact ⟨h2, fun z => e.pl.ne _ z h1, e.stp.free h1, h3⟩
  · rcases List.mem_append.mp hp with hp | hp
    · exact o1.df j cs p i t hj hp h1 h2
    · exact o.ne (n.ok p hp).1 i t h1 h2
end
/-- an expression gives data and new lists -/
def EN (C : Cl) (B : Bs) (Γ : List Sl) (te : TE) (K : List (Addr × List D) → D → Prop) : Prop := ∀ W H σ, EnvOk C B W H σ Γ → ∀ Q : VK, (∀ ds d v W' H', Stp C B.P noS W H W' H' → News C B.P H W' H' ds → Rep C B.P W' v d → K ds d → Q v H') → te σ H Q
def AN (C : Cl) (B : Bs) (Γ : List Sl) (ta : TA) (K : List (Addr × List D) → List D → Prop) : Prop := ∀ W H σ, EnvOk C B W H σ Γ → ∀ Q : List V → Hp → Prop, (∀ ds l vs W' H', Stp C B.P noS W H W' H' → News C B.P H W' H' ds → RepL C B.P W' vs l → K ds l → Q vs H') → ta σ H Q
/-- what a def promises that hands back new lists -/
def SpN (C : Cl) (S : List D → (List (Addr × List D) → D → Prop) → Prop) : Sp := fun vs H Q _ => ∃ P W l K, Same W H ∧ PlOk C P W H ∧ RepL C P W vs l ∧ S l K ∧ ∀ ds d v W' H', K ds d → Stp C P noS W H W' H' → News C P H W' H' ds → Rep C P W' v d → Q v H'
def SpFamN (F : Hp → Cl) (S : List D → (List (Addr × List D) → D → Prop) → Prop) : Sp := fun vs H Q E => ∃ n, SpN (F n) S vs H Q E
section
variable {C : Cl} {B : Bs} {Γ : List Sl} {te to ti : TE} {ta : TA} {t : TS} {nx bk ct : List Sl → Prop} {rt : List Sl → D → Prop} {K : List (Addr × List D) → D → Prop} {KK : PySem.W.Frag}
theorem en_ek (h : EK C B Γ te (K [])) : EN C B Γ te K := fun W H σ e Q q => h W H σ e Q fun d v W' H' s r k => q [] d v W' H' s .nil r k
theorem en_ef (h : EF C B Γ te fun l => ∀ a, K [(a, l)] (.adr a)) : EN C B Γ te K := fun W H σ e Q q => h W H σ e Q fun l a vs W' H' s ha hW hh r k => q [(a, l)] (.adr a) _ W' H' s (.one ha hW hh r) (.adr a) (k a)
theorem an_nil {K : List (Addr × List D) → List D → Prop} (k : K [] []) : AN C B Γ tNil K := fun W H σ e Q q => q [] [] [] W H (.refl e.wh) .nil .nil k
theorem an_cons {tr : TA} {K : List (Addr × List D) → List D → Prop} (h : EN C B Γ te fun ds d => AN C B Γ tr fun es l => K (ds ++ es) (d :: l)) : AN C B Γ (tCons te tr) K := fun W H σ e Q q =>
  h W H σ e _ fun ds d v W1 H1 s1 n1 r1 h1 => h1 W1 H1 σ (e.step s1) _ fun es l vs W2 H2 s2 n2 r2 k =>
    q (ds ++ es) (d :: l) (v :: vs) W2 H2 (s1.trans s2) ((n1.step e.pl.ne s2).app s1 n1.there n2) (.cons (r1.mono s2.ww) r2) k
theorem en_tup (h : AN C B Γ ta fun ds l => l.length ≤ sizeLine ∧ K ds (.tup l)) : EN C B Γ (tTup ta) K := fun W H σ e Q q =>
  h W H σ e _ fun ds l vs W1 H1 s1 n1 r1 ⟨hz, h1⟩ => ⟨by rw [r1.length]; exact hz, fun p hp => by
    have s2 := Stp.new (C := C) (P := B.P) (S := noS) (o := .tup vs) s1.wh hp (e.pl.step s1).ne
    exact q ds _ _ _ _ (s1.trans s2) (n1.step e.pl.ne s2) (.tup upd_same (r1.mono s2.ww)) h1⟩
/-- a new list of what may be new -/
theorem en_lst (h : AN C B Γ ta fun ds l => l.length ≤ sizeLine ∧ ∀ a, K (ds ++ [(a, l)]) (.adr a)) : EN C B Γ (tLst ta) K := fun W H σ e Q q =>
  h W H σ e _ fun ds l vs W1 H1 s1 n1 r1 ⟨hz, h1⟩ => ⟨by rw [r1.length]; exact hz, fun p hp => by
    have s2 := Stp.own (C := C) (P := B.P) (S := noS) (o := .lst vs) s1.wh hp (e.pl.step s1).ne
    have hW : W1 p = none := by
      cases z : W1 p with
      | none => rfl
      | some o => rw [s1.wh _ _ z] at hp; cases hp
    exact q (ds ++ [(p, l)]) (.adr p) _ _ _ (s1.trans s2) ((n1.step e.pl.ne s2).app s1 n1.there (.one hp hW upd_same r1)) (.adr p) (h1 p)⟩
theorem en_call {F : Hp → Cl} {n : Hp} {S : List D → (List (Addr × List D) → D → Prop) → Prop} {K : List (Addr × List D) → D → Prop} (h : AK (F n) B Γ ta fun l => S l K) : EN (F n) B Γ (tCall (SpFamN F S) [] E0 ta) K := fun W H σ e Q q =>
  h W H σ e _ fun l vs W1 H1 s1 r1 h1 => ⟨n, B.P, W1, l, K, s1.wh, e.pl.step s1, by rw [List.append_nil]; exact r1, h1, fun ds d v W3 H3 k s3 n3 r3 => q ds d v W3 H3 (s1.trans s3) ⟨n3.nd, fun p hp => ⟨s1.free (n3.ok p hp).1, (n3.ok p hp).2⟩⟩ r3 k⟩
/-- [te for g in wi if tt], te makes new lists -/
theorem en_lc {wi : TI} {g : TG} {tt : TT} {vs : List Nat} (h : IK C B Γ wi fun l => ∃ J : Nat → List (Addr × List D) → List D → Prop, J 0 [] [] ∧
      (∀ W1 i d ds acc, l[i]? = some d → J i ds acc → CG C (B.keep W1) (wipeG Γ vs) g d vs fun Γ2 => TK C (B.keep W1) Γ2 tt fun b => (b = true → EN C (B.keep W1) Γ2 te fun es y => acc.length < sizeLine ∧ J (i + 1) (ds ++ es) (acc ++ [y])) ∧ (b = false → J (i + 1) ds acc)) ∧
      ∀ ds acc, J l.length ds acc → ∀ a, K (ds ++ [(a, acc)]) (.adr a)) : EN C B Γ (tLc wi g tt te vs) K := fun W H σ e Q q =>
  h W H σ e _ fun It W1 H1 l s1 y ⟨J, j0, hs, hd⟩ Dl hDl => by
    have e1 := e.step s1
    obtain ⟨ow, o⟩ := e.ow
    have o1 := o.step s1
    have hW1 : W1 Dl = none := by
      cases z : W1 Dl with
      | none => rfl
      | some x => rw [s1.wh _ _ z] at hDl; cases hDl
    have hP : B.P ≠ some Dl := fun z => e1.pl.ne Dl z hDl
    have hH : H Dl = none := s1.free hDl
    have h0 : B.H0 Dl = none := e.stp.free hH
    have hn := o1.ne hDl
    have hc := o1.neC hDl
    obtain ⟨e2, o2⟩ := e1.poke (u := .lst []) o1 hW1 hP (.inl h0) hn hc
    have s2 : Stp C B.P noS W H W1 (upd H1 Dl (.lst [])) := s1.trans (Stp.own s1.wh hDl e1.pl.ne)
    refine ⟨fun i m H' => m = l.length - i ∧ i ≤ l.length ∧ ∃ W2 ds acc va, EnvOk C B W2 H' σ Γ ∧ Owns C B W2 H' σ Γ ow ∧ Same W1 W2 ∧ Stp C B.P noS W H W2 H' ∧ W2 Dl = none ∧ H' Dl = some (.lst va) ∧ RepL C B.P W2 va acc ∧ News C B.P H W2 H' ds ∧ (∀ p ∈ ds, p.1 ≠ Dl) ∧ J i ds acc,
      ⟨l.length, rfl, Nat.zero_le _, W1, [], [], [], e2, o2, .refl _, s2, hW1, upd_same, .nil, .nil, fun _ h => (nomatch h), j0⟩, ?_⟩
    rintro i m H2 ⟨rfl, hi, W2, ds, acc, va, e3, o3, w12, st, d1, d2, d3, nw, nq, d4⟩
    by_cases hlt : i < l.length
    · obtain ⟨y1, y2⟩ := y.go i W2 H2 hlt w12 e3.wh e3.pl
      refine .inr ⟨y1, fun H' => ∃ W2 ds acc va, EnvOk C B W2 H' σ Γ ∧ Owns C B W2 H' σ Γ ow ∧ Same W1 W2 ∧ Stp C B.P noS W H W2 H' ∧ W2 Dl = none ∧ H' Dl = some (.lst va) ∧ RepL C B.P W2 va acc ∧ News C B.P H W2 H' ds ∧ (∀ p ∈ ds, p.1 ≠ Dl) ∧ J (i + 1) ds acc, fun H' z => ⟨l.length - (i + 1), by omega, rfl, hlt, z⟩, fun x H3 hy => ?_⟩
      obtain ⟨W3, d, s3, hd', r3⟩ := y2 x H3 hy
      have e4 := (e3.step s3).wipe vs
      have o4 := (o3.step s3).wipe (e3.step s3).len vs
      refine hs W1 i d ds acc hd' d4 W3 H3 _ x ow (e4.keep W1 (w12.trans s3.ww)) ⟨o4.inj, o4.fr, o4.ok, o4.one, o4.nd, fun i cs p h1 h2 => let k := o4.cl i cs p h1 h2; ⟨k.w, k.np, k.h, k.at_⟩, o4.df⟩ r3 _ fun Γ5 σ5 e5 o5 w5 k5 => ⟨w5.trans (by rw [wipe_wipe]), ?_⟩
      refine k5 W3 H3 σ5 e5 _ fun b W6 H6 s6 k6 => ?_
      have s36 := s3.trans s6
      have hDl6 : H6 Dl = some (.lst va) := s36.hh _ _ d2 hP (fun z => z)
      have W6D : W6 Dl = none := (s36.old _ _ d2).trans d1
      have nw6 := nw.step e.pl.ne s36
      cases b with
      | false => exact ⟨W6, ds, acc, va, e3.step s36, o3.step s36, w12.trans s36.ww, st.trans s36, W6D, hDl6, d3.mono s36.ww, nw6, nq, k6.2 rfl⟩
      | true =>
        refine k6.1 rfl W6 H6 σ5 (e5.step s6) _ fun es yv v W7 H7 s7 n7 r7 ⟨hz, k7⟩ => ?_
        have s37 := s36.trans s7
        have hDl7 : H7 Dl = some (.lst va) := s37.hh _ _ d2 hP (fun z => z)
        have W7D : W7 Dl = none := (s37.old _ _ d2).trans d1
        refine ⟨va, hDl7, by rw [d3.length]; exact hz, ?_⟩
        obtain ⟨e8, o8⟩ := (e3.step s37).poke (u := .lst (va ++ [v])) (o3.step s37) W7D hP (.inl h0) hn hc
        have st7 := st.trans s37
        have nq7 : ∀ p ∈ es, p.1 ≠ Dl := fun p hp z => by
          have := (n7.ok p hp).1
          rw [z, hDl6] at this; cases this
        have nw7 : News C B.P H W7 H7 (ds ++ es) := (nw.step e.pl.ne s37).app (st.trans s36) nw6.there n7
        have nqa : ∀ p ∈ ds ++ es, p.1 ≠ Dl := fun p hp => by
          rcases List.mem_append.mp hp with hp | hp
          · exact nq p hp
          · exact nq7 p hp
        refine ⟨W7, ds ++ es, acc ++ [yv], va ++ [v], e8, o8, w12.trans s37.ww, ⟨st7.ww, e8.wh, fun a u q1 q2 q3 => ?_, fun a u q1 => ?_, st7.old, fun a q1 q2 => ?_⟩, W7D, upd_same, (d3.mono s37.ww).append (.one r7), ⟨nw7.nd, fun p hp => ?_⟩, nqa, k7⟩
        · rw [upd_ne (fun z => by subst z; rw [hH] at q1; cases q1)]
          exact st7.hh a u q1 q2 q3
        · rw [upd_ne (fun z => by subst z; rw [hH] at q1; cases q1)]
          exact st7.dom a u q1
        · rw [upd_ne (fun z => by subst z; exact hP q1)]
          exact st7.pool a q1 q2
        · obtain ⟨z1, z2, us, z3, z4⟩ := nw7.ok p hp
          exact ⟨z1, z2, us, by rw [upd_ne (nqa p hp)]; exact z3, z4⟩
    · have hh : i = l.length := by omega
      subst hh
      refine .inl ⟨y.stop H2 (w12.trans e3.wh) (fun a o z => (e3.pl.rg a o z).1), q (ds ++ [(Dl, acc)]) (.adr Dl) _ W2 H2 st ?_ (.adr Dl) (hd ds acc d4 Dl)⟩
      refine ⟨?_, fun p hp => ?_⟩
      · rw [List.map_append]
        refine List.nodup_append.mpr ⟨nw.nd, by simp, fun x hx y hy z => ?_⟩
        obtain ⟨p, hp, rfl⟩ := List.mem_map.mp hx
        simp at hy; subst hy
        exact nq p hp z
      · rcases List.mem_append.mp hp with hp | hp
        · exact nw.ok p hp
        · cases List.mem_singleton.mp hp
          exact ⟨hH, d1, va, d2, d3⟩
/-! ### statements -/
theorem sx_reg (hn : Γ.all (fun s => !s.isR) = true) (h : SX C B (Γ ++ [.reg []]) t nx rt bk ct) : SX C B Γ t nx rt bk ct := fun W H σ e D' s => h W H σ (e.regNew hn) D' s
theorem sx_share {i j : Nat} {cs : List (Addr × List D)} {l : List D} (hj : Γ[j]? = some (.reg cs)) (hs : Γ[i]? = some (.own l)) (h : ∀ a, SX C B ((Γ.set i (.d (.adr a))).set j (.reg (cs ++ [(a, l)]))) t nx rt bk ct) : SX C B Γ t nx rt bk ct := fun W H σ e D' s => by
  obtain ⟨a, e'⟩ := e.share hj hs
  exact h a W H σ e' D' s
theorem isSlot_setR {cs ds : List (Addr × List D)} : ∀ {Γ : List Sl} {i j : Nat}, Γ[j]? = some (.reg cs) → isSlot Γ i = true → isSlot (Γ.set j (.reg ds)) i = true
  | [], _, _, _, h => by cases h
  | s :: _, 0, 0, h, k => by simp at h; subst h; cases k
  | _ :: _, 0, _ + 1, _, h => h
  | _ :: _, _ + 1, 0, _, h => h
  | _ :: r, i + 1, j + 1, h, k => isSlot_setR (Γ := r) (i := i) (j := j) (by simpa using h) k
theorem sx_setN {i j : Nat} {cs : List (Addr × List D)} (hj : Γ[j]? = some (.reg cs)) (hi : isSlot Γ i = true) (h : EN C B Γ te fun ds d => nx ((Γ.set j (.reg (cs ++ ds))).set i (.d d))) : SX C B Γ (tAsg te (gName i)) nx rt bk ct := fun W H σ e D' s =>
  h W H σ e _ fun ds d v W1 H1 s1 n1 r1 k => s.nx _ W1 H1 _ ((e.regNews hj s1 n1).setD (isSlot_setR hj hi) r1) k
theorem sx_retN {j : Nat} {cs : List (Addr × List D)} (hj : Γ[j]? = some (.reg cs)) (h : EN C B Γ te fun ds d => rt (Γ.set j (.reg (cs ++ ds))) d) : SX C B Γ (tRet te) nx rt bk ct := fun W H σ e D' s =>
  h W H σ e _ fun ds d v W1 H1 s1 n1 r1 k => s.rt _ d v W1 H1 σ (e.regNews hj s1 n1) r1 k
/-- o.append(e), o a list that the frame may change -/
theorem sx_appC {j : Nat} {cs : List (Addr × List D)} (hj : Γ[j]? = some (.reg cs)) (h : EK C B Γ to fun d0 => ∃ a, d0 = .adr a ∧ (∃ l, (a, l) ∈ cs) ∧ EN C B Γ te fun ds d => ∃ k l, (cs ++ ds)[k]? = some (a, l) ∧ l.length < sizeLine ∧ nx (Γ.set j (.reg ((cs ++ ds).set k (a, l ++ [d]))))) :
    SX C B Γ (tDrop (tBM KK "list" rAppend to (tCons te tNil))) nx rt bk ct := fun W H σ e D' s =>
  h W H σ e _ fun d0 v0 W0 H0 s0 r0 ⟨a, e0, ⟨l0, hm⟩, h1⟩ => by
    subst e0; cases r0
    have e1 := e.step s0
    obtain ⟨ow, o⟩ := e1.ow
    obtain ⟨vs0, q0, _⟩ := (o.cl j cs _ hj hm).at_
    refine ⟨.inl ⟨rfl, _, SqL.of q0⟩, h1 W0 H0 σ e1 _ fun ds d v W1 H1 s1 n1 r1 ⟨k, l, hk, hz, kx⟩ => ?_⟩
    have e2 := e1.regNews hj s1 n1
    have hj2 : (Γ.set j (.reg (cs ++ ds)))[j]? = some (.reg (cs ++ ds)) := List.getElem?_set_self (List.getElem?_eq_some_iff.mp hj).1
    obtain ⟨ow2, o2⟩ := e2.ow
    obtain ⟨vs, q1, q2⟩ := (o2.cl j _ _ hj2 (List.mem_of_getElem? hk)).at_
    refine ⟨a, vs, v, rfl, rfl, q1, by rw [q2.length]; exact hz, ?_⟩
    have e3 := e2.regChg (us := vs ++ [v]) (m := l ++ [d]) hj2 hk (q2.append (.one r1))
    rw [List.set_set] at e3
    exact s.nx _ W1 _ σ e3 kx
/-- xs.append(e), xs a list that only this frame knows, e new -/
theorem sx_appO {i j : Nat} {cs : List (Addr × List D)} {l : List D} (hj : Γ[j]? = some (.reg cs)) (hs : Γ[i]? = some (.own l)) (h : EN C B Γ te fun ds d => l.length < sizeLine ∧ nx ((Γ.set j (.reg (cs ++ ds))).set i (.own (l ++ [d])))) :
    SX C B Γ (tDrop (tBM KK "list" rAppend (tVar i) (tCons te tNil))) nx rt bk ct := fun W H σ e D' s => by
  obtain ⟨ow, o⟩ := e.ow
  obtain ⟨h1, vs, h2, h3⟩ := o.ok i _ hs
  refine ⟨_, getD_some h1, .inl ⟨rfl, _, SqL.of h2⟩, h W H σ e _ fun ds d v W1 H1 s1 n1 r1 ⟨hz, k⟩ => ?_⟩
  have e2 := e.regNews hj s1 n1
  have hij : j ≠ i := fun z => by subst z; rw [hs] at hj; cases hj
  have hs2 : (Γ.set j (.reg (cs ++ ds)))[i]? = some (.own l) := by rw [List.getElem?_set_ne hij]; exact hs
  obtain ⟨ow3, o3, f⟩ := e2.chg (u := .lst (vs ++ [v])) (t := .own (l ++ [d])) hs2 rfl rfl (fun _ h => h)
  have ee : ow3 i = ow i := by
    obtain ⟨g1, _⟩ := o3.ok i _ hs2
    rw [h1] at g1
    injection g1 with g1
    injection g1 with g1
    exact g1.symm
  rw [ee] at f
  have hH1 : H1 (ow i) = some (.lst vs) := s1.hh _ _ h2 (o.fr i _ hs rfl).p (fun z => z)
  refine ⟨ow i, vs, v, rfl, rfl, hH1, by rw [h3.length]; exact hz, ?_⟩
  exact s.nx _ W1 _ σ (f ⟨h1, vs ++ [v], upd_same, (h3.mono s1.ww).append (.one r1)⟩) k
/-- o[i] = e, o a list that the frame may change -/
theorem sx_setC {j : Nat} {cs : List (Addr × List D)} (hj : Γ[j]? = some (.reg cs)) (h : EN C B Γ te fun ds d => EK C B (Γ.set j (.reg (cs ++ ds))) to fun d0 => ∃ a, d0 = .adr a ∧ EK C B (Γ.set j (.reg (cs ++ ds))) ti fun d2 => ∃ k l i n, (cs ++ ds)[k]? = some (a, l) ∧ d2 = .int i ∧ ixN l.length i = some n ∧ nx (Γ.set j (.reg ((cs ++ ds).set k (a, l.set n d))))) :
    SX C B Γ (tAsg te (gSub to ti rSetL)) nx rt bk ct := fun W H σ e D' s =>
  h W H σ e _ fun ds d v W1 H1 s1 n1 r1 h1 => by
    have e2 := e.regNews hj s1 n1
    have hj2 : (Γ.set j (.reg (cs ++ ds)))[j]? = some (.reg (cs ++ ds)) := List.getElem?_set_self (List.getElem?_eq_some_iff.mp hj).1
    refine h1 W1 H1 σ e2 _ fun d0 v0 W2 H2 s2 r2 ⟨a, e0, h2⟩ => ?_
    subst e0; cases r2
    refine h2 W2 H2 σ (e2.step s2) _ fun d2 v2 W3 H3 s3 r3 ⟨k, l, i, n, hk, ei, hn, kx⟩ => ?_
    subst ei; cases r3
    have e3 := (e2.step s2).step s3
    obtain ⟨ow3, o3⟩ := e3.ow
    obtain ⟨vs, q1, q2⟩ := (o3.cl j _ _ hj2 (List.mem_of_getElem? hk)).at_
    refine ⟨a, vs, i, n, rfl, rfl, q1, by rw [q2.length]; exact hn, ?_⟩
    have e4 := e3.regChg (us := vs.set n v) (m := l.set n d) hj2 hk (q2.set (r1.mono (s2.trans s3).ww) n)
    rw [List.set_set] at e4
    exact s.nx _ W3 _ σ e4 kx
end
/-! ### such lists become data -/
mutual
inductive ResF (cs : List (Addr × List D)) : D → D → Prop where
  | id {d : D} : ResF cs d d
  | adr {a : Addr} {l l' : List D} (h : (a, l) ∈ cs) (r : ResFL cs l l') : ResF cs (.adr a) (.lst l')
  | tup {l l' : List D} (r : ResFL cs l l') : ResF cs (.tup l) (.tup l')
  | lst {l l' : List D} (r : ResFL cs l l') : ResF cs (.lst l) (.lst l')
inductive ResFL (cs : List (Addr × List D)) : List D → List D → Prop where
  | nil : ResFL cs [] []
  | cons {d d' : D} {l l' : List D} (h : ResF cs d d') (r : ResFL cs l l') : ResFL cs (d :: l) (d' :: l')
end
section
variable {C : Cl} {cs : List (Addr × List D)} {P : Option Addr} {W W' : Hp} (hc : ∀ p ∈ cs, ∃ vs, W' p.1 = some (.lst vs) ∧ RepL C P W vs p.2) (hw : Same W W')
include hc hw
mutual
theorem ResF.rep : ∀ {d d' : D} {v : V}, ResF cs d d' → Rep C P W v d → Rep C P W' v d'
  | _, _, _, .id, r => r.mono hw
  | _, _, _, .adr h q, r => by
    cases r
    obtain ⟨vs, h1, h2⟩ := hc _ h
    exact .lst h1 (ResFL.rep q h2)
  | _, _, _, .tup q, r => by
    cases r with
    | tup ha rl => exact .tup (hw _ _ ha) (ResFL.rep q rl)
  | _, _, _, .lst q, r => by
    cases r with
    | lst ha rl => exact .lst (hw _ _ ha) (ResFL.rep q rl)
theorem ResFL.rep : ∀ {l l' : List D} {vs : List V}, ResFL cs l l' → RepL C P W vs l → RepL C P W' vs l'
  | _, _, _, .nil, r => by cases r; exact .nil
  | _, _, _, .cons h q, r => by
    cases r with
    | cons r1 r2 => exact .cons (ResF.rep h r1) (ResFL.rep q r2)
end
end
section
variable {C : Cl} {B : Bs} {Γ : List Sl} {W H : Hp} {σ : L2.St} {t : TS} {nx bk ct : List Sl → Prop} {rt : List Sl → D → Prop}
def frzW (cs : List (Addr × List D)) (W H : Hp) : Hp := fun a => if (cs.map (·.1)).contains a then H a else W a
theorem frzW_in {cs : List (Addr × List D)} {p : Addr × List D} (h : p ∈ cs) : frzW cs W H p.1 = H p.1 := by
  unfold frzW
  rw [if_pos]
  simp
  exact ⟨p.2, h⟩
theorem frzW_out {cs : List (Addr × List D)} {a : Addr} (h : ∀ p ∈ cs, p.1 ≠ a) : frzW cs W H a = W a := by
  unfold frzW
  rw [if_neg]
  simp
  exact fun l hl => h _ hl rfl
theorem EnvOk.frz (e : EnvOk C B W H σ Γ) {j : Nat} {cs : List (Addr × List D)} (hj : Γ[j]? = some (.reg cs)) : ∃ W', Same W W' ∧ EnvOk C B W' H σ (Γ.set j (.reg [])) ∧ ∀ p ∈ cs, ∃ vs, W' p.1 = some (.lst vs) ∧ RepL C B.P W vs p.2 := by
  obtain ⟨ow, o⟩ := e.ow
  have cl := fun p hp => o.cl j cs p hj hp
  have ww : Same W (frzW cs W H) := fun a x q => by
    rw [frzW_out (fun p hp z => by rw [← z, (cl p hp).w] at q; cases q)]; exact q
  have wh : Same (frzW cs W H) H := fun a x q => by
    unfold frzW at q
    split at q
    · exact q
    · exact e.wh a x q
  have o1 := o.regSet hj (ds := []) (by simp) (fun _ h => nomatch h) (fun _ h => nomatch h)
  have nr : ∀ (i : Nat) (s : Sl), Γ[i]? = some s → s.isO = true → frzW cs W H (ow i) = W (ow i) := fun i s h1 h2 => frzW_out fun p hp z => o.df j cs p i s hj hp h1 h2 z.symm
  refine ⟨frzW cs W H, ww, ⟨⟨e.stp.ww.trans ww, wh, e.stp.hh, e.stp.dom, fun a x q => ?_, fun a q z => C.pkm ww (e.stp.pool a q z)⟩, e.kp.trans ww, ⟨fun a q => ?_, fun a o' q => ?_⟩, e.p0, e.len.setG hj rfl, ow, o1.inj, fun i s h1 h2 => ?_, fun i s h1 => ?_, o1.one, o1.nd, fun i es p h1 h2 => ?_, o1.df⟩, fun p hp => ?_⟩
  · rw [frzW_out (fun p hp z => by rw [← z, (cl p hp).h] at q; cases q)]
    exact e.stp.old a x q
  · rw [frzW_out (fun p hp z => (cl p hp).np (by rw [z]; exact q))]
    exact ⟨(e.pl.po a q).1, C.pkm ww (e.pl.po a q).2⟩
  · rw [frzW_out (fun p hp z => e.nm (.inl (cl p hp).h) q z.symm)]
    exact e.pl.rg a o' q
  · rcases set_cases h1 with ⟨_, rfl⟩ | ⟨_, h1⟩
    · cases h2
    · exact (o.fr i s h1 h2).mono ((nr i s h1 h2).trans (o.fr i s h1 h2).w)
  · have q := o1.ok i s h1
    cases s with
    | no => trivial
    | d x => obtain ⟨v, q1, q2⟩ := q; exact ⟨v, q1, q2.mono ww⟩
    | own l => obtain ⟨q1, vs', q2, q3⟩ := q; exact ⟨q1, vs', q2, q3.mono ww⟩
    | ins c l => obtain ⟨q1, dx, fs, q2, q3, q4⟩ := q; exact ⟨q1, dx, fs, q2, q3, q4.mono ww⟩
    | reg cs => trivial
  · rcases set_cases h1 with ⟨_, z⟩ | ⟨hi, z⟩
    · cases z; cases h2
    · exact absurd (o.one _ _ _ _ z hj) hi
  · obtain ⟨vs, h1, h2⟩ := (cl p hp).at_
    exact ⟨vs, (frzW_in hp).trans h1, h2⟩
theorem EnvOk.redata (e : EnvOk C B W H σ Γ) {i : Nat} {d d' : D} (hs : Γ[i]? = some (.d d)) (h : ∀ v, Rep C B.P W v d → Rep C B.P W v d') : EnvOk C B W H σ (Γ.set i (.d d')) := by
  obtain ⟨ow, o⟩ := e.ow
  have hl : i < σ.length := by
    rcases Nat.lt_or_ge i σ.length with z | z
    · exact z
    · have := (e.len.c i _ hs).mp z; cases this
  obtain ⟨v, h1, h2⟩ := o.ok i _ hs
  have es : σ.set i (some v) = σ := by
    apply List.ext_getElem?
    intro n
    rw [List.getElem?_set]
    by_cases hn : i = n
    · subst hn
      rw [if_pos rfl, if_pos hl]
      rw [List.getD_eq_getElem?_getD] at h1
      cases z : σ[i]? with
      | none => rw [z] at h1; cases h1
      | some y => rw [z] at h1; exact congrArg some h1.symm
    · rw [if_neg hn]
  have o1 := o.put (i := i) (s := .d d') (x := some v) hl rfl rfl ⟨v, rfl, h v h2⟩
  rw [es] at o1
  exact ⟨e.stp, e.kp, e.pl, e.p0, e.len.setG hs rfl, ow, o1⟩
/-- all of the frame's lists become data, and what slot i names with them -/
theorem sx_frz {i j : Nat} {cs : List (Addr × List D)} {d d' : D} (hj : Γ[j]? = some (.reg cs)) (hs : Γ[i]? = some (.d d)) (hr : ResF cs d d') (h : SX C B ((Γ.set i (.d d')).set j (.reg [])) t nx rt bk ct) : SX C B Γ t nx rt bk ct := fun W H σ e D' s => by
  obtain ⟨W', hw, e', hc⟩ := e.frz hj
  have hij : i ≠ j := fun z => by subst z; rw [hs] at hj; cases hj
  obtain ⟨ow, o⟩ := e.ow
  obtain ⟨v, h1, h2⟩ := o.ok i _ hs
  have hs' : (Γ.set j (.reg []))[i]? = some (.d d) := by rw [List.getElem?_set_ne (Ne.symm hij)]; exact hs
  obtain ⟨ow', o'⟩ := e'.ow
  have e2 : EnvOk C B W' H σ ((Γ.set j (.reg [])).set i (.d d')) := by
    have hl : i < σ.length := by
      rcases Nat.lt_or_ge i σ.length with z | z
      · exact z
      · have := (e.len.c i _ hs).mp z; cases this
    have es : σ.set i (some v) = σ := by
      apply List.ext_getElem?
      intro n
      rw [List.getElem?_set]
      by_cases hn : i = n
      · subst hn
        rw [if_pos rfl, if_pos hl]
        rw [List.getD_eq_getElem?_getD] at h1
        cases z : σ[i]? with
        | none => rw [z] at h1; cases h1
        | some y => rw [z] at h1; exact congrArg some h1.symm
      · rw [if_neg hn]
    have o1 := o'.put (i := i) (s := .d d') (x := some v) hl rfl rfl ⟨v, rfl, hr.rep hc hw h2⟩
    rw [es] at o1
    exact ⟨e'.stp, e'.kp, e'.pl, e'.p0, e'.len.setG hs' rfl, ow', o1⟩
  rw [List.set_comm _ _ (Ne.symm hij)] at e2
  exact h W' H σ e2 D' s
end
/-! ### calls with such lists -/
mutual
inductive Res (cs : List (Addr × List D)) : D → D → Prop where
  | id {d : D} : Res cs d d
  | adr {a : Addr} {l l' : List D} (h : (a, l) ∈ cs) (r : ResL cs l l') : Res cs (.adr a) (.mls l')
  | tup {l l' : List D} (r : ResL cs l l') : Res cs (.tup l) (.tup l')
  | lst {l l' : List D} (r : ResL cs l l') : Res cs (.lst l) (.lst l')
inductive ResL (cs : List (Addr × List D)) : List D → List D → Prop where
  | nil : ResL cs [] []
  | cons {d d' : D} {l l' : List D} (h : Res cs d d') (r : ResL cs l l') : ResL cs (d :: l) (d' :: l')
end
section
variable {F : Hp → Cl} (fam : Fam F) {n m : Hp} {cs : List (Addr × List D)} {P : Option Addr} {W : Hp} (hc : ∀ p ∈ cs, ∃ vs, m p.1 = some (.lst vs) ∧ RepL (F n) P W vs p.2) (hm : Same n m)
include fam hc hm
mutual
theorem Res.rep : ∀ {d d' : D} {v : V}, Res cs d d' → Rep (F n) P W v d → Rep (F m) P W v d'
  | _, _, _, .id, r => r.cl (fam.frac n m) (fam.cls n m) (by rw [fam.m, fam.m]; exact hm)
  | _, _, _, .adr h q, r => by
    cases r
    obtain ⟨vs, h1, h2⟩ := hc _ h
    exact .mls (by rw [fam.m]; exact h1) (ResL.rep q h2)
  | _, _, _, .tup q, r => by
    cases r with
    | tup ha rl => exact .tup ha (ResL.rep q rl)
  | _, _, _, .lst q, r => by
    cases r with
    | lst ha rl => exact .lst ha (ResL.rep q rl)
theorem ResL.rep : ∀ {l l' : List D} {vs : List V}, ResL cs l l' → RepL (F n) P W vs l → RepL (F m) P W vs l'
  | _, _, _, .nil, r => by cases r; exact .nil
  | _, _, _, .cons h q, r => by
    cases r with
    | cons r1 r2 => exact .cons (Res.rep h r1) (ResL.rep q r2)
end
end
section
variable {F : Hp → Cl} {n : Hp} {B : Bs} {Γ : List Sl} {ta : TA} {te : TE} {K : D → Prop} {j : Nat} {cs : List (Addr × List D)}
/-- the lists that may be read, those of the frame with them -/
def withC (n H : Hp) (cs : List (Addr × List D)) : Hp := fun a => if (cs.map (·.1)).contains a then H a else n a
theorem withC_in {n H : Hp} {p : Addr × List D} (h : p ∈ cs) : withC n H cs p.1 = H p.1 := by
  unfold withC
  rw [if_pos]
  simp
  exact ⟨p.2, h⟩
theorem withC_cases {n H : Hp} {a : Addr} {o : HO} (h : withC n H cs a = some o) : (∃ p ∈ cs, p.1 = a ∧ H a = some o) ∨ n a = some o := by
  unfold withC at h
  by_cases z : (cs.map (·.1)).contains a = true
  · rw [if_pos z] at h
    simp at z
    obtain ⟨l, hl⟩ := z
    exact .inl ⟨(a, l), hl, rfl, h⟩
  · rw [if_neg z] at h; exact .inr h
theorem Fam.stp (fam : Fam F) {n m : Hp} {P : Option Addr} {S : Addr → Prop} {W H W' H' : Hp} (s : Stp (F n) P S W H W' H') : Stp (F m) P S W H W' H' := ⟨s.ww, s.wh, s.hh, s.dom, s.old, fun a z q => fam.pk n m _ _ (s.pool a z (fam.pk m n _ _ q))⟩
/-- what a call over the frame's lists needs -/
theorem EnvOk.withC (fam : Fam F) {W H : Hp} {σ : L2.St} (e : EnvOk (F n) B W H σ Γ) (hj : Γ[j]? = some (.reg cs)) : PlOk (F (withC n H cs)) B.P W H ∧ (∀ p ∈ cs, ∃ vs, G.withC n H cs p.1 = some (.lst vs) ∧ RepL (F n) B.P W vs p.2) ∧ Same n (G.withC n H cs) := by
  obtain ⟨ow, o⟩ := e.ow
  refine ⟨⟨fun a z => ⟨(e.pl.po a z).1, fam.pk _ _ _ _ (e.pl.po a z).2⟩, fun a u z => ?_⟩, fun p hp => ?_, fun a u z => ?_⟩
  · rw [fam.m] at z
    rcases withC_cases z with ⟨p, hp, rfl, h⟩ | h
    · have c := o.cl j cs p hj hp
      exact ⟨h, c.w, c.np⟩
    · exact e.pl.rg a u (by rw [fam.m]; exact h)
  · obtain ⟨vs, h1, h2⟩ := (o.cl j cs p hj hp).at_
    exact ⟨vs, (withC_in hp).trans h1, h2⟩
  · by_cases h : (cs.map (·.1)).contains a = true
    · have h' := h
      simp at h'
      obtain ⟨l, hl⟩ := h'
      have c := o.cl j cs (a, l) hj hl
      exact absurd rfl (e.nm (.inl c.h) (show (F n).m a = some u by rw [fam.m]; exact z))
    · unfold G.withC; rw [if_neg h]; exact z
theorem ek_callM (fam : Fam F) (hj : Γ[j]? = some (.reg cs)) {S : List D → (D → Prop) → Prop} (h : AK (F n) B Γ ta fun l => ∃ l', ResL cs l l' ∧ S l' fun d => NoM d ∧ K d) : EK (F n) B Γ (tCall (SpFam F S) [] E0 ta) K := fun W H σ e Q q =>
  h W H σ e _ fun l vs W1 H1 s1 r1 ⟨l', hr, h1⟩ => by
    have e1 := e.step s1
    obtain ⟨p1, p2, p3⟩ := e1.withC fam hj
    refine ⟨withC n H1 cs, B.P, W1, l', fun d => NoM d ∧ K d, s1.wh, p1, by rw [List.append_nil]; exact hr.rep fam p2 p3 r1, h1, fun d v W3 H3 k s3 r3 => ?_⟩
    exact q d v W3 H3 (s1.trans (fam.stp s3)) (r3.noM (fam.frac _ _) (fam.cls _ _) k.1) k.2
theorem ek_mkOM (fam : Fam F) (hj : Γ[j]? = some (.reg cs)) {A : Addr} {c : Nat} (hA : ∀ n, (F n).cls c = A) {S : List D → (List (Str × D) → Prop) → Prop} (h : AK (F n) B Γ ta fun l => ∃ l', ResL cs l l' ∧ S l' fun fl => NoM (.obj c fl) ∧ K (.obj c fl)) : EK (F n) B Γ (tMake A (SpFamI F A S) [] E0 ta) K := fun W H σ e Q q =>
  h W H σ e _ fun l vs W1 H1 s1 r1 ⟨l', hr, h1⟩ x dx hx hdx hne => by
    have e1 := e.step s1
    obtain ⟨p1, p2, p3⟩ := e1.withC fam hj
    have r2 := hr.rep fam p2 p3 r1
    refine make_run (n := withC n H1 cs) (K := fun d => NoM d ∧ K d) (dds := []) (W := W) (H := H) (fam.stp s1) p1 r2 (fun _ => .nil) (fun fl d => d = .obj c fl) (fun W x dx fs fl d e h1 h2 h3 => obj_rep (hA _) W x dx fs fl d e h1 h2 h3) ?_ Q (fun d v W' H' s r k => q d v W' H' (fam.stp s) (r.noM (fam.frac _ _) (fam.cls _ _) k.1) k.2) x dx hx hdx (fun z => hne z.symm)
    have : (fun fl => ∃ d, d = D.obj c fl ∧ NoM d ∧ K d) = fun fl => NoM (.obj c fl) ∧ K (.obj c fl) := by
      funext fl; exact propext ⟨fun ⟨d, e, k⟩ => e ▸ k, fun k => ⟨_, rfl, k⟩⟩
    rw [this, List.append_nil]; exact h1
end
/-! ### defs that hand back new lists -/
section
variable {P : Program} {w : World} {K : PySem.W.Frag} {mg : Str → Option Value} {base : Heap} {k : Nat} {x : Str} {st : Stmt} {N ps : List Str} {F : Hp → Cl}
theorem sp_bodyN {C : Cl} {S : List D → (List (Addr × List D) → D → Prop) → Prop} {t : TS} (h : ∀ B l K, S l K → SX C B (G0 N l) t (fun _ => K [] .non) (fun Γ d => ∃ (j : Nat) (ds : List (Addr × List D)), Γ[j]? = some (.reg ds) ∧ K ds d) (fun _ => False) (fun _ => False)) (vs : List V) (H : Hp) (Q : VK) (E : XK) (q : SpN C S vs H Q E) :
    t { nx := fun _ H' => Q .non H', rt := Q } (L2.start N vs) H := by
  obtain ⟨P, W, l, K, hw, pl, r, hS, k⟩ := q
  refine h ⟨P, noS, W, H, W⟩ l K hS W H _ (env_start hw pl r) _ ⟨fun Γ W' H' σ' e z => k [] .non .non W' H' z e.stp ⟨List.nodup_nil, fun _ h => (nomatch h)⟩ .non, fun Γ d v W' H' σ' e r' z => ?_, fun _ _ _ _ _ z => z.elim, fun _ _ _ _ _ z => z.elim⟩
  obtain ⟨j, ds, hj, kx⟩ := z
  obtain ⟨ow, o⟩ := e.ow
  refine k ds d v W' H' kx e.stp ⟨o.nd j ds hj, fun p hp => ?_⟩ r'
  have c := o.cl j ds p hj hp
  exact ⟨c.h, c.w, c.at_⟩
theorem cal_mkN {S : List D → (List (Addr × List D) → D → Prop) → Prop} (g : mg x = some (.ref (He.ga K x))) (Fd : ∃ fd, FnP K x st fd) (sc : FnScope N ps (defScope st))
    (b : ∀ (kV doc pm : Value) (an : Option Addr) (cdv ct : Value) (us : List Value), us.length = ps.length → bindArgs (PySem.W.fnOf x x (defArgs st) (defBody st) (defScope st) .none kV doc pm an cdv ct) ⟨us, []⟩ = pure (ps.zip us))
    (len : ∀ l K, S l K → l.length = ps.length)
    (hb : ∀ (f : Addr) (cdv : Value) (A : Around) (outer : List Env) (s : Shared) (H : Hp) (E : XK), Room k (A.deeper (envOfC x (defScope st) s.heap.objs.size f cdv)) →
      ∃ t, PSs (cxOf (L2.CX P w) P w K mg base N x (defScope st) f cdv A outer s H E).nox (defBody st) t ∧ ∀ n B l K, S l K → SX (F n) B (G0 N l) t (fun _ => K [] .non) (fun Γ d => ∃ (j : Nat) (ds : List (Addr × List D)), Γ[j]? = some (.reg ds) ∧ K ds d) (fun _ => False) (fun _ => False)) : Cal P w K mg base (k + 1) x ps (SpFamN F S) := by
  obtain ⟨fd, Fd⟩ := Fd
  refine ⟨g, Fd.kp, fd, Fd.ok sc (fun vs H Q E ⟨n, P, W, l, K, _, _, r, hS, _⟩ => r.length.trans (len l K hS)) fun cdv A outer s H vs Q E hr ⟨n, hsp⟩ => ?_, Fd.bindsN b⟩
  obtain ⟨t, h1, h2⟩ := hb _ cdv A outer s H E hr
  exact ⟨t, h1.nox, sp_bodyN (h2 n) vs H Q E hsp⟩
end
end G
end

section
set_option maxRecDepth 100000
set_option maxHeartbeats 2000000
/-! an own == that may be False, within lists and tuples; len(an own object) -/
namespace GBq
open PySem PySem.SeqAt
open AutoSeq1 (wpAny_loadPart')
open MeetsSeq MeetsSeq2 MeetsSeq3 SeqRoads2 GQ
section
variable {prog : Program} {w : World} {A : Around} {R : Result → Shared → Prop}
/-- at each turn the two lists are read anew: N items each, of the i-th two == tells e i -/
def ListB (prog : Program) (w : World) (A : Around) (E : Value → Shared → Prop) (l b : Addr) (N : Nat) (e : Nat → Bool) (I : Nat → Shared → Prop) : Prop :=
  ∀ i s, I i s → ∃ (items items2 : Array Value) (n n2 : Nat), s.heap.get? l = some { cls := .type "list", data := .seq items n } ∧ s.heap.get? b = some { cls := .type "list", data := .seq items2 n2 } ∧ items.size = N ∧ items2.size = N ∧
    ∀ (h1 : i < items.size) (h2 : i < items2.size), wpAny (model prog w) A.in1 (eqBool items[i] items2[i]) (fun r s' => r = e i ∧ ∃ (its its2 : Array Value) (n n2 : Nat), s'.heap.get? l = some { cls := .type "list", data := .seq its n } ∧ s'.heap.get? b = some { cls := .type "list", data := .seq its2 n2 } ∧ its.size = N ∧ its2.size = N ∧ I (i + 1) s') E s
def allB (e : Nat → Bool) (N i : Nat) : Bool := ((List.range N).drop i).all e
theorem allB_end {e : Nat → Bool} {N i : Nat} (h : N ≤ i) : allB e N i = true := by
  unfold allB
  rw [List.drop_of_length_le (by simpa using h)]; rfl
theorem allB_next {e : Nat → Bool} {N i : Nat} (h : i < N) : allB e N i = (e i && allB e N (i + 1)) := by
  unfold allB
  rw [List.drop_eq_getElem_cons (by simpa using h), List.all_cons, List.getElem_range]
theorem ne_loopG (l b : Addr) (N : Nat) (e : Nat → Bool) (I : Nat → Shared → Prop) (hl : ListB prog w A (fun e s' => R (.error e) s') l b N e I) (k : Nat) :
    ∀ i : Nat, N - i = k → i ≤ N → (∀ j s, i ≤ j → I j s → R (.ok (.ret (.bool (!allB e N i)))) s) → ∀ s, I i s →
      wpAny (model prog w) A.in1 (Builtin.«list.__eq__.loop» ⟨[.ref l, .ref b, rawInt i, rawInt 3], []⟩) (FinOf prog w A R) (fun e s' => R (.error e) s') s := by
  induction k with
  | zero =>
    intro i hk hi fin s h
    obtain ⟨items, items2, n, n2, hl1, hb1, hs1, hs2, _⟩ := hl _ _ h
    have hi' : i = N := by omega
    have hR := fin i s (Nat.le_refl _) h
    rw [allB_end (by omega)] at hR
    obtain ⟨hp, g, d, tk, os⟩ := s
    wp_walk using wpAny_loadPart' hl1, wpAny_loadPart' hb1
    have hi1 : items[((i : Nat) : Int).toNat]? = none := by simp; omega
    have hi2 : items2[((i : Nat) : Int).toNat]? = none := by simp; omega
    rw [hi1, hi2]
    wp_walk using wpAny_loadPart' hl1, wpAny_loadPart' hb1
    show R (.ok (.ret (.bool (items.size != items2.size)))) _
    rw [hs1, hs2]
    simpa using hR
  | succ k ih =>
    intro i hk hi fin s h
    obtain ⟨items, items2, n, n2, hl1, hb1, hs1, hs2, turn⟩ := hl _ _ h
    have hlt : i < items.size := by omega
    have hlt2 : i < items2.size := by omega
    have ht := turn hlt hlt2
    rw [allB_next (show i < N by omega)] at fin
    obtain ⟨hp, g, d, tk, os⟩ := s
    wp_walk using wpAny_loadPart' hl1, wpAny_loadPart' hb1
    have hi1 : items[((i : Nat) : Int).toNat]? = some items[i] := by simp [hlt]
    have hi2 : items2[((i : Nat) : Int).toNat]? = some items2[i] := by simp [hlt2]
    have hc : ((i : Int) + 1) = ((i + 1 : Nat) : Int) := by omega
    rw [hi1, hi2]
    refine wpAny_bind (wpAny_mono ht (fun r s2 h2 => ?_) fun _ _ x => x)
    obtain ⟨hr, its, its2, m, m2, hm1, hm2, hz1, hz2, h2⟩ := h2
    subst hr
    cases hb' : e i with
    | true =>
      rw [hb', Bool.true_and] at fin
      have hrec := ih (i + 1) (by omega) (by omega) (fun j s hj hI => fin j s (by omega) hI) s2 h2
      obtain ⟨hp2, g2, d2, tk2, os2⟩ := s2
      wp_walk
      rw [hc]
      exact ⟨plainId_quiet plain_eq_loop _, codeAny_builtin entry_eq_loop (by
        rw [Around.under_plainId plain_eq_loop _]
        exact hrec)⟩
    | false =>
      rw [hb', Bool.false_and] at fin
      have hR := fin (i + 1) s2 (by omega) h2
      obtain ⟨hp2, g2, d2, tk2, os2⟩ := s2
      have hi3 : its[((i : Nat) : Int).toNat]? = some (its[i]'(by omega)) := by simp
      have hi4 : its2[((i : Nat) : Int).toNat]? = some (its2[i]'(by omega)) := by simp
      wp_walk using wpAny_loadPart' hm1, wpAny_loadPart' hm2
      rw [hi3, hi4]
      wp_walk
      simpa using hR
theorem list_neG (l b : Addr) (N : Nat) (e : Nat → Bool) (I : Nat → Shared → Prop) (hl : ListB prog w A (fun e s' => R (.error e) s') l b N e I)
    (fin : ∀ j s, I j s → R (.ok (.ret (.bool (!allB e N 0)))) s) {s : Shared} (h : I 0 s) :
    wpAny (model prog w) A.in1 (Builtin.«list.__ne__» ⟨[.ref l, .ref b], []⟩) (FinOf prog w A R) (fun e s' => R (.error e) s') s := by
  obtain ⟨items, items2, n, n2, hl1, hb1, hs1, hs2, _⟩ := hl _ _ h
  have hrec := ne_loopG (A := A) (R := R) l b N e I hl _ 0 rfl (Nat.zero_le _) (fun j s _ hI => fin j s hI) s h
  obtain ⟨hp, g, d, tk, os⟩ := s
  have f3 := AutoSeq1.sub_list_list
  have hne : ¬ (items.size != items2.size) = true := by simp [hs1, hs2]
  wp_walk using wpAny_loadPart' hl1, wpAny_loadPart' hb1
  exact ⟨plainId_quiet plain_eq_loop _, codeAny_builtin entry_eq_loop (by
    rw [Around.under_plainId plain_eq_loop _]
    exact hrec)⟩
end
section
variable {prog : Program} {w : World} {A : Around} {E : Value → Shared → Prop} {s : Shared}
theorem rc_neG {l b : Addr} {N : Nat} {e : Nat → Bool} {Q : Value → Shared → Prop} (hu : A.units < cLine) (I : Nat → Shared → Prop) (hl : ListB prog w A E l b N e I)
    (fin : ∀ j s, I j s → Q (.bool (!allB e N 0)) s) (h : I 0 s) : wpAny (model prog w) A (richCompare .NotEq (.ref l) (.ref b)) Q E s := by
  obtain ⟨items, items2, n, n2, hl1, hb1, _, _, _⟩ := hl _ _ h
  refine wpAny_richCompare_same_room (op := .NotEq) ⟨_, hl1, rfl⟩ ⟨_, hb1, rfl⟩ F.slot_list_ne (call_here F.slot_list_ne ⟨_, hl1, rfl⟩ F.entry_list_ne (F.args_list_ne_2 _ _) ?_) hu
  exact list_neG (R := wants (fun v s' => v ≠ .notImplemented ∧ Q v s') E) l b N e I hl (fun j s' q => ⟨(fun x => nomatch x), fin j s' q⟩) h
end
end GBq
namespace L2
open PySem PySem.Spec PyProof.Rows
/-- how == of two values is told, by the abstract heap -/
abbrev Eqb := V → V → Bool → Hp → Prop
def MonB (D : Eqb) : Prop := ∀ x y b H H', Ext H H' → D x y b H → D x y b H'
def EqBG (X : Cx) (n : Nat) (D : Eqb) : Prop :=
  ∀ (A : Around) (pins : List (Addr × Obj)) (s : Shared) (σ : St) (H : Hp) (x y : V) (b : Bool) (u v : Value), Sub X n A → Inv X pins σ H s → RelV x u → RelV y v → D x y b H →
    wpAny (model X.prog X.w) A (eqBool u v) (fun r s' => r = b ∧ ∃ H', Inv X pins σ H' s' ∧ Ext H H') X.xe s
def PrsB (D : Eqb) (xs ys : List V) (e : Nat → Bool) (H : Hp) : Prop := ∀ (i : Nat) x y, xs[i]? = some x → ys[i]? = some y → D x y (e i) H
section
variable {X : Cx} {n : Nat} {D : Eqb}
/-- xs != ys, of two lists -/
def rNeB (D : Eqb) : R2 := fun x y H Q => ∃ a b xs ys e, x = .ref a ∧ y = .ref b ∧ H a = some (.lst xs) ∧ H b = some (.lst ys) ∧ xs.length = ys.length ∧ PrsB D xs ys e H ∧ ∀ H', Ext H H' → Q (.bl (!GBq.allB e xs.length 0)) H'
theorem op_neB (hD : MonB D) (h : EqBG X n D) (hr : Room (n + 1) X.A) : OpR X (compareOp .NotEq) (rNeB D) := by
  intro pins s σ H x y v u Q I rx ry hq
  obtain ⟨a, b, xs, ys, e, rfl, rfl, ha, hb, hlen, p, q⟩ := hq
  cases rx
  cases ry
  have sb : Sub X (n + 1) X.A := ⟨hr, rfl⟩
  show wpAny (model X.prog X.w) X.A (richCompare .NotEq (.ref a) (.ref b)) (EP X pins σ Q) X.xe s
  refine GBq.rc_neG (N := xs.length) (e := e) sb.room.units0 (fun _ s' => LoopI X pins σ H s') (fun i s' l => ?_) (fun j s' l => ?_) ⟨H, I, Ext.rfl'⟩
  · obtain ⟨H1, I1, e1⟩ := id l
    obtain ⟨z, its, k, r, e2⟩ := I1.hok a _ (e1 _ _ ha)
    obtain ⟨z2, its2, k2, r2, e3⟩ := I1.hok b _ (e1 _ _ hb)
    refine ⟨its.toArray, its2.toArray, k, k2, e2, e3, by rw [List.size_toArray, ← r.length], by rw [List.size_toArray, ← r2.length, ← hlen], fun h1 h2 => ?_⟩
    have g1 : its[i]? = some its.toArray[i] := by
      have h1' : i < its.length := by simpa using h1
      rw [List.getElem?_eq_getElem h1'] <;> simp
    have g2 : its2[i]? = some its2.toArray[i] := by
      have h2' : i < its2.length := by simpa using h2
      rw [List.getElem?_eq_getElem h2'] <;> simp
    have k1 : i < xs.length := by rw [r.length]; simpa using h1
    have k2' : i < ys.length := by rw [r2.length]; simpa using h2
    obtain ⟨u, hu, ru⟩ := r.get (List.getElem?_eq_getElem k1)
    obtain ⟨v, hv, rv⟩ := r2.get (List.getElem?_eq_getElem k2')
    rw [g1] at hu
    rw [g2] at hv
    rw [Option.some.inj hu, Option.some.inj hv]
    refine wpAny_mono (h X.A.in1 pins s' σ H1 _ _ (e i) u v sb.in1 I1 ru rv (hD _ _ _ _ _ e1 (p i _ _ (List.getElem?_eq_getElem k1) (List.getElem?_eq_getElem k2')))) (fun r s2 q => ?_) fun _ _ x => x
    obtain ⟨hr, H2, I2, e4⟩ := q
    have e5 := e1.trans e4
    obtain ⟨_, jts, j1, jr, je⟩ := I2.hok a _ (e5 _ _ ha)
    obtain ⟨_, jts2, j2, jr2, je2⟩ := I2.hok b _ (e5 _ _ hb)
    exact ⟨hr, jts.toArray, jts2.toArray, j1, j2, je, je2, by rw [List.size_toArray, ← jr.length], by rw [List.size_toArray, ← jr2.length, ← hlen], H2, I2, e5⟩
  · obtain ⟨H1, I1, e1⟩ := l
    exact ⟨.bl _, H1, I1, rfl, q H1 e1⟩
/-- an own == promises r -/
def DOwn (C : Addr) (Rl : Addr → Addr → Bool → Hp → Prop) : Eqb := fun x y r H => ∃ a b dx dy fs gs, x = .ref a ∧ y = .ref b ∧ H a = some (.ins C dx fs) ∧ H b = some (.ins C dy gs) ∧ Rl a b r H ∧ (a = b → r = true)
theorem eqB_own {CX : CXT} {C f : Addr} {fd : FuncData} {ps : List Str} {Rl : Addr → Addr → Bool → Hp → Prop} {E : XK} {sp : Sp} (F : FnOk X.prog X.w X.K X.mg X.base CX n f fd ps sp) (hsp : ∀ a b r H, Rl a b r H → sp [.ref a, .ref b] H (fun v H' => v = .bl r ∧ Ext H H') E)
    (hs : PySem.W.findIn X.K (.ref C) "__eq__" = some (some (.ref f))) (hf : PySem.W.isFn X.K (.ref f) = true) (hb : Binds X.K fd ps []) (hx : Passes CX X E) : EqBG X n (DOwn C Rl) := by
  intro A pins s σ H x y r0 u v sb I rx ry d
  obtain ⟨a, b, dx, dy, fs, gs, rfl, rfl, ha, hb', hr, hsame⟩ := d
  cases rx
  cases ry
  by_cases hab : a = b
  · subst hab
    rw [hsame rfl]
    exact SeqAt.EqAt.same (A := A) (s := s) (.ref a) X.prog X.w X.xe _ ⟨rfl, H, I, Ext.rfl'⟩
  refine GQ.eqBool_refG hab ?_
  obtain ⟨mA, J, _⟩ := ins_get I.hok ha
  obtain ⟨mB, J', _⟩ := ins_get I.hok hb'
  obtain ⟨od, J, _⟩ := J.look
  obtain ⟨od', J', _⟩ := J'.look
  obtain ⟨m, hF⟩ := I.fr
  refine PySem.W.cmp_K (op := .Eq) (tb := .ref C) sb.room.units0 hF I.ok.mod.kin J J'.type (by simp [PySem.W.notFirst]) hs hf ?_
  have hq := hsp a b r0 H hr
  have e0 : Env0 X.prog X.w X.K X.mg X.base A X.stack s H := by
    have e := I.env0
    exact ⟨by rw [sb.fr]; exact e.frames, e.mod, e.bs, e.bsz, e.funs, e.frf, e.hok, e.bare⟩
  have hl := F.len _ _ _ _ hq
  have r2 : Vals [V.ref a, V.ref b] [Value.ref a, Value.ref b] := .cons rfl (.cons rfl .nil)
  refine wpAny_call (codeAny_mono (F.run A X.stack s H ⟨[.ref a, .ref b], []⟩ [.ref a, .ref b] [.ref a, .ref b] _ E sb.room e0 (by
    have := hb s [.ref a, .ref b] I.kIn (by simpa using hl)
    simpa using this) r2 hq) fun r s' hq => ?_)
  cases r with
  | error e => exact hx pins σ H s e s' I hq
  | ok fl =>
    cases fl with
    | ret w =>
      obtain ⟨z, H', I', rz, ez, ex⟩ := I.after hq
      subst ez
      cases rz
      exact ⟨r0, rfl, rfl, H', I', ex⟩
    | next => exact False.elim hq
    | brk => exact False.elim hq
    | cont => exact False.elim hq
/-- len(o), o with an own __len__ -/
def rLenO (C : Addr) (sp : Sp) : List V → Hp → VK → Prop := fun xs H Q => ∃ a dx fs, xs = [.ref a] ∧ H a = some (.ins C dx fs) ∧ sp [.ref a] H (fun v H' => ∃ i : Int, v = .int i ∧ 0 ≤ i ∧ i < 2 ^ 63 ∧ Q (.int i) H') E0
theorem call_lenO {CX : CXT} {C f : Addr} {fd : FuncData} {ps : List Str} {sp : Sp} (F : FnOk X.prog X.w X.K X.mg X.base CX n f fd ps sp) (hs : PySem.W.findIn X.K (.ref C) "__len__" = some (some (.ref f))) (hf : PySem.W.isFn X.K (.ref f) = true) (hb : Binds X.K fd ps []) (hx : Passes CX X E0) (hr : Room (n + 1) X.A) :
    CallR X (.builtin "len") (rLenO C sp) := by
  intro pins s σ H xs us Q I r h
  obtain ⟨a, dx, fs, rfl, ha, hsp⟩ := h
  obtain ⟨u, rfl, ru⟩ := vals1 r
  obtain rfl : u = Value.ref a := ru
  obtain ⟨mA, J, _⟩ := ins_get I.hok ha
  obtain ⟨od, J, _⟩ := J.look
  obtain ⟨m, hF⟩ := I.fr
  refine Calls.call_function_entry PySem.kind_len PySem.plain_len PySem.entry_len (PySem.args_len1 _) ?_
  unfold Builtin.«len»
  refine wpAny_bind (m := oneArg "len" _) (wpAny_pure ?_)
  refine wpAny_bind (m := callSpecial? (.ref a) (PySem.Str.ofString "__len__")) (PySem.W.special_fn (name := "__len__") (args := []) (I.ok.mod.kin.keeps hF.keep) J hs (beq_iff_eq.mp hf) ?_)
  have hl := F.len _ _ _ _ hsp
  have e0 : Env0 X.prog X.w X.K X.mg X.base X.A.in1 X.stack s H := by
    have e := I.env0
    exact ⟨e.frames, e.mod, e.bs, e.bsz, e.funs, e.frf, e.hok, e.bare⟩
  have r2 : Vals [V.ref a] [Value.ref a] := .cons rfl .nil
  refine wpAny_call (codeAny_mono (F.run X.A.in1 X.stack s H ⟨[.ref a], []⟩ [.ref a] [.ref a] _ E0 hr.in1 e0 (by
    have := hb s [.ref a] I.kIn (by simpa using hl)
    simpa using this) r2 hsp) fun r s' hq => ?_)
  cases r with
  | error e => exact hx pins σ H s e s' I hq
  | ok fl =>
    cases fl with
    | ret w =>
      obtain ⟨z, H', I', rz, i, ei, h0, h1, q⟩ := I.after hq
      subst ei
      obtain ⟨t, rfl⟩ := rz
      refine wpAny_bind (wpAny_holding (wpAny_pure ?_))
      refine wpAny_bind (wpAny_letGo ?_)
      show wpAny _ _ (if i < 0 then _ else _) _ _ _
      rw [if_neg (by omega)]
      show wpAny _ _ (if i ≥ 2 ^ 63 then _ else _) _ _ _
      rw [if_neg (by omega)]
      exact wpAny_bind (wpAny_mkInt (wpAny_pure ⟨_, rfl, ⟨.int i, H', I'.tok _, ⟨_, rfl⟩, q⟩⟩))
    | next => exact False.elim hq
    | brk => exact False.elim hq
    | cont => exact False.elim hq
end
end L2
end

section
set_option maxRecDepth 100000
set_option maxHeartbeats 2000000
/-! own == and len by names, over data -/
namespace G
open PySem PySem.Spec PyProof.Rows L2
section
variable (P : Program) (w : World) (K : PySem.W.Frag) (mg : Str → Option Value) (base : Heap)
/-- a method that the language calls by itself -/
def CalS (k : Nat) (A : Addr) (m : Str) (sp : Sp) : Prop := ∃ f fd ps, PySem.W.findIn K (.ref A) m = some (some (.ref f)) ∧ PySem.W.isFn K (.ref f) = true ∧ FnOk P w K mg base (L2.CX P w) k f fd ps sp ∧ Binds K fd ps []
end
theorem stp_ext {C : Cl} {P : Option Addr} {W H H' : Hp} (hw : Same W H) (e : Ext H H') : Stp C P noS W H W H' := ⟨.refl _, fun a o z => e a o (hw a o z), fun a o z _ _ => e a o z, fun a o z => ⟨o, e a o z⟩, fun _ _ _ => rfl, fun a z q => by
  obtain ⟨x, hx⟩ := C.pks q
  rw [e a x hx, ← hx]; exact q⟩
theorem ext_stp {C : Cl} {W H W' H' : Hp} (s : Stp C none noS W H W' H') : Ext H H' := fun a o z => s.hh a o z (fun y => nomatch y) (fun y => y)
/-- two objects of the text's fractions -/
def RlF (A : Addr) (a b : Addr) (r : Bool) (H : Hp) : Prop := ∃ p q da db, H a = some (.ins A da (fracF p)) ∧ H b = some (.ins A db (fracF q)) ∧ r = decide (p = q)
def S_eqF : List D → (D → Prop) → Prop := fun l K => ∃ p q : Rat, l = [.frac p, .frac q] ∧ K (.bl (decide (p = q)))
theorem mon_eqF {A : Addr} : MonB (DOwn A (RlF A)) := fun x y r H H' e ⟨a, b, dx, dy, fs, gs, hx, hy, ha, hb, ⟨p, q, da, db, h1, h2, h3⟩, hs⟩ => ⟨a, b, dx, dy, fs, gs, hx, hy, e _ _ ha, e _ _ hb, ⟨p, q, da, db, e _ _ h1, e _ _ h2, h3⟩, hs⟩
theorem sp_eqF {F : Hp → Cl} (fam : Fam F) {A : Addr} (hA : ∀ n, (F n).frac = A) (a b : Addr) (r : Bool) (H : Hp) (h : RlF A a b r H) : SpFam F S_eqF [.ref a, .ref b] H (fun v H' => v = .bl r ∧ Ext H H') E0 := by
  obtain ⟨p, q, da, db, h1, h2, h3⟩ := h
  have wa : (fun x => if x = a ∨ x = b then H x else none) a = H a := if_pos (.inl rfl)
  have wb : (fun x => if x = a ∨ x = b then H x else none) b = H b := if_pos (.inr rfl)
  refine ⟨fun _ => none, none, fun x => if x = a ∨ x = b then H x else none, [.frac p, .frac q], fun d => d = .bl (decide (p = q)), fun x o z => ?_, ⟨fun _ z => (nomatch z), fun x o z => ?_⟩, .cons (.frac (dx := da) ?_) (.one (.frac (dx := db) ?_)), ⟨p, q, rfl, rfl⟩, fun d v W' H' hd s rv => ?_⟩
  · by_cases hx : x = a ∨ x = b
    · simpa [hx] using z
    · simp [hx] at z
  · rw [fam.m] at z; cases z
  · rw [hA]; exact wa.trans h1
  · rw [hA]; exact wb.trans h2
  · subst hd
    cases rv
    exact ⟨by rw [h3], ext_stp s⟩
theorem CalS.ne {X : Cx} {F : Hp → Cl} (fam : Fam F) {A : Addr} (hA : ∀ n, (F n).frac = A) {k j : Nat} (c : CalS X.prog X.w X.K X.mg X.base k A "__eq__" (SpFam F S_eqF)) (hr : Room j X.A) (hk : k + 1 ≤ j) : OpR X (compareOp .NotEq) (rNeB (DOwn A (RlF A))) := by
  obtain ⟨f, fd, ps, h1, h2, F', b⟩ := c
  exact op_neB mon_eqF (eqB_own (E := E0) F' (sp_eqF fam hA) h1 h2 b passL) (hr.mono hk)
theorem CalS.len {X : Cx} {A : Addr} {sp : Sp} {k j : Nat} (c : CalS X.prog X.w X.K X.mg X.base k A "__len__" sp) (hr : Room j X.A) (hk : k + 1 ≤ j) : CallR X (.builtin "len") (rLenO A sp) := by
  obtain ⟨f, fd, ps, h1, h2, F', b⟩ := c
  exact call_lenO F' h1 h2 b passL (hr.mono hk)
section
variable {C : Cl} {B : Bs} {Γ : List Sl} {K : D → Prop}
theorem all_eqF : ∀ (ps qs : List Rat), ps.length = qs.length → (((List.range ps.length).all fun i => decide (ps.getD i 0 = qs.getD i 0)) = decide (ps = qs)) := fun ps qs hl => by
  rw [Bool.eq_iff_iff, List.all_eq_true, decide_eq_true_iff]
  constructor
  · intro h
    apply List.ext_getElem hl
    intro i h1 h2
    have := h i (List.mem_range.mpr h1)
    simpa [List.getD_eq_getElem?_getD, h1, h2] using this
  · intro h i hi
    subst h; simp
theorem rk_neL {A : Addr} (hA : C.frac = A) {ps qs : List Rat} (hl : ps.length = qs.length) (k : K (.bl (!decide (ps = qs)))) : RK C B (rNeB (DOwn A (RlF A))) (.lst (ps.map .frac)) (.lst (qs.map .frac)) K := fun W H hw pl v1 v2 r1 r2 Q q => by
  cases r1 with
  | lst ha r1 =>
    cases r2 with
    | lst hb r2 =>
      rename_i a vs b us
      have l1 : vs.length = ps.length := by rw [r1.length, List.length_map]
      have l2 : us.length = qs.length := by rw [r2.length, List.length_map]
      refine ⟨a, b, vs, us, fun i => decide (ps.getD i 0 = qs.getD i 0), rfl, rfl, hw _ _ ha, hw _ _ hb, by omega, fun i x y hx hy => ?_, fun H' e => ?_⟩
      · obtain ⟨d, hd, rd⟩ := r1.getV hx
        obtain ⟨d', hd', rd'⟩ := r2.getV hy
        rw [List.getElem?_map] at hd hd'
        cases hp : ps[i]? with
        | none => rw [hp] at hd; cases hd
        | some p =>
          cases hq : qs[i]? with
          | none => rw [hq] at hd'; cases hd'
          | some q' =>
            rw [hp] at hd; rw [hq] at hd'
            cases hd; cases hd'
            obtain ⟨a1, d1, rfl, h1⟩ := rep_frac rd
            obtain ⟨a2, d2, rfl, h2⟩ := rep_frac rd'
            rw [hA] at h1 h2
            refine ⟨a1, a2, d1, d2, _, _, rfl, rfl, hw _ _ h1, hw _ _ h2, ⟨p, q', d1, d2, hw _ _ h1, hw _ _ h2, by simp [List.getD_eq_getElem?_getD, hp, hq]⟩, fun z => ?_⟩
            subst z
            rw [h1] at h2
            injection h2 with h2
            injection h2 with _ _ h2
            have e1 : p.num = q'.num := by
              have := congrArg List.head? h2
              simp [fracF] at this
              exact this
            have e2 : ((p.den : Nat) : Int) = ((q'.den : Nat) : Int) := by
              have := congrArg (fun l => l[1]?) h2
              simp [fracF] at this
              exact_mod_cast this
            have : p = q' := Rat.ext e1 (by exact_mod_cast e2)
            simp [List.getD_eq_getElem?_getD, hp, hq, this]
      · have ee : GBq.allB (fun i => decide (ps.getD i 0 = qs.getD i 0)) vs.length 0 = decide (ps = qs) := by
          unfold GBq.allB
          rw [List.drop_zero, l1]
          exact all_eqF ps qs hl
        rw [ee]
        exact q _ _ W H' (stp_ext hw e) (.bl _) k
theorem ck_lenO {F : Hp → Cl} {n : Hp} {A : Addr} {c : Nat} (hA : (F n).cls c = A) {S : List D → (D → Prop) → Prop} {fl : List (Str × D)} (h : S [.obj c fl] fun d => ∃ i : Int, d = .int i ∧ 0 ≤ i ∧ i < 2 ^ 63 ∧ K (.int i)) : CK (F n) B (rLenO A (SpFam F S)) [.obj c fl] K := fun W H hw pl vs r Q q => by
  cases r with
  | cons r rr =>
    cases rr
    have r0 := r
    obtain ⟨a, dx, fs, rfl, ha, hk, hr⟩ := rep_obj r
    rw [hA] at ha
    exact ⟨a, dx, fs, rfl, hw _ _ ha, n, B.P, W, _, _, hw, pl, .one r0, h, fun d v W' H' ⟨i, hd, h0, h1, k⟩ s rv => by
      subst hd; cases rv
      exact ⟨i, rfl, h0, h1, q _ _ W' H' s (.int i) k⟩⟩
end
end G
end

section
set_option maxRecDepth 100000
set_option maxHeartbeats 2000000
/-! the head: a written part without lists, facts of one's own -/
namespace HG
open PySem PySem.Spec PyProof.Rows L2
def isL (o : Obj) : Bool := match o.cls with
  | .type c => c == "list"
  | _ => false
def frN (g : Addr → Option Obj) (as : List Addr) : PySem.W.Frag := as.filterMap fun a => match g a with
  | some o => (match isL o with
    | true => none
    | false => some (a, o))
  | none => none
theorem look_mem {a : Addr} {o : Obj} : ∀ {l : List (Addr × Obj)}, l.lookup a = some o → (a, o) ∈ l
  | [], e => nomatch (show (none : Option Obj) = some o from e)
  | (b, u) :: r, e => by
    have e2 : (match a == b with | true => some u | false => r.lookup a) = some o := e
    cases q : (a == b) with
    | true =>
      rw [q] at e2
      have e3 : u = o := Option.some.inj e2
      rw [beq_iff_eq.mp q, e3]
      exact List.mem_cons_self
    | false =>
      rw [q] at e2
      exact List.mem_cons_of_mem _ (look_mem e2)
theorem frN_at {g : Addr → Option Obj} {as : List Addr} {a : Addr} {o : Obj} (h : (frN g as).lookup a = some o) : g a = some o ∧ isL o = false := by
  have m := look_mem h
  unfold frN at m
  obtain ⟨b, _, hb⟩ := List.mem_filterMap.mp m
  cases q : g b with
  | none => rw [q] at hb; cases hb
  | some u =>
    rw [q] at hb
    cases z : isL u with
    | true => simp only [z] at hb; cases hb
    | false =>
      simp only [z] at hb
      injection hb with hb
      injection hb with h1 h2
      subst h1; subst h2
      exact ⟨q, z⟩
abbrev AlX : Type := Bool × He.AlD
def obsX (chk : PySem.W.Frag → List Bool) (fa : List He.Fa) (fn : List He.DefD) (K : PySem.W.Frag) : AlX := ((chk K).all id, He.obsD fa fn K)
def SaysX (chk : PySem.W.Frag → List Bool) (fa : List He.Fa) (fn : List He.DefD) (K : PySem.W.Frag) : Prop := obsX chk fa fn K = (true, He.valD fn)
def obsXG (n : Nat) (chk : PySem.W.Frag → List Bool) (fa : List He.Fa) (fn : List He.DefD) (g : Addr → Option Obj) : AlX := obsX chk fa fn (frN g (He.asD g n))
def hookX (n : Nat) (chk : PySem.W.Frag → List Bool) (fa : List He.Fa) (fn : List He.DefD) : PySem.W.Hook where
  α := AlX
  obs := fun s => obsXG n chk fa fn s.heap.get?
  val := fun _ => (true, He.valD fn)
  says := fun _ h => ∃ K : PySem.W.Frag, K.In h ∧ (∀ a o, K.lookup a = some o → isL o = false) ∧ SaysX chk fa fn K
  of := fun _ _ e => ⟨_, fun _ _ z => (frN_at z).1, fun _ _ z => (frN_at z).2, e⟩
  keeps := fun _ _ _ ⟨K, hK, c⟩ k => ⟨K, PySem.W.Frag.In.keeps hK k, c⟩
theorem obsXG_eq {n : Nat} {chk : PySem.W.Frag → List Bool} {fa : List He.Fa} {fn : List He.DefD} {g : Addr → Option Obj} {s : Shared} (h : ∀ a, g a = s.heap.get? a) : obsXG n chk fa fn g = (hookX n chk fa fn).obs s := by
  have e : g = s.heap.get? := funext h
  rw [e] <;> rfl
section
variable {chk : PySem.W.Frag → List Bool} {fa : List He.Fa} {fn : List He.DefD} {K : PySem.W.Frag}
theorem SaysX.d (c : SaysX chk fa fn K) : He.SaysD fa fn K := congrArg (fun z : AlX => z.2) c
theorem SaysX.fact (c : SaysX chk fa fn K) (i : Nat) {f : He.Fa} (h : fa[i]? = some f) : f.ok K = true := c.d.fact i h
theorem SaysX.def_ (c : SaysX chk fa fn K) (i : Nat) {d : He.DefD} (h : fn[i]? = some d) : ∃ fd, FunD K d.name d.qual d.params d.body d.scope (d.dvs K) (d.kws K) (He.fAd K d.at_) fd := c.d.def_ i h
theorem SaysX.bit (c : SaysX chk fa fn K) (i : Nat) {b : Bool} (h : (chk K)[i]? = some b) : b = true := by
  have c1 : (chk K).all id = true := congrArg (fun z : AlX => z.1) c
  exact List.all_eq_true.mp c1 b (List.mem_of_getElem? h)
end
theorem walk_ofX {l : PySem.W.OpenLaw} {n k : Nat} {q : Program} {loose : List Str} {XP : (Str → Option Value) → Heap → Prop} {YP : World → Heap → Prop} {d : DefRec} {CX : World → CXT} {x : Str}
    (hn : l.most = some n) (hn2 : n ≤ sizeLine) (hdf : d.params.defaults = []) (hr : Room k callerA)
    (F : ∀ (w : World) (mg : Str → Option Value) (fa : Addr) (h : Heap), YP w h → h.Ns mainGlobals mg → mg d.name = some (.ref fa) →
      ∃ (K : PySem.W.Frag) (fd : FuncData) (sp : Sp), K.In h ∧ (∀ (s : Shared) (u : Value), BindsTo s fd ⟨[u], []⟩ [(x, u)]) ∧
        (∀ (H : Hp) (a : Addr) (ns : List Int), ns.length ≤ n → Only H → SqL K H a (ns.map V.int) → sp [.ref a] H (fun v _ => v = .bl true) fun _ _ _ => False) ∧
        ∀ base : Heap, K.In base → base.Ns mainGlobals mg → FnOk l.prog w K mg base (CX w) k fa fd [x] sp)
    (hCX : ∀ (w : World) (H : Hp) (s : Shared) (e : Value) (s' : Shared), CX w [] H s (fun _ _ _ => False) e s' → False) :
    PySem.W.WalkO q loose XP YP l.row.toRowW d [] (fun f vs => PySem.call f vs) := by
  refine Att.attach_call hn hdf fun w s₀ s₁ mg mb fa o pm cd doc a vs ns G Y ho hd hcd hmg hobj hints hlen hg => ?_
  obtain ⟨K, fd, sp, KX, hb, hsp, hF⟩ := F w mg fa _ Y G.T.g hmg
  exact law_call KX G.T.g G.T.b G.T.builtins G.T.nolimit hg hobj hints (Nat.le_trans hlen hn2) hr hF hb (fun H hO hS => hsp H a ns hlen hO hS) fun H e s' => hCX w H s₁ e s'
theorem cx_none {P : Program} : ∀ (w : World) (H : Hp) (s : Shared) (e : Value) (s' : Shared), L2.CX P w [] H s (fun _ _ _ => False) e s' → False := fun _ _ _ _ _ ⟨_, _, _, _, _, _, _, _, _, _, _, _, h⟩ => h
theorem script_frz {K : PySem.W.Frag} {H : Hp} {a : Addr} {xs : List V} (hL : ∀ a o, K.lookup a = some o → isL o = false) (hO : Only H) (hS : SqL K H a xs) : ∃ o, H a = some (.frz o (.lst xs)) := by
  rcases hS with (z | ⟨o, z⟩) | ⟨o, its, n, h1, h2, _⟩
  · rcases hO a with y | ⟨o, ys, y⟩
    · rw [y] at z; cases z
    · rw [y] at z; cases z
  · exact ⟨o, z⟩
  · have := hL a o h1
    unfold isL at this
    rw [h2] at this
    cases this
end HG
end

section
set_option maxRecDepth 100000
set_option maxHeartbeats 2000000
/-! the data layer: errors that leave a def, a try, the error that is handled -/
namespace G
open PySem PySem.Spec PyProof.Rows L2

/-- an error: its class by name, its fields -/
structure EOk (K : PySem.W.Frag) (C : Cl) (P : Option Addr) (W : Hp) (cls : Value) (d : Option Addr) (x : Str) (fl : List (Str × D)) : Prop where
  c : cls = .ref (He.ga K x)
  f : ∃ dd fs, d = some dd ∧ W dd = some (.xd fs) ∧ fs.map (·.1) = fl.map (·.1) ∧ RepL C P W (fs.map (·.2)) (fl.map (·.2))
theorem EOk.mono {K : PySem.W.Frag} {C : Cl} {P : Option Addr} {W W' : Hp} {cls : Value} {d : Option Addr} {x : Str} {fl : List (Str × D)} (h : EOk K C P W cls d x fl) (s : Same W W') : EOk K C P W' cls d x fl := by
  obtain ⟨c, dd, fs, h1, h2, h3, h4⟩ := h
  exact ⟨c, dd, fs, h1, s _ _ h2, h3, h4.mono s⟩
theorem EnvOk.blank {C : Cl} {B : Bs} {W H : Hp} {σ : L2.St} {Γ : List Sl} (e : EnvOk C B W H σ Γ) : EnvOk C B W H [] [] :=
  ⟨e.stp, e.kp, e.pl, e.p0, ⟨Nat.le_refl _, fun i s h => by simp at h⟩, fun _ => 0, fun i j s t h => by simp at h, fun i s h => by simp at h, fun i s h => by simp at h, fun i j cs ds h => by simp at h, fun i cs h => by simp at h, fun i cs p h => by simp at h, fun i cs p j s h => by simp at h⟩
theorem EnvOk.nos {C : Cl} {B : Bs} {W H : Hp} (e : EnvOk C B W H [] []) (σ : L2.St) : EnvOk C B W H σ (List.replicate σ.length .no) := by
  have key : ∀ (i : Nat) (s : Sl), (List.replicate σ.length Sl.no)[i]? = some s → s = .no := fun i s h => by
    rw [List.getElem?_replicate] at h
    split at h
    · cases h; rfl
    · cases h
  refine ⟨e.stp, e.kp, e.pl, e.p0, ⟨by simp, fun i s h => ?_⟩, fun _ => 0, fun i j s t h _ z => ?_, fun i s h z => ?_, fun i s h => ?_, fun i j cs ds h => ?_, fun i cs h => ?_, fun i cs p h => ?_, fun i cs p j s h => ?_⟩
  · have := (List.getElem?_eq_some_iff.mp h).1
    rw [key i s h]
    simp at this
    exact ⟨fun z => by omega, fun z => by cases z⟩
  · rw [key i s h] at z; cases z
  · rw [key i s h] at z; cases z
  · rw [key i s h]; trivial
  · have := key i _ h; cases this
  · have := key i _ h; cases this
  · have := key i _ h; cases this
  · have := key i _ h; cases this

/-- what is wished of an error that leaves: KX says which ones do -/
def XO (K : PySem.W.Frag) (C : Cl) (B : Bs) (E : XK) (KX : Str → List (Str × D) → Prop) : Prop := ∀ W H x fl cls d, EnvOk C B W H [] [] → EOk K C B.P W cls d x fl → KX x fl → E cls d H
theorem XO.keep {K : PySem.W.Frag} {C : Cl} {B : Bs} {E : XK} {KX : Str → List (Str × D) → Prop} (o : XO K C B E KX) {W1 : Hp} (h : Same B.kp W1) : XO K C (B.keep W1) E KX := fun W H x fl cls d e eo k => o W H x fl cls d (e.unkeep h) eo k
theorem XO.imp {K : PySem.W.Frag} {C : Cl} {B : Bs} {E : XK} {KX KY : Str → List (Str × D) → Prop} (o : XO K C B E KX) (h : ∀ x fl, KY x fl → KX x fl) : XO K C B E KY := fun W H x fl cls d e eo k => o W H x fl cls d e eo (h x fl k)

/-- a def that may raise -/
def SpFamX (K : PySem.W.Frag) (F : Hp → Cl) (S : List D → (D → Prop) → (Str → List (Str × D) → Prop) → Prop) : Sp := fun vs H Q E => ∃ n P W l Kd KX, Same W H ∧ PlOk (F n) P W H ∧ RepL (F n) P W vs l ∧ S l Kd KX ∧
  (∀ d v W' H', Kd d → Stp (F n) P noS W H W' H' → Rep (F n) P W' v d → Q v H') ∧ ∀ x fl cls d W' H', KX x fl → Stp (F n) P noS W H W' H' → PlOk (F n) P W' H' → EOk K (F n) P W' cls d x fl → E cls d H'
/-- an __init__ that may raise -/
def SpFamIX (K : PySem.W.Frag) (F : Hp → Cl) (A : Addr) (S : List D → (List (Str × D) → Prop) → (Str → List (Str × D) → Prop) → Prop) : Sp := fun vs H Q E => ∃ n P W p dx us l Kd KX, vs = .ref p :: us ∧ H p = some (.ins A dx []) ∧ W p = none ∧ P ≠ some p ∧ (F n).m p = none ∧ Same W H ∧ PlOk (F n) P W H ∧ RepL (F n) P W us l ∧ S l Kd KX ∧
  (∀ fl fs dx' W' H', Kd fl → Stp (F n) P (fun a => a = p) W H W' H' → H' p = some (.ins A dx' fs) → W' p = none → fs.map (·.1) = fl.map (·.1) → RepL (F n) P W' (fs.map (·.2)) (fl.map (·.2)) → Q .non H') ∧
  ∀ x fl cls d W' H', KX x fl → Stp (F n) P (fun a => a = p) W H W' H' → PlOk (F n) P W' H' → EOk K (F n) P W' cls d x fl → E cls d H'

section
variable {K : PySem.W.Frag} {F : Hp → Cl} {n : Hp} {B : Bs} {Γ : List Sl} {ta : TA} {Kd : D → Prop} {E : XK} {KX : Str → List (Str × D) → Prop}
theorem ek_callX {S : List D → (D → Prop) → (Str → List (Str × D) → Prop) → Prop} (o : XO K (F n) B E KX) (h : AK (F n) B Γ ta fun l => S l Kd KX) : EK (F n) B Γ (tCall (SpFamX K F S) [] E ta) Kd := fun W H σ e Q q =>
  h W H σ e _ fun l vs W1 H1 s1 r1 h1 => ⟨n, B.P, W1, l, Kd, KX, s1.wh, e.pl.step s1, by rw [List.append_nil]; exact r1, h1, fun d v W3 H3 k s3 r3 => q d v W3 H3 (s1.trans s3) r3 k,
    fun x fl cls d W3 H3 k s3 _ eo => o W3 H3 x fl cls d (e.step (s1.trans s3)).blank eo k⟩
/-- the making of an object that may be refused -/
theorem make_runX {A : Addr} {S : List D → (List (Str × D) → Prop) → (Str → List (Str × D) → Prop) → Prop} {W H W1 H1 : Hp} {vs : List V} {l : List D} (s1 : Stp (F n) B.P noS W H W1 H1) (pl : PlOk (F n) B.P W1 H1) (r1 : RepL (F n) B.P W1 vs l)
    (R : List (Str × D) → D → Prop) (hR : ∀ (W : Hp) (x dx : Addr) (fs : List (Str × V)) (fl : List (Str × D)) (d : D), R fl d → W x = some (.ins A dx fs) → fs.map (·.1) = fl.map (·.1) → RepL (F n) B.P W (fs.map (·.2)) (fl.map (·.2)) → Rep (F n) B.P W (.ref x) d)
    (h1 : S l (fun fl => ∃ d, R fl d ∧ Kd d) KX) (Q : VK) (q : ∀ d v W' H', Stp (F n) B.P noS W H W' H' → Rep (F n) B.P W' v d → Kd d → Q v H')
    (qx : ∀ x fl cls d W' H', KX x fl → Stp (F n) B.P noS W H W' H' → EOk K (F n) B.P W' cls d x fl → E cls d H') (x dx : Addr) (hx : H1 x = none) (hdx : H1 dx = none) (hne : x ≠ dx) :
    SpFamIX K F A S (.ref x :: vs) (upd (upd H1 dx (.own x)) x (.ins A dx [])) (fun v H' => v = .non ∧ Q (.ref x) H') E := by
  have hP : B.P ≠ some x := fun z => pl.ne x z hx
  have hP2 : B.P ≠ some dx := fun z => pl.ne dx z hdx
  have nW : ∀ a, H1 a = none → W1 a = none := fun a ha => by
    cases z : W1 a with
    | none => rfl
    | some o => rw [s1.wh _ _ z] at ha; cases ha
  have up : ∀ a o, H1 a = some o → (upd (upd H1 dx (.own x)) x (.ins A dx [])) a = some o := fun a o ha => by
    rw [upd_ne (ne_of_none ha hx), upd_ne (ne_of_none ha hdx)]; exact ha
  have thru : ∀ {W' H' : Hp}, Stp (F n) B.P (fun a => a = x) W1 (upd (upd H1 dx (.own x)) x (.ins A dx [])) W' H' → Stp (F n) B.P noS W H W' H' := fun {W' H'} st => by
    refine ⟨s1.ww.trans st.ww, st.wh, fun a o z p _ => ?_, fun a o z => ?_, fun a o z => ?_, fun a z w => ?_⟩
    · have z1 := s1.hh a o z p (fun y => nomatch y)
      exact st.hh a o (up a o z1) p fun y => by cases y; rw [hx] at z1; cases z1
    · obtain ⟨o1, z1⟩ := s1.dom a o z
      exact st.dom a o1 (up a o1 z1)
    · obtain ⟨o1, z1⟩ := s1.dom a o z
      exact (st.old a o1 (up a o1 z1)).trans (s1.old a o z)
    · have w1 := s1.pool a z w
      obtain ⟨o1, z1⟩ := (F n).pks w1
      refine st.pool a z ?_
      rw [up a o1 z1, ← z1]
      exact w1
  refine ⟨n, B.P, W1, x, dx, vs, l, _, KX, rfl, upd_same, nW x hx, hP, ?_, fun a o z => up a o (s1.wh a o z), ⟨fun a z => ?_, fun a o z => ?_⟩, r1, h1, fun fl fs dx' W' H' ⟨d, hRd, kd⟩ st g1 g2 g3 g4 => ⟨rfl, ?_⟩, fun y fl cls d W' H' k st _ eo => qx y fl cls d W' H' k (thru st) eo⟩
  · cases z : (F n).m x with
    | none => rfl
    | some o => rw [(pl.rg x o z).1] at hx; cases hx
  · have hax : a ≠ x := fun y => by subst y; exact hP z
    have had : a ≠ dx := fun y => by subst y; exact hP2 z
    rw [upd_ne hax, upd_ne had]
    exact pl.po a z
  · obtain ⟨z1, z2, z3⟩ := pl.rg a o z
    exact ⟨up a o z1, z2, z3⟩
  · have ww : Same W' (upd W' x (.ins A dx' fs)) := fun a o z => by
      rw [upd_ne (fun y => by subst y; rw [g2] at z; cases z)]; exact z
    have tt := thru st
    have hHx : H x = none := s1.free hx
    refine q d (.ref x) (upd W' x (.ins A dx' fs)) H' ⟨tt.ww.trans ww, fun a o z => ?_, tt.hh, tt.dom, fun a o z => ?_, fun a z w => ?_⟩ (hR _ x dx' fs fl d hRd upd_same g3 (g4.mono ww)) kd
    · by_cases ha : a = x
      · subst ha; rw [upd_same] at z; cases z; exact g1
      · rw [upd_ne ha] at z; exact st.wh a o z
    · rw [upd_ne (ne_of_none z hHx)]; exact tt.old a o z
    · exact (F n).pkm ww (tt.pool a z w)
theorem ek_mkOX {A : Addr} {c : Nat} (hA : (F n).cls c = A) {S : List D → (List (Str × D) → Prop) → (Str → List (Str × D) → Prop) → Prop} (o : XO K (F n) B E KX) (h : AK (F n) B Γ ta fun l => S l (fun fl => Kd (.obj c fl)) KX) : EK (F n) B Γ (tMake A (SpFamIX K F A S) [] E ta) Kd := fun W H σ e Q q =>
  h W H σ e _ fun l vs W1 H1 s1 r1 h1 x dx hx hdx hne => by
    rw [List.append_nil]
    refine make_runX (Kd := Kd) (KX := KX) s1 (e.pl.step s1) r1 (fun fl d => d = .obj c fl) (fun W x dx fs fl d e h1 h2 h3 => obj_rep hA W x dx fs fl d e h1 h2 h3) ?_ Q q (fun y fl cls d W' H' k st eo => o W' H' y fl cls d (e.step st).blank eo k) x dx hx hdx (fun z => hne z.symm)
    have : (fun fl => ∃ d, d = D.obj c fl ∧ Kd d) = fun fl => Kd (.obj c fl) := by
      funext fl; exact propext ⟨fun ⟨d, e, k⟩ => e ▸ k, fun k => ⟨_, rfl, k⟩⟩
    rw [this]; exact h1
/-- .. with lists that may change later -/
theorem ek_mkOXM (fam : Fam F) {j : Nat} {cs : List (Addr × List D)} (hj : Γ[j]? = some (.reg cs)) {A : Addr} {c : Nat} (hA : ∀ n, (F n).cls c = A) {S : List D → (List (Str × D) → Prop) → (Str → List (Str × D) → Prop) → Prop} (o : XO K (F n) B E KX)
    (h : AK (F n) B Γ ta fun l => ∃ l', ResL cs l l' ∧ S l' (fun fl => NoM (.obj c fl) ∧ Kd (.obj c fl)) fun x fl => (∀ d ∈ fl.map (·.2), NoM d) ∧ KX x fl) : EK (F n) B Γ (tMake A (SpFamIX K F A S) [] E ta) Kd := fun W H σ e Q q =>
  h W H σ e _ fun l vs W1 H1 s1 r1 ⟨l', hr, h1⟩ x dx hx hdx hne => by
    have e1 := e.step s1
    obtain ⟨p1, p2, p3⟩ := e1.withC fam hj
    have r2 := hr.rep fam p2 p3 r1
    rw [List.append_nil]
    refine make_runX (n := withC n H1 cs) (Kd := fun d => NoM d ∧ Kd d) (KX := fun x fl => (∀ d ∈ fl.map (·.2), NoM d) ∧ KX x fl) (W := W) (H := H) (fam.stp s1) p1 r2 (fun fl d => d = .obj c fl) (fun W x dx fs fl d e h1 h2 h3 => obj_rep (hA _) W x dx fs fl d e h1 h2 h3) ?_ Q (fun d v W' H' s r k => q d v W' H' (fam.stp s) (r.noM (fam.frac _ _) (fam.cls _ _) k.1) k.2)
      (fun y fl cls d W' H' k st eo => ?_) x dx hx hdx (fun z => hne z.symm)
    · have : (fun fl => ∃ d, d = D.obj c fl ∧ NoM d ∧ Kd d) = fun fl => NoM (.obj c fl) ∧ Kd (.obj c fl) := by
        funext fl; exact propext ⟨fun ⟨d, e, k⟩ => e ▸ k, fun k => ⟨_, rfl, k⟩⟩
      rw [this]; exact h1
    · obtain ⟨c0, dd, fs, z1, z2, z3, z4⟩ := eo
      exact o W' H' y fl cls d (e.step (fam.stp st)).blank ⟨c0, dd, fs, z1, z2, z3, z4.noM (fam.frac _ _) (fam.cls _ _) k.1⟩ k.2
end

/-! ### raise -/
def tRaise (t : L2.St → Hp → XK → Prop) (E : XK) : TS := fun _ σ H => t σ H fun cls d H' => E cls d H'
theorem ps_raiseE {X : Cx} {E : XK} {e : Expr} {t : L2.St → Hp → XK → Prop} {pos : Pos} (hc : X.calm = true) (tk : Takes X (fun cls d _ H => E cls d H)) (he : PMk X e t) : PS X (.Raise (some e) none pos) (tRaise t E) := ps_raise hc tk he
/-- an error's own __init__ with one field, with two -/
def spE1 (C : Addr) (f : Str) : Sp := fun vs H Q _ => ∃ a y, vs = [.ref a, y] ∧ H a = some (exo a C none) ∧ ∀ dx, H dx = none → dx ≠ a → Q .non (upd (upd H dx (exd dx [(f, y)])) a (exo a C (some dx)))
def spE2 (C : Addr) (f g : Str) : Sp := fun vs H Q _ => ∃ a y z, vs = [.ref a, y, z] ∧ H a = some (exo a C none) ∧ ∀ dx, H dx = none → dx ≠ a → Q .non (upd (upd (upd H dx (exd dx [(f, y)])) a (exo a C (some dx))) dx (exd dx [(g, z), (f, y)]))
section
variable {K : PySem.W.Frag} {C : Cl} {B : Bs} {Γ : List Sl} {ta : TA} {E : XK} {KX : Str → List (Str × D) → Prop} {nx bk ct : List Sl → Prop} {rt : List Sl → D → Prop} {x f g : Str}
theorem raise_end {W H W1 H1 H2 : Hp} {σ : L2.St} {a dx : Addr} {fs : List (Str × V)} {fl : List (Str × D)} (e : EnvOk C B W H σ Γ) (o : XO K C B E KX) (s1 : Stp C B.P noS W H W1 H1) (ha : H1 a = none) (hdx : H1 dx = none) (hne : dx ≠ a)
    (h2 : ∀ b, b ≠ a → b ≠ dx → H2 b = H1 b) (hk : fs.map (·.1) = fl.map (·.1)) (r : RepL C B.P W1 (fs.map (·.2)) (fl.map (·.2))) (k : KX x fl) : E (.ref (He.ga K x)) (some dx) (upd (del H2 a) dx (.xd fs)) := by
  have eh : upd (del H2 a) dx (.xd fs) = upd H1 dx (.xd fs) := by
    funext b
    by_cases h1 : b = dx
    · subst h1; rw [upd_same, upd_same]
    · rw [upd_ne h1, upd_ne h1]
      by_cases h3 : b = a
      · subst h3; rw [del_same, ha]
      · rw [del_ne h3, h2 b h3 h1]
  rw [eh]
  have s2 := Stp.new (C := C) (P := B.P) (S := noS) (o := .xd fs) s1.wh hdx (e.pl.step s1).ne
  exact o _ _ x fl _ _ (e.step (s1.trans s2)).blank ⟨rfl, dx, fs, rfl, upd_same, hk, r.mono s2.ww⟩ k
theorem sx_raise1 (o : XO K C B E KX) (h : AK C B Γ ta fun l => ∃ d, l = [d] ∧ KX x [(f, d)]) : SX C B Γ (tRaise (tMkO (He.ga K x) (spE1 (He.ga K x) f) [] ta) E) nx rt bk ct := fun W H σ e D' s =>
  h W H σ e _ fun l vs W1 H1 s1 r1 ⟨d, el, k⟩ => by
    subst el
    cases r1 with
    | @cons v _ _ _ r1 rr =>
      cases rr
      refine ⟨by simp, fun a ha => ⟨a, v, by simp, upd_same, fun dx hdx hne => ?_⟩⟩
      have hdx1 : H1 dx = none := by rw [upd_ne hne] at hdx; exact hdx
      refine ⟨rfl, dx, [(f, v)], upd_same, by rw [upd_ne hne, upd_same], hdx1, ?_⟩
      exact raise_end (fl := [(f, d)]) e o s1 ha hdx1 hne (fun b h1 h2 => by rw [upd_ne h1, upd_ne h2, upd_ne h1]) rfl (.one r1) k
theorem sx_raise2 (o : XO K C B E KX) (h : AK C B Γ ta fun l => ∃ d d', l = [d, d'] ∧ KX x [(g, d'), (f, d)]) : SX C B Γ (tRaise (tMkO (He.ga K x) (spE2 (He.ga K x) f g) [] ta) E) nx rt bk ct := fun W H σ e D' s =>
  h W H σ e _ fun l vs W1 H1 s1 r1 ⟨d, d', el, k⟩ => by
    subst el
    cases r1 with
    | @cons v _ _ _ r1 rr =>
      cases rr with
      | @cons v' _ _ _ r2 rr =>
        cases rr
        refine ⟨by simp, fun a ha => ⟨a, v, v', by simp, upd_same, fun dx hdx hne => ?_⟩⟩
        have hdx1 : H1 dx = none := by rw [upd_ne hne] at hdx; exact hdx
        refine ⟨rfl, dx, [(g, v'), (f, v)], by rw [upd_ne (Ne.symm hne), upd_same], upd_same, hdx1, ?_⟩
        exact raise_end (fl := [(g, d'), (f, d)]) e o s1 ha hdx1 hne (fun b h1 h2 => by rw [upd_ne h2, upd_ne h1, upd_ne h2, upd_ne h1]) rfl (.cons r2 (.one r1)) k
end

/-! ### defs that may raise -/
section
variable {P : Program} {w : World} {K : PySem.W.Frag} {mg : Str → Option Value} {base : Heap} {k : Nat} {x : Str} {st : Stmt} {N ps : List Str} {F : Hp → Cl}
theorem cal_mkX {S : List D → (D → Prop) → (Str → List (Str × D) → Prop) → Prop} (g : mg x = some (.ref (He.ga K x))) (Fd : ∃ fd, FnP K x st fd) (sc : FnScope N ps (defScope st))
    (b : ∀ (kV doc pm : Value) (an : Option Addr) (cdv ct : Value) (us : List Value), us.length = ps.length → bindArgs (PySem.W.fnOf x x (defArgs st) (defBody st) (defScope st) .none kV doc pm an cdv ct) ⟨us, []⟩ = pure (ps.zip us))
    (len : ∀ l K KX, S l K KX → l.length = ps.length)
    (hb : ∀ (f : Addr) (cdv : Value) (A : Around) (outer : List Env) (s : Shared) (H : Hp) (E : XK), Room k (A.deeper (envOfC x (defScope st) s.heap.objs.size f cdv)) →
      ∃ t, PSs (cxOf (L2.CX P w) P w K mg base N x (defScope st) f cdv A outer s H E) (defBody st) t ∧ ∀ n B l Kd KX, S l Kd KX → XO K (F n) B E KX → SX (F n) B (G0 N l) t (fun _ => Kd .non) (fun _ => Kd) (fun _ => False) (fun _ => False)) : Cal P w K mg base (k + 1) x ps (SpFamX K F S) := by
  obtain ⟨fd, Fd⟩ := Fd
  refine ⟨g, Fd.kp, fd, Fd.ok sc (fun vs H Q E ⟨n, P, W, l, Kd, KX, _, _, r, hS, _⟩ => r.length.trans (len l Kd KX hS)) fun cdv A outer s H vs Q E hr ⟨n, P, W, l, Kd, KX, hw, pl, r, hS, k1, k2⟩ => ?_, Fd.bindsN b⟩
  obtain ⟨t, h1, h2⟩ := hb _ cdv A outer s H E hr
  refine ⟨t, h1, h2 n ⟨P, noS, W, H, W⟩ l Kd KX hS (fun W' H' x fl cls d e eo kx => k2 x fl cls d W' H' kx e.stp e.pl eo) W H _ (env_start hw pl r) _ ⟨fun Γ W' H' σ' e z => k1 .non .non W' H' z e.stp .non, fun Γ d v W' H' σ' e r' z => k1 d v W' H' z e.stp r', fun _ _ _ _ _ z => z.elim, fun _ _ _ _ _ z => z.elim⟩⟩
theorem init_mkX {qual : Str} {params : Arguments} {body : List Stmt} {scope : Scope} {f : Addr} {dvs : List V} {kws : List (Str × V)} {S : List D → (List (Str × D) → Prop) → (Str → List (Str × D) → Prop) → Prop} {A0 : Addr} {self : Str} {fd : FuncData} (Fd : FunD K x qual params body scope dvs kws f fd) (sc : FnScope (self :: N) ps scope) (len : ∀ l K KX, S l K KX → l.length + 1 = ps.length)
    (hb : ∀ (f : Addr) (cdv : Value) (A : Around) (outer : List Env) (s : Shared) (H : Hp) (E : XK), Room k (A.deeper (envOfC qual scope s.heap.objs.size f cdv)) →
      ∃ t, PSs (cxOf (L2.CX P w) P w K mg base (self :: N) qual scope f cdv A outer s H E) body t ∧ ∀ n B l Kd KX, S l Kd KX → XO K (F n) B E KX → SX (F n) B (.ins A0 [] :: G0 N l) t (fun Γ => ∃ fl, Γ[0]? = some (.ins A0 fl) ∧ Kd fl) (fun _ _ => False) (fun _ => False) (fun _ => False)) :
    FnOk P w K mg base (L2.CX P w) (k + 1) f fd ps (SpFamIX K F A0 S) :=
  Fd.ok sc (fun vs H Q E ⟨n, P, W, p, dx, us, l, Kd, KX, e, _, _, _, _, _, _, r, hS, _⟩ => by rw [e, List.length_cons, r.length]; exact len l Kd KX hS) fun cdv A outer s H vs Q E hr ⟨n, P, W, p, dx, us, l, Kd, KX, e, hp, hW, hP, hm, hw, pl, r, hS, k1, k2⟩ => by
    subst e
    obtain ⟨t, h1, h2⟩ := hb _ cdv A outer s H E hr
    refine ⟨t, h1, h2 n ⟨P, fun a => a = p, W, H, W⟩ l Kd KX hS (fun W' H' x fl cls d e eo kx => k2 x fl cls d W' H' kx e.stp e.pl eo) W H _ (env_startI hp hW hP hm hw pl r) _ ⟨fun Γ W' H' σ' e z => ?_, fun _ _ _ _ _ _ _ _ z => z.elim, fun _ _ _ _ _ z => z.elim, fun _ _ _ _ _ z => z.elim⟩⟩
    obtain ⟨fl, h0, kf⟩ := z
    obtain ⟨ow, o⟩ := e.ow
    obtain ⟨f1, _, f4⟩ := o.fr 0 _ h0 rfl
    obtain ⟨_, dx', fs, g1, g2, g3⟩ := o.ok 0 _ h0
    have f6 : ow 0 = p := f4
    rw [f6] at f1 g1
    exact k1 fl fs dx' W' H' kf e.stp g1 f1 g2 g3
end

/-! ### calls of such defs -/
section
variable {X : Cx} {k j : Nat} {x : Str} {ps : List Str} {sp : Sp} {p pos : Pos} {e : Expr} {es : List Expr} {t : TA} {E : XK} {dvs : List V}
theorem pe_calX (c : Cal X.prog X.w X.K X.mg X.base k x ps sp) (hr : Room j X.A) (hk : k ≤ j) (hx : Passes (L2.CX X.prog X.w) X E) (hg : Gl X x) (ha : PA X (e :: es) t) (hdb : (x == ("__debug__" : Str)) = false := by decide)
    (he : starEach (e :: es) X.env = (false, eval e X.env) :: starEach es X.env := by rfl) (hpl : (backTo pos (starEach es X.env)).any (·.1) = false := by rfl) : PE X (.Call (.Name x p) (e :: es) [] pos) (tCall sp [] E t) := by
  obtain ⟨h1, h2, fd, F, b⟩ := c
  exact pe_call F (hr.mono hk) hg h1 h2 b .nil hx ha hdb he hpl
theorem pe_mkX (KK : PySem.W.Frag) (h : X.K = KK) (c : CalM X.prog X.w X.K X.mg X.base k x dvs sp) (hr : Room j X.A) (hk : k + 1 ≤ j) (hx : Passes (L2.CX X.prog X.w) X E) (hg : Gl X x) (ha : PA X (e :: es) t) (hdb : (x == ("__debug__" : Str)) = false := by decide)
    (he : starEach (e :: es) X.env = (false, eval e X.env) :: starEach es X.env := by rfl) (hpl : (backTo pos (starEach es X.env)).any (·.1) = false := by rfl) : PE X (.Call (.Name x p) (e :: es) [] pos) (tMake (He.ga KK x) sp dvs E t) := by
  subst h
  obtain ⟨h1, f, fd, ps, ds, M, F, b, hd⟩ := c
  exact pe_make M F (hr.mono hk) hg h1 b hd hx ha hdb he hpl
/-- in a def that lets the error out; in a try -/
theorem passE (tk : Takes X (fun cls d _ H => E cls d H)) : Passes (L2.CX X.prog X.w) X E := passes_call tk (fun _ _ _ _ h => h)
def EW (n : Nat) (W : WX) : XK := fun cls d H => ∀ σ : L2.St, σ.length = n → W cls d σ H
theorem passT {W : WX} {n : Nat} (hn : X.N.length = n) (tk : Takes X W) : Passes (L2.CX X.prog X.w) X (EW n W) := fun pins σ H s e s' I c => tk e s' (XE.of_call I (fun cls d H' h => h σ (by
  have hl := I.len
  omega)) c)
end

/-! ### the error that is handled, in a def that is called with it -/
structure FnE (P : Program) (w : World) (K : PySem.W.Frag) (mg : Str → Option Value) (base : Heap) (k : Nat) (f : Addr) (fd : FuncData) (ps : List Str) (sp : Addr → Value → Option Addr → Sp) : Prop where
  len : ∀ a cls d vs H Q E, sp a cls d vs H Q E → vs.length = ps.length
  run : ∀ (A : Around) (outer : List Env) (s : Shared) (H : Hp) (args : Args) (us : List Value) (vs : List V) (Q : VK) (E : XK) (p : Addr × Obj) (cls : Value) (d : Option Addr), L2H.RoomH k A → Zc cls d p.2 → (∃ v, p.2.data = .fields v) → L2H.PinOk outer H s p → Env0 P w K mg base A outer s H →
    BindsTo s fd args (ps.zip us) → Vals vs us → sp p.1 cls d vs H Q E → codeAny (model P w) A (.call (.ref f) args) (CR (L2.CX P w) outer P w H s Q E) s
theorem fn_ofE {P : Program} {w : World} {K : PySem.W.Frag} {mg : Str → Option Value} {base : Heap} {k : Nat} {f : Addr} {name qual : Str} {params : Arguments} {body : List Stmt} {scope : Scope} {dV kV doc pm cdv ct oc : Value} {an od : Option Addr}
    {osl : Array (Option Value)} {N ps : List Str} {sp : Addr → Value → Option Addr → Sp} (lk : K.lookup f = some ⟨oc, od, .func (PySem.W.fnOf name qual params body scope dV kV doc pm an cdv ct), osl⟩) (hcd : PySem.W.codeIn K cdv qual = true) (S : FnScope N ps scope)
    (len : ∀ a cls d vs H Q E, sp a cls d vs H Q E → vs.length = ps.length)
    (hbody : ∀ (A : Around) (outer : List Env) (s : Shared) (H : Hp) (vs : List V) (Q : VK) (E : XK) (p : Addr × Obj) (cls : Value) (d : Option Addr), Zc cls d p.2 → (∃ v, p.2.data = .fields v) → L2H.RoomH k (A.deeper (envOfC qual scope s.heap.objs.size f cdv)) → sp p.1 cls d vs H Q E →
      ∃ t, PSs (L2H.cxH (L2.CX P w) P w K mg base N qual scope f cdv A outer s H E p) body t ∧ t { nx := fun _ H' => Q .non H', rt := Q } (L2.start N vs) H) :
    FnE P w K mg base (k + 1) f (PySem.W.fnOf name qual params body scope dV kV doc pm an cdv ct) ps sp := by
  refine ⟨len, fun A outer s H args us vs Q E p cls d hr hz hf hpin e0 hb r hsp => ?_⟩
  have hl := len _ _ _ _ _ _ _ hsp
  have KX : K.In s.heap := e0.mod.kin.keeps fun b o e => (e0.bs b o e).1
  have lim : s.heap.NoLimit := e0.mod.nolimit.keeps fun b o e => (e0.bs b o e).1
  have hkind : ∀ y ∈ ps.zip us, scope.names.lookup y.1 = some .local ∨ (scope.names.lookup y.1 = some .cell ∧ ((cellsFrom (s.heap.objs.size + 1) scope.names []).lookup y.1).isSome = true) := by
    intro y hy
    rcases S.par y.1 (List.of_mem_zip hy).1 with q | q
    · exact .inl q
    · exact .inr ⟨q, PySem.W.cellsFrom_some _ _ _ (.inl q)⟩
  refine codeAny_call_function hr.depth (KX _ _ lk) rfl S.co S.gen rfl (PySem.W.codeRec_of KX hcd) (hb _ _ _ _ (wpAny_newFunctionEnv_cells S.kind hkind fun env he s1 x => ?_))
  subst he
  obtain ⟨t, ht, hq⟩ := hbody A outer s H vs Q E p cls d hz hf (hr.deeper _) hsp
  have I : Inv (L2H.cxH (L2.CX P w) P w K mg base N qual scope f cdv A outer s H E p) [] (L2.start N vs) H s1 := L2H.inv_startH S hpin e0 hl r x
  refine ⟨lim.keeps x.toInCall.keep, codeAny_func (wpAny_mono (ht.run [] s1 (L2.start N vs) H _ I hq) (fun fl s' hs => ?_) fun e s' hs => hs)⟩
  cases fl with
  | ret u =>
    obtain ⟨v, σ', H', J, rv, q⟩ := hs
    exact ⟨v, H', J.os, J.bare, J.base, J.hok, rv, q⟩
  | next =>
    obtain ⟨σ', H', J, q⟩ := hs
    exact ⟨V.non, H', J.os, J.bare, J.base, J.hok, rfl, q⟩
  | brk => exact hs.choose_spec.choose_spec.2.elim
  | cont => exact hs.choose_spec.choose_spec.2.elim
def tCallE (sp : Addr → Value → Option Addr → Sp) (a : Addr) (cls : Value) (d : Option Addr) (t : TA) : TE := fun σ H Q => t σ H fun vs H1 => sp a cls d vs H1 Q (fun _ _ _ => False)
/-- .. by its name -/
def CalE (P : Program) (w : World) (K : PySem.W.Frag) (mg : Str → Option Value) (base : Heap) (k : Nat) (x : Str) (ps : List Str) (sp : Addr → Value → Option Addr → Sp) : Prop :=
  mg x = some (.ref (He.ga K x)) ∧ PySem.W.keepIn K (.ref (He.ga K x)) = true ∧ ∃ fd, FnE P w K mg base k (He.ga K x) fd ps sp ∧ Binds K fd ps []
section
variable {X : Cx} {k j : Nat} {x : Str} {ps : List Str} {sp : Addr → Value → Option Addr → Sp} {p pos : Pos} {e : Expr} {es : List Expr} {t : TA} {q : Addr × Obj} {cls : Value} {d : Option Addr}
theorem pe_calE (c : CalE X.prog X.w X.K X.mg X.base k x ps sp) (hr : L2H.RoomH j X.A) (hk : k ≤ j) (hq : q ∈ X.pn) (hz : Zc cls d q.2) (hf : ∃ v, q.2.data = .fields v) (hg : Gl X x) (ha : PA X (e :: es) t) (hdb : (x == ("__debug__" : Str)) = false := by decide)
    (he : starEach (e :: es) X.env = (false, eval e X.env) :: starEach es X.env := by rfl) (hpl : (backTo pos (starEach es X.env)).any (·.1) = false := by rfl) : PE X (.Call (.Name x p) (e :: es) [] pos) (tCallE sp q.1 cls d t) := by
  obtain ⟨h1, h2, fd, F, b⟩ := c
  refine ⟨fun pins s σ H Q I h => ?_⟩
  refine wpAny_Call_Name_kw (ld_glob I hg h1 (PySem.W.callWith_K (h₀ := X.base) I.ok.mod.kin h2 (thn (ha.run pos pins s σ H _ I h) fun us s1 ⟨vs, H1, I1, r, z⟩ => ⟨I1.kIn, ?_⟩) he hpl) hdb)
  have hl : us.length = ps.length := by rw [← r.length]; exact F.len _ _ _ _ _ _ _ z
  have bb := b s1 us I1.kIn (by rw [List.append_nil]; exact hl)
  rw [List.append_nil] at bb
  have P1 := I1.pin q (List.mem_append_left _ hq)
  have hpin : L2H.PinOk X.stack H1 s1 q := ⟨P1.1, P1.2.1, fun hm => (List.mem_cons.mp (I1.stkSub q.1 hm)).elim P1.2.2.1 P1.2.2.2.1, P1.2.2.2.2⟩
  refine wpAny_call (codeAny_mono (F.run X.A X.stack s1 H1 ⟨us, []⟩ us vs Q (fun _ _ _ => False) q cls d (hr.mono hk) hz hf hpin I1.env0 bb r z) fun res s' hq' => ?_)
  cases res with
  | error er => exact (passL (X := X) pins σ H1 s1 er s' I1 hq')
  | ok fl =>
    cases fl with
    | ret u => exact I1.after hq'
    | next => exact hq'.elim
    | brk => exact hq'.elim
    | cont => exact hq'.elim
end
/-- what a def promises that is called with the handled error -/
def SpFamE (K : PySem.W.Frag) (F : Hp → Cl) (S : Str → List (Str × D) → (D → Prop) → Prop) : Addr → Value → Option Addr → Sp := fun a cls dd vs H Q _ => ∃ n P W x fl Kd, vs = [.ref a] ∧ Same W H ∧ PlOk (F n) P W H ∧ EOk K (F n) P W cls dd x fl ∧ S x fl Kd ∧
  ∀ d v W' H', Kd d → Stp (F n) P noS W H W' H' → Rep (F n) P W' v d → Q v H'
section
variable {K : PySem.W.Frag} {F : Hp → Cl} {n : Hp} {B : Bs} {Γ : List Sl} {ta : TA} {te : TE} {Kd : D → Prop} {x : Str} {fl : List (Str × D)} {a : Addr} {cls : Value} {d : Option Addr}
theorem ek_callE {S : Str → List (Str × D) → (D → Prop) → Prop} (eo : EOk K (F n) B.P B.kp cls d x fl) (h : AK (F n) B Γ ta fun l => l = [.adr a] ∧ S x fl Kd) : EK (F n) B Γ (tCallE (SpFamE K F S) a cls d ta) Kd := fun W H σ e Q q =>
  h W H σ e _ fun l vs W1 H1 s1 r1 ⟨el, h1⟩ => by
    subst el
    cases r1 with
    | cons r1 rr =>
      cases rr; cases r1
      exact ⟨n, B.P, W1, x, fl, Kd, rfl, s1.wh, e.pl.step s1, eo.mono (e.kp.trans s1.ww), h1, fun d v W3 H3 k s3 r3 => q d v W3 H3 (s1.trans s3) r3 k⟩
/-- a field of it -/
theorem ek_xf {C : Cl} {f : Str} {y : D} (eo : EOk K C B.P B.kp cls d x fl) (hy : fl.lookup f = some y) (h : EK C B Γ te fun v => v = .adr a ∧ Kd y) : EK C B Γ (tXf a cls d (He.ga K x) f te) Kd := fun W H σ e Q q =>
  h W H σ e _ fun v0 v W1 H1 s1 r1 ⟨e0, k⟩ => by
    subst e0; cases r1
    obtain ⟨c0, dd, fs, z1, z2, z3, z4⟩ := eo.mono (e.kp.trans s1.ww)
    obtain ⟨u, hu, ru⟩ := lookup_rep z3 z4 hy
    exact ⟨rfl, c0, dd, fs, u, z1, s1.wh _ _ z2, hu, q y u W1 H1 s1 ru k⟩
end
theorem cal_mkE {P : Program} {w : World} {K : PySem.W.Frag} {mg : Str → Option Value} {base : Heap} {k : Nat} {x0 : Str} {st : Stmt} {N : List Str} {p0 : Str} {F : Hp → Cl} {S : Str → List (Str × D) → (D → Prop) → Prop} (g : mg x0 = some (.ref (He.ga K x0))) (Fd : ∃ fd, FnP K x0 st fd) (sc : FnScope N [p0] (defScope st))
    (b : ∀ (kV doc pm : Value) (an : Option Addr) (cdv ct : Value) (us : List Value), us.length = [p0].length → bindArgs (PySem.W.fnOf x0 x0 (defArgs st) (defBody st) (defScope st) .none kV doc pm an cdv ct) ⟨us, []⟩ = pure ([p0].zip us))
    (hb : ∀ (f : Addr) (cdv : Value) (A : Around) (outer : List Env) (s : Shared) (H : Hp) (E : XK) (p : Addr × Obj) (cls : Value) (d : Option Addr), Zc cls d p.2 → (∃ v, p.2.data = .fields v) → L2H.RoomH k (A.deeper (envOfC x0 (defScope st) s.heap.objs.size f cdv)) →
      ∃ t, PSs (L2H.cxH (L2.CX P w) P w K mg base N x0 (defScope st) f cdv A outer s H E p) (defBody st) t ∧ ∀ n B x fl Kd, EOk K (F n) B.P B.kp cls d x fl → S x fl Kd → SX (F n) B (G0 N [.adr p.1]) t (fun _ => Kd .non) (fun _ => Kd) (fun _ => False) (fun _ => False)) : CalE P w K mg base (k + 1) x0 [p0] (SpFamE K F S) := by
  obtain ⟨fd, Fd⟩ := Fd
  obtain ⟨oc, od, dV, kV, doc, pm, an, cdv, ct, osl, e, lk, hcd, _⟩ := Fd.ex
  refine ⟨g, Fd.kp, fd, ?_, Fd.bindsN b⟩
  subst e
  refine fn_ofE lk hcd sc (fun a cls d vs H Q E ⟨n, P, W, x, fl, Kd, e, _⟩ => by rw [e]; rfl) fun A outer s H vs Q E p cls d hz hf hr ⟨n, P, W, x, fl, Kd, e, hw, pl, eo, hS, k1⟩ => ?_
  subst e
  obtain ⟨t, h1, h2⟩ := hb _ cdv A outer s H E p cls d hz hf hr
  exact ⟨t, h1, h2 n ⟨P, noS, W, H, W⟩ x fl Kd eo hS W H _ (env_start hw pl (.one (.adr p.1))) _ ⟨fun Γ W' H' σ' e z => k1 .non .non W' H' z e.stp .non, fun Γ d v W' H' σ' e r' z => k1 d v W' H' z e.stp r', fun _ _ _ _ _ z => z.elim, fun _ _ _ _ _ z => z.elim⟩⟩
end G
end

section
set_option maxRecDepth 100000
set_option maxHeartbeats 2000000
/-! the data layer: classes of errors, the handled error asked and read, a try; lists changed in further ways -/
namespace G
open PySem PySem.Spec PyProof.Rows L2

/-! ### classes of errors -/
def oexB (K : PySem.W.Frag) (C : Addr) : Bool := match K.lookup C with
  | some ⟨.type "type", _, .cls cd, sl⟩ => (match cd.mro, sl.toList with
    | .ref D :: bm, [_, _, _, _, some (.builtin m), _] => D == C && (m == "ValueError.__new__" && (!cd.hasDel && (cd.hasDict && PySem.HandSPX.refsVE bm)))
    | _, _ => false)
  | _ => false
theorem oexB_ok {K : PySem.W.Frag} {C : Addr} (h : oexB K C = true) : ∃ nm q N bs bm sn sub ab col dd k0 k1 k2 k3 k5, K.lookup C = some (excClassObj nm q C N bs bm true sn sub ab col dd k0 k1 k2 k3 k5 "ValueError.__new__") ∧ PySem.HandSPX.refsVE bm = true := by
  unfold oexB at h
  split at h
  · rename_i dd cd sl hC
    split at h
    · rename_i D bm k0 k1 k2 k3 m k5 hm hs
      simp only [Bool.and_eq_true, beq_iff_eq, Bool.not_eq_true'] at h
      obtain ⟨h1, h2, h3, h4, h5⟩ := h
      subst h1; subst h2
      obtain ⟨nm, bs, mro, ns, qn, hd, sn, sb, ab, col, del⟩ := cd
      dsimp only at hm h3 h4
      subst hm; subst h3; subst h4
      obtain ⟨sl⟩ := sl
      have hs : sl = [k0, k1, k2, k3, some (.builtin "ValueError.__new__"), k5] := hs
      subst hs
      exact ⟨nm, qn, ns, bs, bm, sn, sb, ab, col, dd, k0, k1, k2, k3, k5, hC, h5⟩
    · cases h
  · cases h
/-- what is asked of an error's class (x its name, fs its fields) -/
structure ErC (K : PySem.W.Frag) (x : Str) (fs : List Str) : Prop where
  o : OexC K (He.ga K x)
  ini : PySem.W.findIn K (.ref (He.ga K x)) "__init__" = some (some (.ref (He.ma K (He.ga K x) "__init__")))
  fn : PySem.W.typeIn K (.ref (He.ma K (He.ga K x) "__init__")) = some (.type "function")
  xf : XfC K (He.ga K x)
  at_ : ∀ f ∈ fs, PySem.W.findIn K (.ref (He.ga K x)) f = some none
  cl : PySem.W.findIn K (.ref (He.ga K x)) "__class__" = some (some (.builtin "object.__class__"))
  gs : PySem.W.specialIn K (.builtin "object.__class__") "__get__" = some (some (.builtin "getset_descriptor.__get__"))
  tk : PySem.W.takesIn K (.builtin "object.__class__") = some true
  ob : PySem.W.mroIn K (He.ga K x) (.type "object") = some true
def ercB (K : PySem.W.Frag) (x : Str) (fs : List Str) : Bool :=
  oexB K (He.ga K x) && (He.eqO (PySem.W.findIn K (.ref (He.ga K x)) "__setattr__") (some (some (.builtin "object.__setattr__"))) && (decide (PySem.W.subIn K (.ref (He.ga K x)) (.type "BaseException") = some true) && (decide (PySem.W.typeIn K (.ref (He.ga K x)) = some (.type "type")) && (PySem.W.keepIn K (.ref (He.ga K x)) &&
  (He.eqO (PySem.W.findIn K (.ref (He.ga K x)) "__init__") (some (some (.ref (He.ma K (He.ga K x) "__init__")))) && (decide (PySem.W.typeIn K (.ref (He.ma K (He.ga K x) "__init__")) = some (.type "function")) && (xfB K (He.ga K x) && (fs.all (fun f => He.eqO (PySem.W.findIn K (.ref (He.ga K x)) f) (some none)) &&
  (He.eqO (PySem.W.findIn K (.ref (He.ga K x)) "__class__") (some (some (.builtin "object.__class__"))) && (He.eqO (PySem.W.specialIn K (.builtin "object.__class__") "__get__") (some (some (.builtin "getset_descriptor.__get__"))) && (decide (PySem.W.takesIn K (.builtin "object.__class__") = some true) && decide (PySem.W.mroIn K (He.ga K x) (.type "object") = some true))))))))))))
theorem ercB_ok {K : PySem.W.Frag} {x : Str} {fs : List Str} (h : ercB K x fs = true) : ErC K x fs := by
  obtain ⟨h1, h⟩ := He.ba h
  obtain ⟨h2, h⟩ := He.ba h
  obtain ⟨h3, h⟩ := He.ba h
  obtain ⟨h4, h⟩ := He.ba h
  obtain ⟨h5, h⟩ := He.ba h
  obtain ⟨h6, h⟩ := He.ba h
  obtain ⟨h7, h⟩ := He.ba h
  obtain ⟨h8, h⟩ := He.ba h
  obtain ⟨h9, h⟩ := He.ba h
  obtain ⟨h10, h⟩ := He.ba h
  obtain ⟨h11, h⟩ := He.ba h
  obtain ⟨h12, h13⟩ := He.ba h
  exact ⟨⟨oexB_ok h1, He.eqO_ok h2, of_decide_eq_true h3, of_decide_eq_true h4, h5⟩, He.eqO_ok h6, of_decide_eq_true h7, xfB_ok h8, fun f hf => He.eqO_ok (List.all_eq_true.mp h9 f hf), He.eqO_ok h10, He.eqO_ok h11, of_decide_eq_true h12, of_decide_eq_true h13⟩

/-! ### the handled error asked for its class, its field -/
def rIsP (K : PySem.W.Frag) (a : Addr) (cls : Value) (d : Option Addr) : List V → Hp → VK → Prop := fun xs H Q => ∃ (x : Str) (fns : List Str) (c : V) (cv : Value) (b : Bool) (dd : Addr) (fs : List (Str × V)), xs = [.ref a, c] ∧ cls = .ref (He.ga K x) ∧ ErC K x fns ∧ (∀ u, RelV c u → u = cv) ∧
  PySem.W.kitOne K (.ref (He.ga K x)) cv = some b ∧ d = some dd ∧ H dd = some (.xd fs) ∧ Q (.bl b) H
section
variable {X : Cx} {q : Addr × Obj} {cls : Value} {d : Option Addr}
/-- the error's object with its dict -/
theorem inst_of {pins : List (Addr × Obj)} {σ : L2.St} {H : Hp} {s : Shared} {C dd : Addr} {fs : List (Str × V)} (I : Inv X pins σ H s) (hq : q ∈ X.pn) (hz : Zc (.ref C) (some dd) q.2) (hf : ∃ v, q.2.data = .fields v) (hd : H dd = some (.xd fs)) :
    ∃ (od : Obj) (mA : Str → Option Value), PySem.W.InstAt s.heap q.1 q.2 C (some od) ∧ (∀ f, RelO (fs.lookup f) (mA f)) ∧ ∀ f, PySem.W.lookIn f od = some (mA f) := by
  obtain ⟨hget, _⟩ := I.pin q (List.mem_append_left _ hq)
  have hx : ObjOk X.prog X.w H s.heap dd (.xd fs) := I.hok dd _ hd
  obtain ⟨mA, hns, hr⟩ := hx
  obtain ⟨od, ho, hl⟩ := lookIn_ns hns
  obtain ⟨vs, hv⟩ := hf
  refine ⟨od, mA, ⟨hget, hz.1, ?_, ?_⟩, hr, hl⟩
  · unfold PySem.W.notCls; rw [hv] <;> rfl
  · rw [hz.2]; exact ho
theorem call_isP (hq : q ∈ X.pn) (hz : Zc cls d q.2) (hf : ∃ v, q.2.data = .fields v) : CallR X (.builtin "isinstance") (rIsP X.K q.1 cls d) := by
  intro pins s σ H xs us Q I r h
  obtain ⟨x, fns, c, cv, b, dd, fs, e1, e2, T, hcv, hk, e3, hd, k⟩ := h
  subst e1; subst e2; subst e3
  cases r with
  | cons rx rr =>
    cases rr with
    | cons rt rr =>
      cases rr; cases rx
      have ec := hcv _ rt
      subst ec
      obtain ⟨od, mA, J, _, _⟩ := inst_of I hq hz hf hd
      have hcl : (PySem.W.clsIn X.K (He.ga X.K x)).isSome = true := by
        obtain ⟨nm, q, N, bs, bm, sn, sub, ab, col, dd, k0, k1, k2, k3, k5, hC, _⟩ := T.o.cls
        unfold PySem.W.clsIn
        rw [hC]
        rfl
      exact PySem.W.kia_one (PySem.W.kitx_exc hcl T.xf.ga T.xf.gg T.xf.exC T.cl T.gs T.tk T.ob) I.kIn J hk (fun z => nomatch z) fun tk => ⟨.bl b, H, I.kept (t' := tk) fun _ _ z => z, rfl, k⟩
theorem cr_isP (KK : PySem.W.Frag) (h : X.K = KK) (hq : q ∈ X.pn) (hz : Zc cls d q.2) (hf : ∃ v, q.2.data = .fields v) : CallR X (.builtin "isinstance") (rIsP KK q.1 cls d) := h ▸ call_isP hq hz hf
/-- e.f, several classes in question -/
def tXg (K : PySem.W.Frag) (a : Addr) (cls : Value) (d : Option Addr) (f : Str) (te : TE) : TE := fun σ H Q => te σ H fun y H1 => ∃ (x : Str) (fns : List Str) (dd : Addr) (fs : List (Str × V)) (v : V), y = .ref a ∧ cls = .ref (He.ga K x) ∧ ErC K x fns ∧ f ∈ fns ∧ d = some dd ∧ H1 dd = some (.xd fs) ∧ fs.lookup f = some v ∧ Q v H1
theorem pe_xg (KK : PySem.W.Frag) (h : X.K = KK) {e : Expr} {te : TE} {pos : Pos} {f : Str} (hq : q ∈ X.pn) (hz : Zc cls d q.2) (hf : ∃ v, q.2.data = .fields v) (he : PE X e te) (hb : attributeBase e f X.env (eval e X.env) = eval e X.env := by rfl) :
    PE X (.Attribute e f pos) (tXg KK q.1 cls d f te) := by
  subst h
  refine ⟨fun pins s σ H Q I h => attr_of hb (thn (he.run pins s σ H _ I h) fun u s1 hh => ?_)⟩
  obtain ⟨y, H1, I1, rx, x, fns, dd, fs, v, e1, e2, T, hm, e3, hd, l, k⟩ := hh
  subst e1; subst e2; subst e3
  obtain rfl : u = Value.ref q.1 := rx
  obtain ⟨od, mA, J, hr, hl⟩ := inst_of I1 hq hz hf hd
  obtain ⟨u, hu, ru⟩ := RelO.some_of (v := v) (o := mA f) (by rw [← l]; exact hr f)
  exact HandSPX.exc_get I1.kIn J T.xf.ga T.xf.gg T.xf.exC (PySem.W.findObj_own T.xf.hdC (T.at_ f hm) rfl (by rw [hl, hu])) (handed_of ru) ⟨v, H1, I1.tok _, ru, k⟩
end
section
variable {K : PySem.W.Frag} {C : Cl} {B : Bs} {Γ : List Sl} {ta : TA} {te : TE} {Kd : D → Prop} {x : Str} {fl : List (Str × D)} {fns : List Str} {a : Addr} {cls : Value} {d : Option Addr}
theorem ek_isP (T : ErC K x fns) (eo : EOk K C B.P B.kp cls d x fl) (h : AK C B Γ ta fun l => ∃ y cv b, l = [.adr a, y] ∧ ClsD y cv ∧ PySem.W.kitOne K (.ref (He.ga K x)) cv = some b ∧ Kd (.bl b)) : EK C B Γ (tCB (rIsP K a cls d) ta) Kd := fun W H σ e Q q =>
  h W H σ e _ fun l vs W1 H1 s1 r1 ⟨y, cv, b, el, hy, hk, k⟩ => by
    subst el
    cases r1 with
    | cons r1 rr =>
      cases rr with
      | @cons c _ _ _ r2 rr =>
        cases rr; cases r1
        obtain ⟨c0, dd, fs, z1, z2, z3, z4⟩ := eo.mono (e.kp.trans s1.ww)
        refine ⟨x, fns, c, cv, b, dd, fs, rfl, c0, T, fun u ru => ?_, hk, z1, s1.wh _ _ z2, q _ _ W1 H1 s1 (.bl b) k⟩
        cases hy with
        | ty n => cases r2; exact ru
        | cls a => cases r2; exact ru
theorem ek_xg {f : Str} {y : D} (T : ErC K x fns) (hm : f ∈ fns) (eo : EOk K C B.P B.kp cls d x fl) (hy : fl.lookup f = some y) (h : EK C B Γ te fun v => v = .adr a ∧ Kd y) : EK C B Γ (tXg K a cls d f te) Kd := fun W H σ e Q q =>
  h W H σ e _ fun v0 v W1 H1 s1 r1 ⟨e0, k⟩ => by
    subst e0; cases r1
    obtain ⟨c0, dd, fs, z1, z2, z3, z4⟩ := eo.mono (e.kp.trans s1.ww)
    obtain ⟨u, hu, ru⟩ := lookup_rep z3 z4 hy
    exact ⟨x, fns, dd, fs, u, rfl, c0, T, hm, z1, s1.wh _ _ z2, hu, q y u W1 H1 s1 ru k⟩
end

/-! ### an error's own __init__ -/
theorem putF_one {f : Str} {y : V} : putF f y [] = [(f, y)] := rfl
section
variable {P : Program} {w : World} {K : PySem.W.Frag} {mg : Str → Option Value} {base : Heap} {k : Nat} {x qual : Str} {params : Arguments} {scope : Scope} {f : Addr} {fd : FuncData} {p0 p1 p2 f1 f2 : Str} {b1 b2 : Stmt} {C : Addr}
theorem ini1 (F : FunD K x qual params [b1] scope [] [] f fd) (S : FnScope [p0, p1] [p0, p1] scope) (T : OexC K C) (n1 : PySem.W.findIn K (.ref C) f1 = some none)
    (h : ∀ (cdv : Value) (A : Around) (outer : List Env) (s : Shared) (H : Hp) (E : XK), PS (cxOf (L2.CX P w) P w K mg base [p0, p1] qual scope f cdv A outer s H E).nox b1 (tOst K f1 (tVar 0) (tVar 1))) : FnOk P w K mg base (L2.CX P w) 1 f fd [p0, p1] (spE1 C f1) :=
  F.ok S (fun vs H Q E ⟨a, y, e, _⟩ => by rw [e]; rfl) fun cdv A outer s H vs Q E hr ⟨a, y, e, ha, hq⟩ => by
    subst e
    refine ⟨_, (pss_one (h cdv A outer s H E)).nox, y, rfl, .ref a, rfl, a, C, rfl, T, n1, .inl ⟨ha, fun dx hd hne => hq dx hd hne⟩⟩
theorem ini2 (F : FunD K x qual params [b1, b2] scope [] [] f fd) (S : FnScope [p0, p1, p2] [p0, p1, p2] scope) (T : OexC K C) (n1 : PySem.W.findIn K (.ref C) f1 = some none) (n2 : PySem.W.findIn K (.ref C) f2 = some none)
    (h1 : ∀ (cdv : Value) (A : Around) (outer : List Env) (s : Shared) (H : Hp) (E : XK), PS (cxOf (L2.CX P w) P w K mg base [p0, p1, p2] qual scope f cdv A outer s H E).nox b1 (tOst K f1 (tVar 0) (tVar 1)))
    (h2 : ∀ (cdv : Value) (A : Around) (outer : List Env) (s : Shared) (H : Hp) (E : XK), PS (cxOf (L2.CX P w) P w K mg base [p0, p1, p2] qual scope f cdv A outer s H E).nox b2 (tOst K f2 (tVar 0) (tVar 2))) : FnOk P w K mg base (L2.CX P w) 1 f fd [p0, p1, p2] (spE2 C f1 f2) :=
  F.ok S (fun vs H Q E ⟨a, y, z, e, _⟩ => by rw [e]; rfl) fun cdv A outer s H vs Q E hr ⟨a, y, z, e, ha, hq⟩ => by
    subst e
    refine ⟨_, (pss_cons (h1 cdv A outer s H E) (pss_one (h2 cdv A outer s H E))).nox, y, rfl, .ref a, rfl, a, C, rfl, T, n1, .inl ⟨ha, fun dx hd hne => ?_⟩⟩
    exact ⟨z, rfl, .ref a, rfl, a, C, rfl, T, n2, .inr ⟨dx, [(f1, y)], upd_same, by rw [upd_ne hne, upd_same], by simp, hq dx hd hne⟩⟩
end

/-! ### a try -/
def tTry (tb : WX → TS) (K : PySem.W.Frag) (c : Value) (i : Nat) (ts : Addr → Value → Option Addr → TS) : TS := fun D σ H => tb (wAs K c i ts (fun _ _ _ _ => False) D) D σ H
section
variable {K : PySem.W.Frag} {C : Cl} {B : Bs} {Γ : List Sl} {nx bk ct : List Sl → Prop} {rt : List Sl → D → Prop}
theorem isSlot_nos : ∀ {m i : Nat}, i < m → isSlot (List.replicate m Sl.no) i = true
  | _ + 1, 0, _ => rfl
  | m + 1, i + 1, h => by
    rw [List.replicate_succ]
    exact isSlot_nos (m := m) (i := i) (Nat.lt_of_succ_lt_succ h)
theorem sx_try {tb : WX → TS} {ts : Addr → Value → Option Addr → TS} {c : Value} {i m : Nat} (KX : Str → List (Str × D) → Prop) (hi : i < m) (hx : ∀ x fl, KX x fl → PySem.W.exmOne K (.ref (He.ga K x)) c = some true)
    (hb : ∀ W, XO K C B (EW m W) KX → SX C B Γ (tb W) nx rt bk ct)
    (hs : ∀ W1 x fl a cls d, KX x fl → EOk K C B.P W1 cls d x fl → SX C (B.keep W1) ((List.replicate m .no).set i (.d (.adr a))) (ts a cls d) (fun _ => False) rt (fun _ => False) (fun _ => False)) : SX C B Γ (tTry tb K c i ts) nx rt bk ct := fun W H σ e D' s => by
  have o : XO K C B (EW m (wAs K c i ts (fun _ _ _ _ => False) D')) KX := fun W1 H1 x fl cls d e1 eo kx σ1 hl => by
    refine ⟨true, by rw [eo.c]; exact hx x fl kx, fun _ a ha => ?_, fun z => nomatch z⟩
    have e2 := e1.nos σ1
    rw [hl] at e2
    have e3 := e2.setD (i := i) (v := .ref a) (x := .adr a) (isSlot_nos hi) (.adr a)
    exact hs W1 x fl a cls d kx eo W1 H1 _ (e3.keep W1 (.refl _)) _ ⟨fun _ _ _ _ _ z => z.elim, fun Γ d v W H σ e r z => s.rt Γ d v W H σ (e.unkeep e1.kp) r z, fun _ _ _ _ _ z => z.elim, fun _ _ _ _ _ z => z.elim⟩
  exact hb _ o W H σ e D' s
/-- a loop in which an error may leave: the frame's ground is kept -/
theorem sk_forX {O : Oc} {wi : TI} {g : TG} {t : TS} (h : IK C B Γ wi fun l => ∃ I : Nat → List Sl → Prop, I 0 Γ ∧
      (∀ W1 i d Γ', Same B.kp W1 → l[i]? = some d → I i Γ' → GK C (B.keep W1) Γ' g d fun Γ2 => SK C (B.keep W1) Γ2 t { O with nx := I (i + 1), ct := I (i + 1), bk := O.nx }) ∧ ∀ Γ', I l.length Γ' → O.nx Γ') : SK C B Γ (tFor wi g t) O := fun W H σ e D' s =>
  h W H σ e _ fun J W1 H1 l s1 y ⟨I, i0, hs, hd⟩ => by
    have e1 := e.step s1
    refine ⟨fun i m σ H => m = l.length - i ∧ i ≤ l.length ∧ ∃ W2 Γ2, EnvOk C (B.keep W1) W2 H σ Γ2 ∧ I i Γ2, ⟨l.length, rfl, Nat.zero_le _, W1, Γ, e1.keep W1 (.refl _), i0⟩, ?_⟩
    rintro i m σ2 H2 ⟨rfl, hi, W2, Γ2, e2, i2⟩
    have e3 : EnvOk C B W2 H2 σ2 Γ2 := e2.unkeep e1.kp
    by_cases hlt : i < l.length
    · obtain ⟨y1, y2⟩ := y.go i W2 H2 hlt e2.kp e2.wh e2.pl
      refine .inr ⟨y1, fun σ' H' => ∃ W2 Γ2, EnvOk C (B.keep W1) W2 H' σ' Γ2 ∧ I (i + 1) Γ2, fun σ' H' z => ⟨l.length - (i + 1), by omega, rfl, hlt, z⟩, fun x H3 hy => ?_⟩
      obtain ⟨W3, d, s3, hd', r3⟩ := y2 x H3 hy
      refine hs W1 i d Γ2 e1.kp hd' i2 W3 H3 σ2 x (e2.step s3) r3 _ fun Γ4 W4 H4 σ4 e4 k4 => ?_
      exact k4 W4 H4 σ4 e4 _ ⟨fun Γ5 W5 H5 σ5 e5 z => ⟨W5, Γ5, e5, z⟩, fun Γ5 d v W5 H5 σ5 e5 r5 z => s.rt Γ5 d v W5 H5 σ5 (e5.unkeep e1.kp) r5 z, fun Γ5 W5 H5 σ5 e5 z => s.nx Γ5 W5 H5 σ5 (e5.unkeep e1.kp) z, fun Γ5 W5 H5 σ5 e5 z => ⟨W5, Γ5, e5, z⟩⟩
    · have hh : i = l.length := by omega
      subst hh
      exact .inl ⟨y.stop H2 (e2.kp.trans e2.wh) (fun a o z => (e2.pl.rg a o z).1), s.nx Γ2 W2 H2 σ2 e3 (hd Γ2 i2)⟩
theorem sx_forGSX {wi : TI} {g : TG} {t : TS} (h : IK C B Γ wi fun l => ∃ (α : Type) (xs : List α) (f : α → D) (τ : Type) (F : Nat → τ → List Sl) (P : Nat → τ → Prop), l = xs.map f ∧ (∃ s, P 0 s ∧ Wk Γ (F 0 s)) ∧
      (∀ W1 j x s, Same B.kp W1 → xs[j]? = some x → P j s → GK C (B.keep W1) (F j s) g (f x) fun Γ2 => SX C (B.keep W1) Γ2 t (fun Γ' => ∃ s', P (j + 1) s' ∧ Wk Γ' (F (j + 1) s')) rt nx (fun Γ' => ∃ s', P (j + 1) s' ∧ Wk Γ' (F (j + 1) s'))) ∧ ∀ Γ' s, P xs.length s → Wk Γ' (F xs.length s) → nx Γ') : SX C B Γ (tFor wi g t) nx rt bk ct :=
  sk_forX (O := ⟨nx, rt, bk, ct⟩) (h.mono fun l ⟨α, xs, f, τ, F, P, e, h0, hs, hd⟩ => by
    subst e
    refine ⟨fun j Γ' => ∃ s, P j s ∧ Wk Γ' (F j s), h0, fun W1 j d Γ' hk hj ⟨s, p, w⟩ => gk_weak w ?_, fun Γ' ⟨s, p, w⟩ => ?_⟩
    · rw [List.getElem?_map] at hj
      cases hx : xs[j]? with
      | none => rw [hx] at hj; cases hj
      | some x =>
        rw [hx] at hj; cases hj
        exact hs W1 j x s hk hx p
    · rw [List.length_map] at p w
      exact hd Γ' s p w)
end
end G
end

section
set_option maxRecDepth 100000
set_option maxHeartbeats 2000000
/-! == over data: nested, with objects that have an own ==; what may differ -/
namespace GBq
open PySem PySem.SeqAt
open AutoSeq1 (wpAny_loadPart')
open MeetsSeq MeetsSeq2 MeetsSeq3 SeqRoads2 GQ
section
variable {prog : Program} {w : World} {A : Around} {R : Result → Shared → Prop}
/-- two tuples, of the i-th items == tells e i -/
theorem tuple_eqB (l b : Addr) (xs ys : Array Value) (n n2 : Nat) (dd dd2 : Option Addr) (sl sl2 : Array (Option Value)) (k : Nat) (hk : k = min xs.size ys.size) (e : Nat → Bool) (I : Nat → Shared → Prop)
    (turn : ∀ i (h1 : i < xs.size) (h2 : i < ys.size) s, I i s → wpAny (model prog w) A.in1 (eqBool xs[i] ys[i]) (fun r s' => r = e i ∧ I (i + 1) s') (fun e s' => R (.error e) s') s)
    (fin : ∀ j s, I j s → R (.ok (.ret (.bool (allB e k 0 && xs.size == ys.size)))) s) {s : Shared} (hl1 : s.heap.get? l = some { cls := .type "tuple", dict := dd, data := .seq xs n, slots := sl }) (hb1 : s.heap.get? b = some { cls := .type "tuple", dict := dd2, data := .seq ys n2, slots := sl2 }) (h : I 0 s) :
    wpAny (model prog w) A.in1 (Builtin.«tuple.__eq__» ⟨[.ref l, .ref b], []⟩) (FinOf prog w A R) (fun e s' => R (.error e) s') s := by
  have f2 := AutoSeq1.sub_tuple_tuple
  have hZ : (xs.toList.zip ys.toList).length = k := by rw [hk]; simp
  have h0 := h
  obtain ⟨hp, g, d, tk, os⟩ := s
  wp_walk using wpAny_loadPart' hl1, wpAny_loadPart' hb1, wpAny_forIn_list _ (fun rest b s' => b.1 = none ∧ ∃ i, rest = (xs.toList.zip ys.toList).drop i ∧ i ≤ k ∧ I i s' ∧ allB e k 0 = allB e k i) _
  case turn =>
    rintro ⟨y, x⟩ rest b s' ⟨hb', i, hz, hi, hI, hA⟩
    have hlt : i < (xs.toList.zip ys.toList).length := by
      rcases Nat.lt_or_ge i (xs.toList.zip ys.toList).length with z | z
      · exact z
      · rw [List.drop_of_length_le z] at hz; cases hz
    have hik : i < k := hZ ▸ hlt
    have h1 : i < xs.size := by omega
    have h2 : i < ys.size := by omega
    rw [List.drop_eq_getElem_cons hlt] at hz
    injection hz with hyx hrest
    have hy : y = xs[i] := by have := congrArg Prod.fst hyx; simpa using this
    have hx : x = ys[i] := by have := congrArg Prod.snd hyx; simpa using this
    subst hy hx
    refine wpAny_bind (wpAny_mono (turn i h1 h2 s' hI) (fun r s2 q2 => ?_) fun _ _ z => z)
    obtain ⟨hr, q2⟩ := q2
    have hA' := hA.trans (allB_next hik)
    cases he : e i with
    | true =>
      rw [he] at hr hA'
      subst hr
      wp_walk
      exact ⟨rfl, i + 1, hrest, hik, q2, by rw [hA', Bool.true_and]⟩
    | false =>
      rw [he] at hr hA'
      subst hr
      have hR := fin (i + 1) s2 q2
      rw [hA', Bool.false_and, Bool.false_and] at hR
      wp_walk
      exact hR
  case fin =>
    rintro ⟨b1, b2⟩ s' ⟨hb', i, hz, hi, hI, hA⟩
    simp only at hb'
    subst hb'
    have hge : k ≤ i := by
      rcases Nat.lt_or_ge i (xs.toList.zip ys.toList).length with z | z
      · rw [List.drop_eq_getElem_cons z] at hz; cases hz
      · exact hZ ▸ z
    have hR := fin i s' hI
    rw [hA, allB_end hge, Bool.true_and] at hR
    wp_walk
    exact hR
  case h =>
    exact ⟨rfl, 0, rfl, Nat.zero_le _, h0, rfl⟩
end
section
variable {prog : Program} {w : World} {A : Around} {E : Value → Shared → Prop} {s : Shared}
theorem rc_tupB {l b : Addr} {xs ys : Array Value} {Q : Value → Shared → Prop} {k : Nat} (hk : k = min xs.size ys.size) {e : Nat → Bool} (hu : A.units < cLine) (I : Nat → Shared → Prop)
    (hl : s.heap.IsTuple l xs) (hb : s.heap.IsTuple b ys)
    (turn : ∀ i (h1 : i < xs.size) (h2 : i < ys.size) s, I i s → wpAny (model prog w) A.in1 (eqBool xs[i] ys[i]) (fun r s' => r = e i ∧ I (i + 1) s') E s)
    (fin : ∀ j s, I j s → Q (.bool (allB e k 0 && xs.size == ys.size)) s) (h : I 0 s) : wpAny (model prog w) A (richCompare .Eq (.ref l) (.ref b)) Q E s := by
  obtain ⟨⟨cls, dd, data, sl⟩, ho, hc, n, hd⟩ := id hl
  obtain ⟨⟨cls2, dd2, data2, sl2⟩, ho2, hc2, n2, hd2⟩ := id hb
  simp only at hc hd hc2 hd2
  subst hc; subst hd; subst hc2; subst hd2
  refine wpAny_richCompare_same_room (op := .Eq) ⟨_, ho, rfl⟩ ⟨_, ho2, rfl⟩ F.slot_tuple_eq (call_here F.slot_tuple_eq ⟨_, ho, rfl⟩ F.entry_tuple_eq (F.args_tuple_eq_2 _ _) ?_) hu
  exact tuple_eqB (R := wants (fun v s' => v ≠ .notImplemented ∧ Q v s') E) l b xs ys n n2 dd dd2 sl sl2 k hk e I turn (fun j s' q => ⟨(fun x => nomatch x), fin j s' q⟩) ho ho2 h
end
end GBq
namespace L2
open PySem PySem.Spec PyProof.Rows
def RcBG (X : Cx) (n : Nat) (D : Eqb) : Prop :=
  ∀ (A : Around) (pins : List (Addr × Obj)) (s : Shared) (σ : St) (H : Hp) (x y : V) (b : Bool) (u v : Value), Sub X n A → Inv X pins σ H s → RelV x u → RelV y v → D x y b H →
    wpAny (model X.prog X.w) A (richCompare .Eq u v) (fun r s' => r = .bool b ∧ ∃ H', Inv X pins σ H' s' ∧ Ext H H') X.xe s
section
variable {X : Cx} {n m : Nat} {D D' : Eqb}
theorem EqBG.mono (h : EqBG X n D) (hn : n ≤ m) : EqBG X m D := fun A pins s σ H x y b u v sb => h A pins s σ H x y b u v (sb.mono hn)
theorem EqBG.or (h : EqBG X n D) (h' : EqBG X n D') : EqBG X n (fun x y b H => D x y b H ∨ D' x y b H) := fun A pins s σ H x y b u v sb I rx ry d => by
  rcases d with d | d
  · exact h A pins s σ H x y b u v sb I rx ry d
  · exact h' A pins s σ H x y b u v sb I rx ry d
theorem MonB.or (h : MonB D) (h' : MonB D') : MonB (fun x y b H => D x y b H ∨ D' x y b H) := fun x y b H H' e d => d.elim (fun d => .inl (h x y b H H' e d)) fun d => .inr (h' x y b H H' e d)
/-- flat values -/
def DFl : Eqb := fun x y b _ => flatV x = true ∧ flatV y = true ∧ b = eqV x y
theorem monB_fl : MonB DFl := fun _ _ _ _ _ _ d => d
theorem eqB_fl : EqBG X 0 DFl := by
  intro A pins s σ H x y b u v sb I rx ry ⟨fx, fy, e⟩
  have q := eqAt_V (A := A) (s := s) rx ry fx fy
  rw [← e] at q
  exact q X.prog X.w X.xe _ ⟨rfl, H, I, Ext.rfl'⟩
/-- tuples, item by item -/
def DTp (K : PySem.W.Frag) (D : Eqb) : Eqb := fun x y b H => ∃ a c xs ys e, x = .ref a ∧ y = .ref c ∧ SqT K H a xs ∧ SqT K H c ys ∧ PrsB D xs ys e H ∧ b = (GBq.allB e (min xs.length ys.length) 0 && xs.length == ys.length) ∧ (a = c → b = true)
theorem monB_tp {K : PySem.W.Frag} (hD : MonB D) : MonB (DTp K D) := fun x y b H H' ex ⟨a, c, xs, ys, e, hx, hy, h1, h2, p, hb, hs⟩ => ⟨a, c, xs, ys, e, hx, hy, h1.ext ex, h2.ext ex, fun i x y g1 g2 => hD _ _ _ _ _ ex (p i x y g1 g2), hb, hs⟩
theorem rcB_tp (hD : MonB D) (h : EqBG X n D) : RcBG X (n + 1) (DTp X.K D) := by
  intro A pins s σ H x y b u v sb I rx ry ⟨a, c, xs, ys, e, hx, hy, ha, hc, p, hb, _⟩
  subst hx; subst hy
  cases rx; cases ry
  obtain ⟨its, r, e1, z⟩ := I.tuple ha
  obtain ⟨its2, r2, e2, z2⟩ := I.tuple hc
  refine GBq.rc_tupB (k := min xs.length ys.length) (e := e) (by rw [List.size_toArray, List.size_toArray, r.length, r2.length]) sb.room.units0 (fun _ s' => LoopI X pins σ H s') e1 e2 (fun i h1 h2 s' l => ?_) (fun j s' l => ⟨?_, l⟩) ⟨H, I, Ext.rfl'⟩
  · obtain ⟨H1, I1, ex1⟩ := l
    have g1 : i < its.length := by simpa using h1
    have g2 : i < its2.length := by simpa using h2
    have k1 : i < xs.length := by rw [r.length]; exact g1
    have k2 : i < ys.length := by rw [r2.length]; exact g2
    obtain ⟨u, hu, ru⟩ := r.get (List.getElem?_eq_getElem k1)
    obtain ⟨v, hv, rv⟩ := r2.get (List.getElem?_eq_getElem k2)
    rw [List.getElem?_eq_getElem g1] at hu
    rw [List.getElem?_eq_getElem g2] at hv
    have eu : its.toArray[i] = u := by simpa using hu
    have ev : its2.toArray[i] = v := by simpa using hv
    rw [eu, ev]
    refine wpAny_mono (h A.in1 pins s' σ H1 _ _ (e i) u v sb.in1 I1 ru rv (hD _ _ _ _ _ ex1 (p i _ _ (List.getElem?_eq_getElem k1) (List.getElem?_eq_getElem k2)))) (fun q s2 hq => ?_) fun _ _ x => x
    obtain ⟨hr, H2, I2, ex2⟩ := hq
    exact ⟨hr, H2, I2, ex1.trans ex2⟩
  · rw [hb, List.size_toArray, List.size_toArray, ← r.length, ← r2.length]
theorem eqB_tp (hD : MonB D) (h : EqBG X n D) : EqBG X (n + 1) (DTp X.K D) := by
  intro A pins s σ H x y b u v sb I rx ry d
  obtain ⟨a, c, xs, ys, e, hx, hy, ha, hc, p, hb, hs⟩ := id d
  by_cases hab : a = c
  · subst hx; subst hy
    cases rx; cases ry
    rw [hs hab, hab]
    exact SeqAt.EqAt.same (A := A) (s := s) (.ref c) X.prog X.w X.xe _ ⟨rfl, H, I, Ext.rfl'⟩
  · have rc := rcB_tp hD h A pins s σ H x y b u v sb I rx ry d
    subst hx; subst hy
    cases rx; cases ry
    exact GQ.eqBool_refG hab (wpAny_mono rc (fun r s' ⟨hr, q⟩ => ⟨b, hr, rfl, q⟩) fun _ _ x => x)
/-- x == y -/
def rEqB (D : Eqb) : R2 := fun x y H Q => ∃ b, D x y b H ∧ ∀ H', Ext H H' → Q (.bl b) H'
theorem op_eqB (h : RcBG X n D) (hr : Room n X.A) : OpR X (compareOp .Eq) (rEqB D) := by
  intro pins s σ H x y v u Q I rx ry ⟨b, d, q⟩
  show wpAny (model X.prog X.w) X.A (richCompare .Eq v u) (EP X pins σ Q) X.xe s
  refine wpAny_mono (h X.A pins s σ H x y b v u ⟨hr, rfl⟩ I rx ry d) (fun r s' ⟨hr, H', I', ex⟩ => ?_) fun _ _ z => z
  subst hr
  exact ⟨.bl b, H', I', rfl, q H' ex⟩
end
end L2
namespace G
open PySem PySem.Spec PyProof.Rows L2
/-! ### plain data as the model's data -/
mutual
def pyD : D → PyData
  | .bl b => .bool b
  | .int i => .int i
  | .str s => .str s
  | .lst l => .list (pyL l)
  | .mls l => .list (pyL l)
  | .tup l => .tuple (pyL l)
  | _ => .none
def pyL : List D → List PyData
  | [] => []
  | d :: l => pyD d :: pyL l
end
theorem pyL_map : ∀ l : List D, pyL l = l.map pyD
  | [] => by simp [pyL]
  | d :: l => by simp [pyL, pyL_map l]
/-- plain, nested at most n deep -/
inductive PD : Nat → D → Prop where
  | non {n : Nat} : PD n .non
  | bl {n : Nat} (b : Bool) : PD n (.bl b)
  | int {n : Nat} (i : Int) : PD n (.int i)
  | str {n : Nat} {s : Str} (h : PyData.canLay0 (.str s) = true) : PD n (.str s)
  | lst {n : Nat} {l : List D} (h : ∀ x ∈ l, PD n x) : PD (n + 1) (.lst l)
  | mls {n : Nat} {l : List D} (h : ∀ x ∈ l, PD n x) : PD (n + 1) (.mls l)
  | tup {n : Nat} {l : List D} (h : ∀ x ∈ l, PD n x) : PD (n + 1) (.tup l)
theorem pd_all {n : Nat} : ∀ {l : List D}, (∀ x ∈ l, PyData.canLay0 (pyD x) = true ∧ PyData.depth (pyD x) ≤ n) → PyData.canLayAll0 (pyL l) = true ∧ PyData.depthAll (pyL l) ≤ n
  | [], _ => ⟨by simp [pyL, PyData.canLayAll0], by simp [pyL, PyData.depthAll]⟩
  | d :: l, h => by
    obtain ⟨h1, h2⟩ := pd_all (l := l) fun x hx => h x (List.mem_cons_of_mem _ hx)
    obtain ⟨h3, h4⟩ := h d List.mem_cons_self
    refine ⟨by simp [pyL, PyData.canLayAll0, h1, h3], ?_⟩
    simp only [pyL, PyData.depthAll]
    omega
theorem PD.ok : ∀ {n : Nat} {d : D}, PD n d → PyData.canLay0 (pyD d) = true ∧ PyData.depth (pyD d) ≤ n
  | _, _, .non => ⟨by simp [pyD, PyData.canLay0], by simp [pyD, PyData.depth]⟩
  | _, _, .bl b => ⟨by simp [pyD, PyData.canLay0], by simp [pyD, PyData.depth]⟩
  | _, _, .int i => ⟨by simp [pyD, PyData.canLay0], by simp [pyD, PyData.depth]⟩
  | _, _, .str h => ⟨by simpa [pyD] using h, by simp [pyD, PyData.depth]⟩
  | _, _, .lst h => by
    obtain ⟨h1, h2⟩ := pd_all fun x hx => (h x hx).ok
    exact ⟨by simpa [pyD, PyData.canLay0] using h1, by simp only [pyD, PyData.depth]; omega⟩
  | _, _, .mls h => by
    obtain ⟨h1, h2⟩ := pd_all fun x hx => (h x hx).ok
    exact ⟨by simpa [pyD, PyData.canLay0] using h1, by simp only [pyD, PyData.depth]; omega⟩
  | _, _, .tup h => by
    obtain ⟨h1, h2⟩ := pd_all fun x hx => (h x hx).ok
    exact ⟨by simpa [pyD, PyData.canLay0] using h1, by simp only [pyD, PyData.depth]; omega⟩
theorem PD.sh {n : Nat} {d : D} (h : PD n d) (hn : n ≤ 64) : SeqAt.shaped (pyD d) = true := by
  obtain ⟨h1, h2⟩ := h.ok
  simp only [SeqAt.shaped, h1, Bool.true_and]
  exact decide_eq_true (by omega)
section
variable {C : Cl} {B : Bs} {KK : PySem.W.Frag} {K : D → Prop}
mutual
theorem dp_of {P : Option Addr} {W H : Hp} (s : Same W H) (hm : Same C.m H) : ∀ {n : Nat} {d : D} {v : V}, PD n d → Rep C P W v d → Dp KK H v (pyD d)
  | _, _, _, .non, r => by cases r; exact .non
  | _, _, _, .bl b, r => by cases r; exact .bl b
  | _, _, _, .int b, r => by cases r; exact .int b
  | _, _, _, .str b, r => by cases r; exact .str _
  | _, _, _, .lst h, r => by
    cases r with
    | lst ha r => exact .lst (SqL.of (s _ _ ha)) (dpL_of s hm h r)
  | _, _, _, .mls h, r => by
    cases r with
    | mls ha r => exact .lst (SqL.of (hm _ _ ha)) (dpL_of s hm h r)
  | _, _, _, .tup h, r => by
    cases r with
    | tup ha r => exact .tup (SqT.of (s _ _ ha)) (dpL_of s hm h r)
theorem dpL_of {P : Option Addr} {W H : Hp} (s : Same W H) (hm : Same C.m H) : ∀ {n : Nat} {l : List D} {vs : List V}, (∀ x ∈ l, PD n x) → RepL C P W vs l → DpAll KK H vs (pyL l)
  | _, _, _, _, .nil => .nil
  | _, _, _, h, .cons r rr => .cons (dp_of s hm (h _ List.mem_cons_self) r) (dpL_of s hm (fun x hx => h x (List.mem_cons_of_mem _ hx)) rr)
end
theorem rk_eqD {n m : Nat} {d1 d2 : D} (h1 : PD n d1) (h2 : PD m d2) (k : K (.bl (PyData.eqv (pyD d1) (pyD d2)))) (hn : n ≤ 64 := by decide) (hm : m ≤ 64 := by decide) : RK C B (rEqD KK) d1 d2 K := fun W H hw pl v1 v2 r1 r2 Q q =>
  ⟨_, _, dp_of hw (fun a o z => (pl.rg a o z).1) h1 r1, dp_of hw (fun a o z => (pl.rg a o z).1) h2 r2, h1.sh hn, h2.sh hm, q _ _ W H (.refl hw) (.bl _) k⟩
theorem rk_neD {n m : Nat} {d1 d2 : D} (h1 : PD n d1) (h2 : PD m d2) (k : K (.bl (!PyData.eqv (pyD d1) (pyD d2)))) (hn : n ≤ 64 := by decide) (hm : m ≤ 64 := by decide) : RK C B (rNeD KK) d1 d2 K := fun W H hw pl v1 v2 r1 r2 Q q =>
  ⟨_, _, dp_of hw (fun a o z => (pl.rg a o z).1) h1 r1, dp_of hw (fun a o z => (pl.rg a o z).1) h2 r2, h1.sh hn, h2.sh hm, q _ _ W H (.refl hw) (.bl _) k⟩
/-- d in xs, xs a list -/
theorem rk_inD {n m : Nat} {d : D} {l : List D} (h1 : PD n d) (h2 : ∀ x ∈ l, PD m x) (k : K (.bl (l.any fun z => PyData.eqv (pyD z) (pyD d)))) (hn : n ≤ 64 := by decide) (hm : m + 1 ≤ 64 := by decide) : RK C B (rInD KK) d (.lst l) K := fun W H hw pl v1 v2 r1 r2 Q q => by
  have sh := (PD.lst h2).sh hm
  cases r2 with
  | lst ha r2 =>
    refine ⟨_, pyL l, dp_of hw (fun a o z => (pl.rg a o z).1) h1 r1, .lst (SqL.of (hw _ _ ha)) (dpL_of hw (fun a o z => (pl.rg a o z).1) h2 r2), h1.sh hn, sh, ?_⟩
    rw [pyL_map, List.any_map]
    exact q _ _ W H (.refl hw) (.bl _) k
theorem rk_notInD {n m : Nat} {d : D} {l : List D} (h1 : PD n d) (h2 : ∀ x ∈ l, PD m x) (k : K (.bl (!l.any fun z => PyData.eqv (pyD z) (pyD d)))) (hn : n ≤ 64 := by decide) (hm : m + 1 ≤ 64 := by decide) : RK C B (rNotInD KK) d (.lst l) K := fun W H hw pl v1 v2 r1 r2 Q q => by
  have sh := (PD.lst h2).sh hm
  cases r2 with
  | lst ha r2 =>
    refine ⟨_, pyL l, dp_of hw (fun a o z => (pl.rg a o z).1) h1 r1, .lst (SqL.of (hw _ _ ha)) (dpL_of hw (fun a o z => (pl.rg a o z).1) h2 r2), h1.sh hn, sh, ?_⟩
    rw [pyL_map, List.any_map]
    exact q _ _ W H (.refl hw) (.bl _) k
/-- .. of a list that only this frame knows -/
theorem ek_inO {i : Nat} {Γ : List Sl} {te : TE} {l : List D} {m : Nat} {f : Bool → Bool} {r : R2} (hr : r = (fun x y H Q => ∃ d ds, Dp KK H x d ∧ Dp KK H y (.list ds) ∧ SeqAt.shaped d = true ∧ SeqAt.shaped (.list ds) = true ∧ Q (.bl (f (ds.any fun z => PyData.eqv z d))) H)) (hs : Γ[i]? = some (.own l)) (h2 : ∀ x ∈ l, PD m x)
    (h : EK C B Γ te fun d => ∃ n, PD n d ∧ n ≤ 64 ∧ K (.bl (f (l.any fun z => PyData.eqv (pyD z) (pyD d))))) (hm : m + 1 ≤ 64 := by decide) : EK C B Γ (tOp r te (tVar i)) K := fun W H σ e Q q =>
  h W H σ e _ fun d v W1 H1 s1 r1 ⟨n, h1, hn, k⟩ => by
    obtain ⟨ow, o⟩ := (e.step s1).ow
    obtain ⟨g1, vs, g2, g3⟩ := o.ok i _ hs
    have pl := (e.step s1).pl
    refine ⟨_, getD_some g1, ?_⟩
    rw [hr]
    refine ⟨_, pyL l, dp_of s1.wh (fun a o z => (pl.rg a o z).1) h1 r1, .lst (SqL.of g2) (dpL_of s1.wh (fun a o z => (pl.rg a o z).1) h2 g3), h1.sh hn, (PD.lst h2).sh hm, ?_⟩
    rw [pyL_map, List.any_map]
    exact q _ _ W1 H1 s1 (.bl _) k
end
theorem op_eqDK {X : Cx} {KK : PySem.W.Frag} (h : X.K = KK) {k : Nat} (hr : Room k X.A) : OpR X (compareOp .Eq) (rEqD KK) := h ▸ op_eqD (by have := hr.un; omega)
theorem op_neDK {X : Cx} {KK : PySem.W.Frag} (h : X.K = KK) {k : Nat} (hr : Room k X.A) : OpR X (compareOp .NotEq) (rNeD KK) := h ▸ op_neD (by have := hr.un; omega)
theorem op_eqDH {X : Cx} {KK : PySem.W.Frag} (h : X.K = KK) {k : Nat} (hr : L2H.RoomH k X.A) : OpR X (compareOp .Eq) (rEqD KK) := h ▸ op_eqD (by have := hr.un; omega)
theorem op_inDK {X : Cx} {KK : PySem.W.Frag} (h : X.K = KK) {k : Nat} (hr : Room k X.A) : OpR X (compareOp .In) (rInD KK) := h ▸ op_inD (by have := hr.un; omega)
theorem op_notInDK {X : Cx} {KK : PySem.W.Frag} (h : X.K = KK) {k : Nat} (hr : Room k X.A) : OpR X (compareOp .NotIn) (rNotInD KK) := h ▸ op_notInD (by have := hr.un; omega)
end G
end

section
set_option maxRecDepth 100000
set_option maxHeartbeats 2000000
/-! == over nested data with fractions; an own == with anything; insert, pop -/
namespace G
open PySem PySem.Spec PyProof.Rows L2
/-- data of the same shape, fractions among them -/
inductive Sim : Nat → D → D → Prop where
  | int {n : Nat} (i j : Int) : Sim n (.int i) (.int j)
  | frac {n : Nat} (p q : Rat) : Sim n (.frac p) (.frac q)
  | tup {n : Nat} {l m : List D} (h : ∀ (i : Nat) (x y : D), l[i]? = some x → m[i]? = some y → Sim n x y) : Sim (n + 1) (.tup l) (.tup m)
/-- data that the heap tells apart -/
inductive TD : Nat → D → Prop where
  | int {n : Nat} (i : Int) : TD n (.int i)
  | frac {n : Nat} (p : Rat) : TD n (.frac p)
  | tup {n : Nat} {l : List D} (h : ∀ x ∈ l, TD n x) : TD (n + 1) (.tup l)
theorem fracF_inj {p q : Rat} (h : fracF p = fracF q) : p = q := by
  have e1 : p.num = q.num := by
    have := congrArg List.head? h
    simp [fracF] at this
    exact this
  have e2 : ((p.den : Nat) : Int) = ((q.den : Nat) : Int) := by
    have := congrArg (fun l => l[1]?) h
    simp [fracF] at this
    exact_mod_cast this
  exact Rat.ext e1 (by exact_mod_cast e2)
mutual
theorem td_det {C : Cl} {P : Option Addr} {W : Hp} : ∀ {n m : Nat} {d1 d2 : D} {v : V}, TD n d1 → TD m d2 → Rep C P W v d1 → Rep C P W v d2 → d1 = d2
  | _, _, _, _, _, .int i, .int j, r1, r2 => by cases r1; cases r2; rfl
  | _, _, _, _, _, .int i, .frac q, r1, r2 => by cases r1; cases r2
  | _, _, _, _, _, .int i, .tup _, r1, r2 => by cases r1; cases r2
  | _, _, _, _, _, .frac p, .int j, r1, r2 => by cases r1; cases r2
  | _, _, _, _, _, .frac p, .frac q, r1, r2 => by
    cases r1 with
    | frac h1 =>
      cases r2 with
      | frac h2 =>
        rw [h1] at h2
        injection h2 with h2
        injection h2 with _ _ h2
        rw [fracF_inj h2]
  | _, _, _, _, _, .frac p, .tup _, r1, r2 => by
    cases r1 with
    | frac h1 =>
      cases r2 with
      | tup h2 _ => rw [h1] at h2; cases h2
  | _, _, _, _, _, .tup _, .int j, r1, r2 => by cases r1; cases r2
  | _, _, _, _, _, .tup _, .frac q, r1, r2 => by
    cases r1 with
    | tup h1 _ =>
      cases r2 with
      | frac h2 => rw [h1] at h2; cases h2
  | _, _, _, _, _, .tup h, .tup k, r1, r2 => by
    cases r1 with
    | tup h1 r1 =>
      cases r2 with
      | tup h2 r2 =>
        rw [h1] at h2
        injection h2 with h2
        injection h2 with h2
        subst h2
        rw [tdL_det h k r1 r2]
theorem tdL_det {C : Cl} {P : Option Addr} {W : Hp} : ∀ {n m : Nat} {l1 l2 : List D} {vs : List V}, (∀ x ∈ l1, TD n x) → (∀ x ∈ l2, TD m x) → RepL C P W vs l1 → RepL C P W vs l2 → l1 = l2
  | _, _, _, _, _, _, _, .nil, r2 => by cases r2; rfl
  | _, _, _, _, _, h1, h2, .cons r rr, r2 => by
    cases r2 with
    | cons q qq => rw [td_det (h1 _ List.mem_cons_self) (h2 _ List.mem_cons_self) r q, tdL_det (fun x hx => h1 x (List.mem_cons_of_mem _ hx)) (fun x hx => h2 x (List.mem_cons_of_mem _ hx)) rr qq]
end
/-- how == of such data is told, nested n deep -/
def DN (K : PySem.W.Frag) (A : Addr) : Nat → Eqb
  | 0 => fun x y b H => DFl x y b H ∨ DOwn A (RlF A) x y b H
  | n + 1 => fun x y b H => DN K A n x y b H ∨ DTp K (DN K A n) x y b H
theorem monDN {K : PySem.W.Frag} {A : Addr} : ∀ n, MonB (DN K A n)
  | 0 => monB_fl.or mon_eqF
  | n + 1 => (monDN n).or (monB_tp (monDN n))
theorem eqDN {X : Cx} {F : Hp → Cl} (fam : Fam F) {A : Addr} (hA : ∀ n, (F n).frac = A) {k : Nat} (c : CalS X.prog X.w X.K X.mg X.base k A "__eq__" (SpFam F S_eqF)) : ∀ n, EqBG X (k + n) (DN X.K A n)
  | 0 => by
    obtain ⟨f, fd, ps, h1, h2, F', b⟩ := c
    exact EqBG.or (eqB_fl.mono (Nat.zero_le _)) (eqB_own (E := E0) F' (sp_eqF fam hA) h1 h2 b passL)
  | n + 1 => EqBG.or ((eqDN fam hA c n).mono (Nat.le_succ _)) (eqB_tp (monDN n) (eqDN fam hA c n))
theorem rcDN {X : Cx} {F : Hp → Cl} (fam : Fam F) {A : Addr} (hA : ∀ n, (F n).frac = A) {k : Nat} (c : CalS X.prog X.w X.K X.mg X.base k A "__eq__" (SpFam F S_eqF)) (n : Nat) : RcBG X (k + n + 1) (DTp X.K (DN X.K A n)) := rcB_tp (monDN n) (eqDN fam hA c n)
/-- a tuple's == with a tuple -/
theorem CalS.eqT {X : Cx} {F : Hp → Cl} (fam : Fam F) {A : Addr} (hA : ∀ n, (F n).frac = A) {k j : Nat} (c : CalS X.prog X.w X.K X.mg X.base k A "__eq__" (SpFam F S_eqF)) (n : Nat) (KK : PySem.W.Frag) (hK : X.K = KK) (hr : Room j X.A) (hk : k + n + 1 ≤ j) : OpR X (compareOp .Eq) (rEqB (DTp KK (DN KK A n))) := hK ▸ op_eqB (rcDN fam hA c n) (hr.mono hk)
section
variable {C : Cl} {B : Bs} {K : D → Prop} {KK : PySem.W.Frag}
open Classical in
theorem allB_data {l m : List D} (hl : GBq.allB (fun i => decide (l[i]? = m[i]?)) (min l.length m.length) 0 = true) (h2 : l.length = m.length) : l = m := by
  unfold GBq.allB at hl
  rw [List.drop_zero, List.all_eq_true] at hl
  apply List.ext_getElem?
  intro i
  by_cases hi : i < l.length
  · exact of_decide_eq_true (hl i (List.mem_range.mpr (by omega)))
  · rw [List.getElem?_eq_none (by omega), List.getElem?_eq_none (by omega)]
open Classical in
theorem tup_b {l m : List D} : decide (D.tup l = D.tup m) = (GBq.allB (fun i => decide (l[i]? = m[i]?)) (min l.length m.length) 0 && l.length == m.length) := by
  rw [Bool.eq_iff_iff, decide_eq_true_iff, Bool.and_eq_true, beq_iff_eq]
  constructor
  · intro h
    cases h
    refine ⟨?_, rfl⟩
    unfold GBq.allB
    rw [List.all_eq_true]
    intro i _
    exact decide_eq_true rfl
  · rintro ⟨h1, h2⟩
    rw [allB_data h1 h2]
open Classical in
mutual
theorem sim_dn {P : Option Addr} {W H : Hp} (s : Same W H) {A : Addr} (hA : C.frac = A) : ∀ {n m : Nat} {d1 d2 : D} {v1 v2 : V}, Sim n d1 d2 → TD m d1 → TD m d2 → Rep C P W v1 d1 → Rep C P W v2 d2 → DN KK A n v1 v2 (decide (d1 = d2)) H
  | 0, _, _, _, _, _, .int i j, _, _, r1, r2 => by
    cases r1; cases r2
    refine .inl ⟨rfl, rfl, ?_⟩
    rw [Bool.eq_iff_iff, decide_eq_true_iff]
    simp [eqV]
  | 0, _, _, _, _, _, .frac p q, _, _, r1, r2 => by
    cases r1 with
    | @frac a dx _ h1 =>
      cases r2 with
      | @frac b dy _ h2 =>
        rw [hA] at h1 h2
        refine .inr ⟨a, b, dx, dy, _, _, rfl, rfl, s _ _ h1, s _ _ h2, ⟨p, q, dx, dy, s _ _ h1, s _ _ h2, ?_⟩, fun z => ?_⟩
        · rw [Bool.eq_iff_iff, decide_eq_true_iff, decide_eq_true_iff]
          exact ⟨fun h => by cases h; rfl, fun h => by rw [h]⟩
        · subst z
          rw [h1] at h2
          injection h2 with h2
          injection h2 with _ _ h2
          exact decide_eq_true (by rw [fracF_inj h2])
  | n + 1, _, _, _, _, _, .int i j, t1, t2, r1, r2 => .inl (sim_dn s hA (n := n) (.int i j) t1 t2 r1 r2)
  | n + 1, _, _, _, _, _, .frac i j, t1, t2, r1, r2 => .inl (sim_dn s hA (n := n) (.frac i j) t1 t2 r1 r2)
  | n + 1, _, _, _, _, _, .tup h, t1, t2, r1, r2 => .inr (sim_tp s hA (.tup h) t1 t2 r1 r2)
theorem sim_tp {P : Option Addr} {W H : Hp} (s : Same W H) {A : Addr} (hA : C.frac = A) : ∀ {n m : Nat} {l1 l2 : List D} {v1 v2 : V}, Sim (n + 1) (.tup l1) (.tup l2) → TD m (.tup l1) → TD m (.tup l2) → Rep C P W v1 (.tup l1) → Rep C P W v2 (.tup l2) → DTp KK (DN KK A n) v1 v2 (decide (D.tup l1 = D.tup l2)) H
  | n, _, l1, l2, _, _, .tup h, .tup t1, .tup t2, r1, r2 => by
    have r1' := r1
    have r2' := r2
    cases r1 with
    | @tup a vs _ h1 r1 =>
      cases r2 with
      | @tup b us _ h2 r2 =>
        refine ⟨a, b, vs, us, fun i => decide (l1[i]? = l2[i]?), rfl, rfl, SqT.of (s _ _ h1), SqT.of (s _ _ h2), fun i x y hx hy => ?_, by rw [r1.length, r2.length]; exact tup_b, fun z => ?_⟩
        · obtain ⟨d, hd, rd⟩ := r1.getV hx
          obtain ⟨d', hd', rd'⟩ := r2.getV hy
          have := sim_dn s hA (h i d d' hd hd') (t1 d (List.mem_of_getElem? hd)) (t2 d' (List.mem_of_getElem? hd')) rd rd'
          have e : decide (l1[i]? = l2[i]?) = decide (d = d') := by
            rw [Bool.eq_iff_iff, decide_eq_true_iff, decide_eq_true_iff, hd, hd']
            exact ⟨fun h => by cases h; rfl, fun h => by rw [h]⟩
          simp only []
          rw [e]
          exact this
        · subst z
          exact decide_eq_true (td_det (.tup t1) (.tup t2) r1' r2')
end
open Classical in
theorem rk_eqT {n m : Nat} {A : Addr} (hA : C.frac = A) {l1 l2 : List D} (h : Sim (n + 1) (.tup l1) (.tup l2)) (t1 : TD m (.tup l1)) (t2 : TD m (.tup l2)) (k : ∀ b : Bool, (b = true ↔ l1 = l2) → K (.bl b)) : RK C B (rEqB (DTp KK (DN KK A n))) (.tup l1) (.tup l2) K := fun W H hw pl v1 v2 r1 r2 Q q =>
  ⟨_, sim_tp hw hA h t1 t2 r1 r2, fun H' ex => q _ _ W H' (stp_ext hw ex) (.bl _) (k _ (by rw [decide_eq_true_iff]; exact ⟨fun h => by cases h; rfl, fun h => by rw [h]⟩))⟩
end
/-! ### an own == with anything -/
/-- whose type is built in -/
inductive Blt (H : Hp) : V → String → Prop where
  | non : Blt H .non "NoneType"
  | bl (b : Bool) : Blt H (.bl b) "bool"
  | int (i : Int) : Blt H (.int i) "int"
  | str (s : Str) : Blt H (.str s) "str"
  | tup {a : Addr} {xs : List V} (h : H a = some (.tup xs)) : Blt H (.ref a) "tuple"
  | lst {a : Addr} {xs : List V} (h : H a = some (.lst xs)) : Blt H (.ref a) "list"
theorem sub_blt {K : PySem.W.Frag} {H : Hp} {A : Addr} {v : V} {T : String} (h : Blt H v T) : PySem.W.notFirst K A (.type T) = true := by
  have key : ∀ {T : String} {l : List Value}, fastBuiltinMro T = some l → (l.all fun v => match v with | .type _ => true | _ => false) = true → PySem.W.notFirst K A (.type T) = true := by
    intro T l e h
    have : l.contains (Value.ref A) = false := by
      rw [Bool.eq_false_iff]
      intro z
      have z2 := List.contains_iff_mem.mp z
      have := List.all_eq_true.mp h _ z2
      cases this
    show (Value.type T == Value.ref A || (Option.map (fun x => x.contains (Value.ref A)) (fastBuiltinMro T) == some false)) = true
    rw [e, Option.map_some, this]
    simp
  cases h
  · exact key (l := [.type "NoneType", .type "object"]) (by decide +kernel) (by decide +kernel)
  · exact key (l := [.type "bool", .type "int", .type "object"]) (by decide +kernel) (by decide +kernel)
  · exact key (l := [.type "int", .type "object"]) (by decide +kernel) (by decide +kernel)
  · exact key (l := [.type "str", .type "object"]) (by decide +kernel) (by decide +kernel)
  · exact key (l := [.type "tuple", .type "object"]) (by decide +kernel) (by decide +kernel)
  · exact key (l := [.type "list", .type "object"]) (by decide +kernel) (by decide +kernel)
theorem Blt.looks {X : Cx} {pins : List (Addr × Obj)} {σ : L2.St} {H : Hp} {s : Shared} {v : V} {u : Value} {T : String} (h : Blt H v T) (I : Inv X pins σ H s) (r : RelV v u) : PySem.W.Looks (model X.prog X.w) s.heap (typeOf u) (.type T) := by
  cases h with
  | non => cases r; exact PySem.W.Looks.of_pure rfl
  | bl b => cases r; exact PySem.W.Looks.of_pure rfl
  | int i => obtain ⟨t, rfl⟩ := r; exact PySem.W.Looks.of_pure rfl
  | str i => obtain ⟨t, rfl⟩ := r; exact PySem.W.Looks.of_pure rfl
  | tup h =>
    cases r
    obtain ⟨its, _, ⟨o, ho, hc, _⟩, _⟩ := I.tuple (SqT.of h)
    exact fun A Q E s k q => wpAny_typeOf_ref (k _ _ ho) (by rw [hc]; exact q)
  | lst h =>
    cases r
    obtain ⟨its, _, ⟨o, n, ho, hc, _⟩, _⟩ := I.list (SqL.of h)
    exact fun A Q E s k q => wpAny_typeOf_ref (k _ _ ho) (by rw [hc]; exact q)
def rEqO (A : Addr) (sp : Sp) : R2 := fun x y H Q => ∃ a dx fs, x = .ref a ∧ H a = some (.ins A dx fs) ∧ ((∃ T, Blt H y T) ∨ ∃ b dy gs, y = .ref b ∧ H b = some (.ins A dy gs)) ∧ sp [x, y] H (fun v H' => ∃ b, v = .bl b ∧ Q (.bl b) H') E0
theorem CalS.eqO {X : Cx} {A : Addr} {sp : Sp} {k j : Nat} (c : CalS X.prog X.w X.K X.mg X.base k A "__eq__" sp) (hr : Room j X.A) (hk : k ≤ j) : OpR X (compareOp .Eq) (rEqO A sp) := by
  obtain ⟨f, fd, ps, hs, hf, F, hb⟩ := c
  intro pins s σ H x y v u Q I rx ry ⟨a, dx, fs, ex, ha, hy, hq⟩
  subst ex
  have rx0 := rx
  cases rx
  obtain ⟨mA, J, _⟩ := ins_get I.hok ha
  obtain ⟨od, J, _⟩ := J.look
  obtain ⟨m, hF⟩ := I.fr
  have run : wpAny (model X.prog X.w) X.A (call (.ref f) [.ref a, u]) (PySem.W.CmpBack (EP X pins σ Q)) X.xe s := by
    have r2 : Vals [V.ref a, y] [Value.ref a, u] := .cons rx0 (.cons ry .nil)
    refine thn (run_fn (us := [.ref a, u]) (vs := [.ref a, y]) F (hr.mono hk) hb .nil passL I r2 (by rw [List.append_nil]; exact hq)) fun z s' hz => ?_
    obtain ⟨w, H', I', rz, b, ez, q⟩ := hz
    subst ez
    cases rz
    exact ⟨.bl b, H', I', rfl, q⟩
  rcases hy with ⟨T, hT⟩ | ⟨b, dy, gs, e, hb'⟩
  · exact PySem.W.cmp_K (op := .Eq) (hr.mono hk).units0 hF I.ok.mod.kin J (hT.looks I ry) (sub_blt hT) hs hf run
  · subst e
    cases ry
    obtain ⟨mB, J', _⟩ := ins_get I.hok hb'
    obtain ⟨od', J', _⟩ := J'.look
    exact PySem.W.cmp_K (op := .Eq) (tb := .ref A) (hr.mono hk).units0 hF I.ok.mod.kin J J'.type (by simp [PySem.W.notFirst]) hs hf run
/-- what an own == may be asked with -/
inductive OtD (c : Nat) : D → Prop where
  | non : OtD c .non
  | bl (b : Bool) : OtD c (.bl b)
  | int (i : Int) : OtD c (.int i)
  | str (s : Str) : OtD c (.str s)
  | tup (l : List D) : OtD c (.tup l)
  | lst (l : List D) : OtD c (.lst l)
  | obj (l : List (Str × D)) : OtD c (.obj c l)
theorem rk_eqO {F : Hp → Cl} {n : Hp} {B : Bs} {A : Addr} {c : Nat} (hA : (F n).cls c = A) {S : List D → (D → Prop) → Prop} {fl : List (Str × D)} {d : D} {K : D → Prop} (hd : OtD c d) (h : S [.obj c fl, d] fun r => ∃ b, r = .bl b ∧ K (.bl b)) : RK (F n) B (rEqO A (SpFam F S)) (.obj c fl) d K := fun W H hw pl v1 v2 r1 r2 Q q => by
  have r0 := r1
  obtain ⟨a, dx, fs, rfl, ha, hk, hr⟩ := rep_obj r1
  rw [hA] at ha
  refine ⟨a, dx, fs, rfl, hw _ _ ha, ?_, n, B.P, W, _, _, hw, pl, .cons r0 (.one r2), h, fun d v W' H' ⟨b, e, k⟩ s r => ?_⟩
  · cases hd with
    | non => cases r2; exact .inl ⟨_, .non⟩
    | bl b => cases r2; exact .inl ⟨_, .bl b⟩
    | int b => cases r2; exact .inl ⟨_, .int b⟩
    | str b => cases r2; exact .inl ⟨_, .str b⟩
    | tup l => cases r2 with | tup h _ => exact .inl ⟨_, .tup (hw _ _ h)⟩
    | lst l => cases r2 with | lst h _ => exact .inl ⟨_, .lst (hw _ _ h)⟩
    | obj l =>
      obtain ⟨b, dy, gs, e, hb, _⟩ := rep_obj r2
      rw [hA] at hb
      exact .inr ⟨b, dy, gs, e, hw _ _ hb⟩
  · subst e; cases r
    exact ⟨b, rfl, q _ _ W' H' s (.bl b) k⟩
end G
end

section
set_option maxRecDepth 100000
set_option maxHeartbeats 2000000
/-! lists that change: insert, pop; lists given away to be spoilt -/
namespace G
open PySem PySem.Spec PyProof.Rows L2
def rIns : V → List V → Hp → VK → Prop := fun x vs H Q => ∃ (l : Addr) (xs : List V) (i : Int) (y : V), x = .ref l ∧ vs = [.int i, y] ∧ H l = some (.lst xs) ∧ xs.length < sizeLine ∧ 0 ≤ i ∧ i < 2 ^ 63 ∧ Q .non (upd H l (.lst (xs.take i.toNat ++ [y] ++ xs.drop i.toNat)))
theorem mt_ins {X : Cx} : MtM X "list.insert" rIns := mt_insert
def insD (l : List D) (i : Nat) (d : D) : List D := l.take i ++ [d] ++ l.drop i
section
variable {C : Cl} {B : Bs} {Γ : List Sl} {te to ti tj : TE} {nx bk ct : List Sl → Prop} {rt : List Sl → D → Prop} {KK : PySem.W.Frag} {W H : Hp} {σ : L2.St}
/-- an own list gets other items -/
theorem EnvOk.ownChg (e : EnvOk C B W H σ Γ) {i : Nat} {l m : List D} (hs : Γ[i]? = some (.own l)) : ∃ a vs, σ[i]? = some (some (.ref a)) ∧ H a = some (.lst vs) ∧ RepL C B.P W vs l ∧ ∀ us, RepL C B.P W us m → EnvOk C B W (upd H a (.lst us)) σ (Γ.set i (.own m)) := by
  obtain ⟨ow, o⟩ := e.ow
  obtain ⟨h1, vs, h2, h3⟩ := o.ok i _ hs
  refine ⟨ow i, vs, getD_some h1, h2, h3, fun us r => ?_⟩
  obtain ⟨ow2, o2, f⟩ := e.chg (u := .lst us) (t := .own m) hs rfl rfl (fun _ h => h)
  have ee : ow2 i = ow i := by
    obtain ⟨g1, _⟩ := o2.ok i _ hs
    rw [h1] at g1
    injection g1 with g1
    injection g1 with g1
    exact g1.symm
  rw [ee] at f
  exact f ⟨h1, us, upd_same, r⟩
theorem sx_insert {i : Nat} {l : List D} (hs : Γ[i]? = some (.own l)) (h : EK C B Γ te fun d0 => ∃ k : Nat, d0 = .int (k : Nat) ∧ k ≤ 1000 ∧ EK C B Γ to fun d => l.length < sizeLine ∧ nx (Γ.set i (.own (insD l k d)))) :
    SX C B Γ (tDrop (tBM KK "list" rIns (tVar i) (tCons te (tCons to tNil)))) nx rt bk ct := fun W H σ e D' s => by
  obtain ⟨a, vs, h1, h2, h3, _⟩ := e.ownChg (m := []) hs
  refine ⟨_, h1, .inl ⟨rfl, _, SqL.of h2⟩, h W H σ e _ fun d0 v0 W1 H1 s1 r1 ⟨k, e0, hk, h4⟩ => h4 W1 H1 σ (e.step s1) _ fun d v W2 H2 s2 r2 ⟨hz, kx⟩ => ?_⟩
  subst e0; cases r1
  have e2 := (e.step s1).step s2
  obtain ⟨a', vs', g1, g2, g3, g4⟩ := e2.ownChg (m := insD l k d) hs
  have ea : a' = a := by
    rw [h1] at g1
    injection g1 with g1; injection g1 with g1; injection g1 with g1
    exact g1.symm
  subst ea
  refine ⟨a', vs', (k : Nat), v, rfl, rfl, g2, by rw [g3.length]; exact hz, by omega, by omega, ?_⟩
  rw [Int.toNat_natCast]
  exact s.nx _ W2 _ σ (g4 _ (((g3.take k).append (.one r2)).append (g3.drop k))) kx
/-- xs.pop(i), the item not used -/
theorem sx_pop1 {i : Nat} {l : List D} (hs : Γ[i]? = some (.own l)) (h : EK C B Γ te fun d0 => ∃ k : Nat, d0 = .int (k : Nat) ∧ k < l.length ∧ l.length ≤ 1000 ∧ nx (Γ.set i (.own (l.eraseIdx k)))) :
    SX C B Γ (tDrop (tBM KK "list" rPopAt (tVar i) (tCons te tNil))) nx rt bk ct := fun W H σ e D' s => by
  obtain ⟨a, vs, h1, h2, h3, _⟩ := e.ownChg (m := []) hs
  refine ⟨_, h1, .inl ⟨rfl, _, SqL.of h2⟩, h W H σ e _ fun d0 v0 W1 H1 s1 r1 ⟨k, e0, hk, hz, kx⟩ => ?_⟩
  subst e0; cases r1
  obtain ⟨a', vs', g1, g2, g3, g4⟩ := (e.step s1).ownChg (m := l.eraseIdx k) hs
  have ea : a' = a := by
    rw [h1] at g1
    injection g1 with g1; injection g1 with g1; injection g1 with g1
    exact g1.symm
  subst ea
  have hv : k < vs'.length := by rw [g3.length]; exact hk
  have er : ∀ {vs : List V} {l : List D} (k : Nat), RepL C B.P W1 vs l → RepL C B.P W1 (vs.eraseIdx k) (l.eraseIdx k) := by
    intro vs l k r
    rw [List.eraseIdx_eq_take_drop_succ, List.eraseIdx_eq_take_drop_succ]
    exact (r.take k).append (r.drop (k + 1))
  refine ⟨a', vs', (k : Nat), k, vs'[k], rfl, rfl, g2, by omega, by omega, ?_, by simp [hv], s.nx _ W1 _ σ (g4 _ (er k g3)) kx⟩
  unfold seqIndex?
  simp
  omega
/-- o.insert(i, e), o a list that the frame may change -/
theorem sx_insC {j : Nat} {cs : List (Addr × List D)} (hj : Γ[j]? = some (.reg cs)) (h : EK C B Γ to fun d0 => ∃ a, d0 = .adr a ∧ (∃ l, (a, l) ∈ cs) ∧ EK C B Γ ti fun d2 => ∃ n : Nat, d2 = .int (n : Nat) ∧ n ≤ 1000 ∧ EN C B Γ te fun ds d => ∃ k l, (cs ++ ds)[k]? = some (a, l) ∧ l.length < sizeLine ∧ nx (Γ.set j (.reg ((cs ++ ds).set k (a, insD l n d))))) :
    SX C B Γ (tDrop (tBM KK "list" rIns to (tCons ti (tCons te tNil)))) nx rt bk ct := fun W H σ e D' s =>
  h W H σ e _ fun d0 v0 W0 H0 s0 r0 ⟨a, e0, ⟨l0, hm⟩, h1⟩ => by
    subst e0; cases r0
    have e1 := e.step s0
    obtain ⟨ow, o⟩ := e1.ow
    obtain ⟨vs0, q0, _⟩ := (o.cl j cs _ hj hm).at_
    refine ⟨.inl ⟨rfl, _, SqL.of q0⟩, h1 W0 H0 σ e1 _ fun d2 v2 W1 H1 s1 r1 ⟨n, e2, hn, h2⟩ => h2 W1 H1 σ (e1.step s1) _ fun ds d v W2 H2 s2 n2 r2 ⟨k, l, hk, hz, kx⟩ => ?_⟩
    subst e2; cases r1
    have e2 := (e1.step s1).regNews hj s2 n2
    have hj2 : (Γ.set j (.reg (cs ++ ds)))[j]? = some (.reg (cs ++ ds)) := List.getElem?_set_self (List.getElem?_eq_some_iff.mp hj).1
    obtain ⟨ow2, o2⟩ := e2.ow
    obtain ⟨vs, q1, q2⟩ := (o2.cl j _ _ hj2 (List.mem_of_getElem? hk)).at_
    refine ⟨a, vs, (n : Nat), v, rfl, rfl, q1, by rw [q2.length]; exact hz, by omega, by omega, ?_⟩
    rw [Int.toNat_natCast]
    have e3 := e2.regChg (us := vs.take n ++ [v] ++ vs.drop n) (m := insD l n d) hj2 hk (((q2.take n).append (.one r2)).append (q2.drop n))
    rw [List.set_set] at e3
    exact s.nx _ W2 _ σ e3 kx
/-- o.pop(i), the item not used -/
theorem sx_popC {j : Nat} {cs : List (Addr × List D)} (hj : Γ[j]? = some (.reg cs)) (h : EK C B Γ to fun d0 => ∃ a, d0 = .adr a ∧ (∃ l, (a, l) ∈ cs) ∧ EK C B Γ ti fun d2 => ∃ (n : Nat) (k : Nat) (l : List D), d2 = .int (n : Nat) ∧ cs[k]? = some (a, l) ∧ n < l.length ∧ l.length ≤ 1000 ∧ nx (Γ.set j (.reg (cs.set k (a, l.eraseIdx n))))) :
    SX C B Γ (tDrop (tBM KK "list" rPopAt to (tCons ti tNil))) nx rt bk ct := fun W H σ e D' s =>
  h W H σ e _ fun d0 v0 W0 H0 s0 r0 ⟨a, e0, ⟨l0, hm⟩, h1⟩ => by
    subst e0; cases r0
    have e1 := e.step s0
    obtain ⟨ow, o⟩ := e1.ow
    obtain ⟨vs0, q0, _⟩ := (o.cl j cs _ hj hm).at_
    refine ⟨.inl ⟨rfl, _, SqL.of q0⟩, h1 W0 H0 σ e1 _ fun d2 v2 W1 H1 s1 r1 ⟨n, k, l, e2, hk, hn, hz, kx⟩ => ?_⟩
    subst e2; cases r1
    have e2 := e1.step s1
    obtain ⟨ow2, o2⟩ := e2.ow
    obtain ⟨vs, q1, q2⟩ := (o2.cl j _ _ hj (List.mem_of_getElem? hk)).at_
    have hv : n < vs.length := by rw [q2.length]; exact hn
    refine ⟨a, vs, (n : Nat), n, vs[n], rfl, rfl, q1, by omega, by omega, ?_, by simp [hv], ?_⟩
    · unfold seqIndex?
      simp
      omega
    · refine s.nx _ W1 _ σ (e2.regChg (us := vs.eraseIdx n) (m := l.eraseIdx n) hj hk ?_) kx
      rw [List.eraseIdx_eq_take_drop_succ, List.eraseIdx_eq_take_drop_succ]
      exact (q2.take n).append (q2.drop (n + 1))

/-! ### lists given away -/
/-- the frame's lists are someone else's to change: nothing is known of them any more -/
theorem EnvOk.spoil (e : EnvOk C B W H σ Γ) {j : Nat} {cs : List (Addr × List D)} (hj : Γ[j]? = some (.reg cs)) {H' : Hp} (h1 : ∀ a o, H a = some o → (∀ p ∈ cs, p.1 ≠ a) → H' a = some o) (h2 : ∀ a o, H a = some o → ∃ o', H' a = some o') : EnvOk C B W H' σ (Γ.set j (.reg [])) := by
  obtain ⟨ow, o⟩ := e.ow
  have cl := fun p hp => o.cl j cs p hj hp
  have keep : ∀ {a o}, H a = some o → (∀ p ∈ cs, p.1 ≠ a) → H' a = some o := fun {a o} q z => h1 a o q z
  have o1 := o.regSet hj (ds := []) (by simp) (fun _ h => nomatch h) (fun _ h => nomatch h)
  have wh : Same W H' := fun a x q => keep (e.wh a x q) fun p hp z => by rw [← z, (cl p hp).w] at q; cases q
  refine ⟨⟨e.stp.ww, wh, fun a x q z1 z2 => keep (e.stp.hh a x q z1 z2) fun p hp z => (by rw [← z, (cl p hp).h] at q; cases q), fun a x q => ?_, e.stp.old, fun a q z => ?_⟩, e.kp, ⟨fun a q => ?_, fun a x q => ?_⟩, e.p0, e.len.setG hj rfl, ow, o1.inj, o1.fr, fun i s hs => ?_, o1.one, o1.nd, fun i es p g1 g2 => ?_, o1.df⟩
  · obtain ⟨x', q'⟩ := e.stp.dom a x q
    exact h2 a x' q'
  · have w := e.stp.pool a q z
    obtain ⟨x, hx⟩ := C.pks w
    rw [keep hx fun p hp y => (cl p hp).np (by rw [y]; exact q), ← hx]
    exact w
  · obtain ⟨z1, w⟩ := e.pl.po a q
    obtain ⟨x, hx⟩ := C.pks w
    refine ⟨z1, ?_⟩
    rw [keep hx fun p hp y => (cl p hp).np (by rw [y]; exact q), ← hx]
    exact w
  · obtain ⟨z1, z2, z3⟩ := e.pl.rg a x q
    exact ⟨keep z1 fun p hp y => e.nm (.inl (cl p hp).h) q y.symm, z2, z3⟩
  · have k := o1.ok i s hs
    have ne : s.isO = true → ∀ p ∈ cs, p.1 ≠ ow i := fun z p hp y => by
      rcases set_cases hs with ⟨_, rfl⟩ | ⟨_, hs'⟩
      · cases z
      · exact o.df j cs p i s hj hp hs' z y.symm
    cases s with
    | no => trivial
    | d x => exact k
    | own l => obtain ⟨q1, vs, q2, q3⟩ := k; exact ⟨q1, vs, keep q2 (ne rfl), q3⟩
    | ins c l => obtain ⟨q1, dx, fs, q2, q3, q4⟩ := k; exact ⟨q1, dx, fs, keep q2 (ne rfl), q3, q4⟩
    | reg cs => trivial
  · rcases set_cases g1 with ⟨_, z⟩ | ⟨hi, z⟩
    · cases z; cases g2
    · exact absurd (o.one _ _ _ _ z hj) hi
/-- what a def promises that spoils the lists it is given -/
def SpSpoil (F : Hp → Cl) (S : Addr → List (Addr × List D) → Prop) : Sp := fun vs H Q _ => ∃ n P W top cs, vs = [.ref top] ∧ Same W H ∧ PlOk (F n) P W H ∧ S top cs ∧ (cs.map (·.1)).Nodup ∧ (∀ p ∈ cs, ∃ us, H p.1 = some (.lst us) ∧ W p.1 = none ∧ RepL (F n) P W us p.2) ∧
  ∀ H', (∀ a o, H a = some o → (∀ p ∈ cs, p.1 ≠ a) → H' a = some o) → (∀ a o, H a = some o → ∃ o', H' a = some o') → Q .non H'
theorem sx_spoil {F : Hp → Cl} {n : Hp} {S : Addr → List (Addr × List D) → Prop} {j : Nat} {cs : List (Addr × List D)} {ta : TA} {Γ : List Sl} (hj : Γ[j]? = some (.reg cs)) (h : AK (F n) B Γ ta fun l => ∃ top, l = [.adr top] ∧ S top cs ∧ nx (Γ.set j (.reg []))) :
    SX (F n) B Γ (tDrop (tCall (SpSpoil F S) [] E0 ta)) nx rt bk ct := fun W H σ e D' s =>
  h W H σ e _ fun l vs W1 H1 s1 r1 ⟨top, el, hS, k⟩ => by
    subst el
    cases r1 with
    | cons r1 rr =>
      cases rr; cases r1
      have e1 := e.step s1
      obtain ⟨ow, o⟩ := id e1.ow
      refine ⟨n, B.P, W1, top, cs, rfl, s1.wh, e1.pl, hS, o.nd j cs hj, fun p hp => ?_, fun H' z1 z2 => s.nx _ W1 H' σ (e1.spoil hj z1 z2) k⟩
      have c := o.cl j cs p hj hp
      obtain ⟨us, q1, q2⟩ := c.at_
      exact ⟨us, q1, c.w, q2⟩
end
end G
end

section
set_option maxRecDepth 100000
set_option maxHeartbeats 2000000
/-! errors by names, a try by its parts -/
namespace G
open PySem PySem.Spec PyProof.Rows L2
def CalEr (P : Program) (w : World) (K : PySem.W.Frag) (mg : Str → Option Value) (base : Heap) (x : Str) (sp : Sp) : Prop :=
  mg x = some (.ref (He.ga K x)) ∧ OexC K (He.ga K x) ∧ PySem.W.findIn K (.ref (He.ga K x)) "__init__" = some (some (.ref (He.ma K (He.ga K x) "__init__"))) ∧ PySem.W.typeIn K (.ref (He.ma K (He.ga K x) "__init__")) = some (.type "function") ∧
  ∃ fd ps, FnOk P w K mg base (L2.CX P w) 1 (He.ma K (He.ga K x) "__init__") fd ps sp ∧ Binds K fd ps []
section
variable {X : Cx} {j : Nat} {x n : Str} {sp : Sp} {p pos pos' np : Pos} {e : Expr} {es : List Expr} {t : TA} {i : Nat} {body suite : List Stmt} {b₀ : Stmt} {tb : WX → TS} {ts : Addr → Value → Option Addr → TS}
theorem pmk_er (KK : PySem.W.Frag) (h : X.K = KK) (c : CalEr X.prog X.w X.K X.mg X.base x sp) (hr : Room j X.A) (hk : 2 ≤ j) (hg : Gl X x) (ha : PA X (e :: es) t) (hdb : (x == ("__debug__" : Str)) = false := by decide)
    (he : starEach (e :: es) X.env = (false, eval e X.env) :: starEach es X.env := by rfl) (hpl : (backTo pos (starEach es X.env)).any (·.1) = false := by rfl) : PMk X (.Call (.Name x p) (e :: es) [] pos) (tMkO (He.ga KK x) sp [] t) := by
  subst h
  obtain ⟨h1, h2, h3, h4, fd, ps, F, b⟩ := c
  exact pmk_oex h2 h3 h4 F (hr.mono hk) b .nil passL hg h1 ha hdb he hpl
theorem roomM {k : Nat} {A : Around} {v : Option Value} (r : Room k A) : L2H.RoomH k (A.mark v) := ⟨r.dp, r.un⟩
theorem ps_tryE (KK : PySem.W.Frag) (h : X.K = KK) {y : Str} {c : Value} (i : Nat) (hs : X.stack = X.env :: X.outer) (hf : X.env.frame = some X.env.locals) (hN : X.N.Nodup) (hi : X.N[i]? = some n) (hln : X.env.kindOf n = some .local) (hg : Gl X y) (hd : (y == ("__debug__" : Str)) = false) (hm : X.mg y = some c)
    (hb : ∀ (W : WX) (pn : List (Addr × Obj)) (xe : Value → Shared → Prop), Takes (X.tr pn xe) W → PSs (X.tr pn xe) body (tb W))
    (hsu : ∀ (a : Addr) (oe : Obj) (cls : Value) (d : Option Addr) (pn : List (Addr × Obj)), Zc cls d oe → (∃ vs, oe.data = .fields vs) → PSs (X.suite a ((a, oe) :: pn)) (b₀ :: suite) (ts a cls d)) :
    PS X (.Try body [.ExceptHandler (some (.Name y np)) (some n) (b₀ :: suite) pos'] [] [] pos) (tTry tb KK c i ts) := by
  subst h
  exact ps_try_as hs hf hN hi hln ⟨hg, hd, .inl hm⟩ takes0 (fun W pn xe tk _ => hb W pn xe tk) hsu
/-- .. in the suite: a def called with the error -/
theorem pe_calS {k : Nat} {ps : List Str} {spE : Addr → Value → Option Addr → Sp} {a : Addr} {oe : Obj} {cls : Value} {d : Option Addr} (c : CalE X.prog X.w X.K X.mg X.base k x ps spE) (hr : L2H.RoomH j X.A) (hk : k ≤ j) (hq : (a, oe) ∈ X.pn) (hz : Zc cls d oe) (hf : ∃ v, oe.data = .fields v) (hg : Gl X x) (ha : PA X (e :: es) t) (hdb : (x == ("__debug__" : Str)) = false := by decide)
    (he : starEach (e :: es) X.env = (false, eval e X.env) :: starEach es X.env := by rfl) (hpl : (backTo pos (starEach es X.env)).any (·.1) = false := by rfl) : PE X (.Call (.Name x p) (e :: es) [] pos) (tCallE spE a cls d t) :=
  pe_calE (q := (a, oe)) c hr hk hq hz hf hg ha hdb he hpl
end
theorem xo_never {K : PySem.W.Frag} {C : Cl} {B : Bs} {E : XK} : XO K C B E (fun _ _ => False) := fun _ _ _ _ _ _ _ _ k => k.elim
end G
end

section
set_option maxRecDepth 100000
set_option maxHeartbeats 2000000
/-! the data layer: walks over lists that the frame may change, in them -/
namespace G
open PySem PySem.Spec PyProof.Rows L2
section
variable {C : Cl} {B : Bs} {Γ : List Sl} {te to ti : TE} {nx bk ct : List Sl → Prop} {rt : List Sl → D → Prop} {KK : PySem.W.Frag} {t : TS} {g : TG}
theorem sx_forR (h : EK C B Γ te fun d => ∃ (a : Addr) (α : Type) (xs : List α) (f : α → D) (τ : Type) (F : Nat → τ → List Sl) (P : Nat → τ → Prop), d = .adr a ∧ (∀ j s, ∃ (r : Nat) (cs : List (Addr × List D)), (F j s)[r]? = some (.reg cs) ∧ (a, xs.map f) ∈ cs) ∧ (∃ s, P 0 s ∧ Wk Γ (F 0 s)) ∧
      (∀ j x s, xs[j]? = some x → P j s → GK C B (F j s) g (f x) fun Γ2 => SX C B Γ2 t (fun Γ' => ∃ s', P (j + 1) s' ∧ Wk Γ' (F (j + 1) s')) rt nx (fun Γ' => ∃ s', P (j + 1) s' ∧ Wk Γ' (F (j + 1) s'))) ∧ ∀ Γ' s, P xs.length s → Wk Γ' (F xs.length s) → nx Γ') : SX C B Γ (tFor (iSeq KK te) g t) nx rt bk ct := fun W H σ e D' s =>
  h W H σ e _ fun d v W1 H1 s1 r1 ⟨a, α, xs, f, τ, F, P, e0, hR, ⟨z0, p0, w0⟩, hs, hd⟩ => by
    subst e0
    cases r1
    have e1 := e.step s1
    have cell : ∀ {i : Nat} {z : τ} {W2 H2 : Hp} {σ2 : L2.St}, EnvOk C B W2 H2 σ2 (F i z) → ∃ vs, H2 a = some (.lst vs) ∧ RepL C B.P W2 vs (xs.map f) := fun {i z W2 H2 σ2} e2 => by
      obtain ⟨r, cs, hr, hm⟩ := hR i z
      obtain ⟨ow, o⟩ := e2.ow
      exact (o.cl r cs _ hr hm).at_
    obtain ⟨vs0, q0, _⟩ := cell (e1.weak w0)
    refine ⟨a, rfl, .inl ⟨⟨vs0, SqL.of q0⟩, ?_⟩⟩
    refine ⟨fun i m σ H => m = xs.length - i ∧ i ≤ xs.length ∧ ∃ W2 z, EnvOk C B W2 H σ (F i z) ∧ P i z, ⟨xs.length, rfl, Nat.zero_le _, W1, z0, e1.weak w0, p0⟩, ?_⟩
    rintro i m σ2 H2 ⟨rfl, hi, W2, z, e2, p2⟩
    obtain ⟨vs, q1, q2⟩ := cell e2
    have hl : vs.length = xs.length := by rw [q2.length, List.length_map]
    by_cases hlt : i < xs.length
    · have hv : i < vs.length := by omega
      refine .inr ⟨⟨vs, vs[i], SqL.of q1, by simp [hv]⟩, fun σ' H' => ∃ W2 z, EnvOk C B W2 H' σ' (F (i + 1) z) ∧ P (i + 1) z, fun σ' H' y => ⟨xs.length - (i + 1), by omega, rfl, hlt, y⟩, fun x H3 ⟨hy1, hy2⟩ => ?_⟩
      subst hy1
      obtain ⟨d, hd1, rd⟩ := q2.getV (hy2 vs (SqL.of q1))
      have hx : xs[i]? = some xs[i] := by simp [hlt]
      rw [List.getElem?_map, hx] at hd1
      cases hd1
      have fin : ∀ {Γ' W' H' σ'}, EnvOk C B W' H' σ' Γ' → (∃ s', P (i + 1) s' ∧ Wk Γ' (F (i + 1) s')) → ∃ W2 z, EnvOk C B W2 H' σ' (F (i + 1) z) ∧ P (i + 1) z := fun {Γ' W' H' σ'} e' ⟨s', p', w'⟩ => ⟨W', s', e'.weak w', p'⟩
      refine hs i xs[i] z hx p2 W2 H3 σ2 x e2 rd _ fun Γ4 W4 H4 σ4 e4 k4 => ?_
      exact k4 W4 H4 σ4 e4 _ ⟨fun Γ5 W5 H5 σ5 e5 y => fin e5 y, fun Γ5 d v W5 H5 σ5 e5 r5 y => s.rt Γ5 d v W5 H5 σ5 e5 r5 y, fun Γ5 W5 H5 σ5 e5 y => s.nx Γ5 W5 H5 σ5 e5 y, fun Γ5 W5 H5 σ5 e5 y => fin e5 y⟩
    · have hh : i = xs.length := by omega
      subst hh
      exact .inl ⟨⟨vs, SqL.of q1, Nat.le_of_eq hl⟩, s.nx _ W2 H2 σ2 e2 (hd _ z p2 Wk.refl)⟩
/-- an own list handed back -/
theorem sx_retO {i : Nat} {l : List D} (hs : Γ[i]? = some (.own l)) (h : rt (Γ.set i (.d (.lst l))) (.lst l)) : SX C B Γ (tRet (tVar i)) nx rt bk ct :=
  sx_freeze i hs (sx_ret (ek_var (by rw [List.getElem?_set_self (List.getElem?_eq_some_iff.mp hs).1]) h))
/-- d in a list that the frame may change -/
theorem ek_inR {f : Bool → Bool} {r : R2} {j : Nat} {cs : List (Addr × List D)} {K : D → Prop} (hr : r = (fun x y H Q => ∃ d ds, Dp KK H x d ∧ Dp KK H y (.list ds) ∧ SeqAt.shaped d = true ∧ SeqAt.shaped (.list ds) = true ∧ Q (.bl (f (ds.any fun z => PyData.eqv z d))) H)) (hj : Γ[j]? = some (.reg cs))
    (h : EK C B Γ te fun d => ∃ n, PD n d ∧ n ≤ 64 ∧ EK C B Γ to fun d2 => ∃ a l m, d2 = .adr a ∧ (a, l) ∈ cs ∧ (∀ x ∈ l, PD m x) ∧ m + 1 ≤ 64 ∧ K (.bl (f (l.any fun z => PyData.eqv (pyD z) (pyD d))))) : EK C B Γ (tOp r te to) K := fun W H σ e Q q =>
  h W H σ e _ fun d v W1 H1 s1 r1 ⟨n, h1, hn, h2⟩ => h2 W1 H1 σ (e.step s1) _ fun d2 v2 W2 H2 s2 r2 ⟨a, l, m, e0, hm, h3, hm64, k⟩ => by
    subst e0; cases r2
    obtain ⟨ow, o⟩ := ((e.step s1).step s2).ow
    obtain ⟨vs, g2, g3⟩ := (o.cl j cs _ hj hm).at_
    have pl := ((e.step s1).step s2).pl
    rw [hr]
    refine ⟨_, pyL l, dp_of s2.wh (fun a o z => (pl.rg a o z).1) h1 (r1.mono s2.ww), .lst (SqL.of g2) (dpL_of s2.wh (fun a o z => (pl.rg a o z).1) h3 g3), h1.sh hn, (PD.lst h3).sh hm64, ?_⟩
    rw [pyL_map, List.any_map]
    exact q _ _ W2 H2 (s1.trans s2) (.bl _) k
end
end G
end

section
set_option maxRecDepth 100000
set_option maxHeartbeats 2000000
/-! the data layer: comprehensions over lists that are the frame's own -/
namespace G
open PySem PySem.Spec PyProof.Rows L2
/-- what an iterator yields while the frame stands -/
structure YlE (C : Cl) (B : Bs) (Γ : List Sl) (σ : L2.St) (J : It) (l : List D) : Prop where
  stop : ∀ W H, EnvOk C B W H σ Γ → J.stop l.length H
  go : ∀ i W H, i < l.length → EnvOk C B W H σ Γ → J.go i H ∧ ∀ x H', J.yld i H x H' → ∃ W' d, Stp C B.P noS W H W' H' ∧ l[i]? = some d ∧ Rep C B.P W' x d
def IKE (C : Cl) (B : Bs) (Γ : List Sl) (wi : TI) (K : List D → Prop) : Prop := ∀ W H σ, EnvOk C B W H σ Γ → ∀ R : It → Hp → Prop, (∀ J W' H' l, Stp C B.P noS W H W' H' → YlE C B Γ σ J l → K l → R J H') → wi σ H R
section
variable {C : Cl} {B : Bs} {Γ : List Sl} {te : TE} {KK : PySem.W.Frag}
theorem ike_own {i : Nat} {l : List D} {K : List D → Prop} (hs : Γ[i]? = some (.own l)) (k : K l) : IKE C B Γ (iSeq KK (tVar i)) K := fun W H σ e R q => by
  obtain ⟨ow, o⟩ := e.ow
  obtain ⟨h1, vs, h2, h3⟩ := o.ok i _ hs
  have at_ : ∀ W2 H2, EnvOk C B W2 H2 σ Γ → ∃ us, H2 (ow i) = some (.lst us) ∧ RepL C B.P W2 us l := fun W2 H2 e2 => by
    obtain ⟨ow2, o2⟩ := e2.ow
    obtain ⟨g1, us, g2, g3⟩ := o2.ok i _ hs
    rw [h1] at g1
    injection g1 with g1; injection g1 with g1
    rw [g1]
    exact ⟨us, g2, g3⟩
  refine ⟨_, getD_some h1, ow i, rfl, .inl ⟨⟨vs, SqL.of h2⟩, q _ W H l (.refl e.wh) ⟨fun W2 H2 e2 => ?_, fun j W2 H2 hj e2 => ?_⟩ k⟩⟩
  · obtain ⟨us, g2, g3⟩ := at_ W2 H2 e2
    exact ⟨us, SqL.of g2, Nat.le_of_eq g3.length⟩
  · obtain ⟨us, g2, g3⟩ := at_ W2 H2 e2
    have hv : j < us.length := by rw [g3.length]; exact hj
    refine ⟨⟨us, us[j], SqL.of g2, by simp [hv]⟩, fun x H' ⟨e1, y⟩ => ?_⟩
    subst e1
    obtain ⟨d, z1, z2⟩ := g3.getV (y us (SqL.of g2))
    exact ⟨W2, d, .refl e2.wh, z1, z2⟩
theorem ike_adr {K : List D → Prop} {j : Nat} {cs : List (Addr × List D)} (hj : Γ[j]? = some (.reg cs)) (h : EK C B Γ te fun d => ∃ a l, d = .adr a ∧ (a, l) ∈ cs ∧ K l) : IKE C B Γ (iSeq KK te) K := fun W H σ e R q =>
  h W H σ e _ fun d v W1 H1 s1 r1 ⟨a, l, e0, hm, k⟩ => by
    subst e0; cases r1
    have at_ : ∀ W2 H2, EnvOk C B W2 H2 σ Γ → ∃ us, H2 a = some (.lst us) ∧ RepL C B.P W2 us l := fun W2 H2 e2 => by
      obtain ⟨ow2, o2⟩ := e2.ow
      exact (o2.cl j cs _ hj hm).at_
    obtain ⟨vs, h2, h3⟩ := at_ W1 H1 (e.step s1)
    refine ⟨a, rfl, .inl ⟨⟨vs, SqL.of h2⟩, q _ W1 H1 l s1 ⟨fun W2 H2 e2 => ?_, fun j W2 H2 hj e2 => ?_⟩ k⟩⟩
    · obtain ⟨us, g2, g3⟩ := at_ W2 H2 e2
      exact ⟨us, SqL.of g2, Nat.le_of_eq g3.length⟩
    · obtain ⟨us, g2, g3⟩ := at_ W2 H2 e2
      have hv : j < us.length := by rw [g3.length]; exact hj
      refine ⟨⟨us, us[j], SqL.of g2, by simp [hv]⟩, fun x H' ⟨e1, y⟩ => ?_⟩
      subst e1
      obtain ⟨d, z1, z2⟩ := g3.getV (y us (SqL.of g2))
      exact ⟨W2, d, .refl e2.wh, z1, z2⟩
/-- [te for g in xs], xs the frame's own; item by item -/
theorem ef_mapE {wi : TI} {g : TG} {vs : List Nat} {K : List D → Prop} (h : IKE C B Γ wi fun l => ∃ (α : Type) (xs : List α) (f y : α → D), l = xs.map f ∧ xs.length ≤ sizeLine ∧
      (∀ W1 x, x ∈ xs → CG C (B.keep W1) (wipeG Γ vs) g (f x) vs fun Γ2 => EK C (B.keep W1) Γ2 te fun z => z = y x) ∧ K (xs.map y)) : EF C B Γ (tLc wi g tYes te vs) K := fun W H σ e Q q =>
  h W H σ e _ fun It W1 H1 l s1 yl ⟨α, xs, f, y, el, hz, hs, hk⟩ Dl hDl => by
    subst el
    have e1 := e.step s1
    obtain ⟨ow, o⟩ := e.ow
    have o1 := o.step s1
    have hW1 : W1 Dl = none := by
      cases z : W1 Dl with
      | none => rfl
      | some x => rw [s1.wh _ _ z] at hDl; cases hDl
    have hP : B.P ≠ some Dl := fun z => e1.pl.ne Dl z hDl
    have hH : H Dl = none := s1.free hDl
    have h0 : B.H0 Dl = none := e.stp.free hH
    have hn := o1.ne hDl
    have hc := o1.neC hDl
    obtain ⟨e2, o2⟩ := e1.poke (u := .lst []) o1 hW1 hP (.inl h0) hn hc
    have s2 : Stp C B.P noS W H W1 (upd H1 Dl (.lst [])) := s1.trans (Stp.own s1.wh hDl e1.pl.ne)
    have hlen : (xs.map f).length = xs.length := List.length_map _
    refine ⟨fun i m H' => m = xs.length - i ∧ i ≤ xs.length ∧ ∃ W2 va, EnvOk C B W2 H' σ Γ ∧ Owns C B W2 H' σ Γ ow ∧ Same W1 W2 ∧ Stp C B.P noS W H W2 H' ∧ W2 Dl = none ∧ H' Dl = some (.lst va) ∧ RepL C B.P W2 va ((xs.map y).take i),
      ⟨xs.length, rfl, Nat.zero_le _, W1, [], e2, o2, .refl _, s2, hW1, upd_same, by rw [List.take_zero]; exact .nil⟩, ?_⟩
    rintro i m H2 ⟨rfl, hi, W2, va, e3, o3, w12, st, d1, d2, d3⟩
    by_cases hlt : i < xs.length
    · obtain ⟨y1, y2⟩ := yl.go i W2 H2 (by rw [hlen]; exact hlt) e3
      refine .inr ⟨y1, fun H' => ∃ W2 va, EnvOk C B W2 H' σ Γ ∧ Owns C B W2 H' σ Γ ow ∧ Same W1 W2 ∧ Stp C B.P noS W H W2 H' ∧ W2 Dl = none ∧ H' Dl = some (.lst va) ∧ RepL C B.P W2 va ((xs.map y).take (i + 1)), fun H' z => ⟨xs.length - (i + 1), by omega, rfl, hlt, z⟩, fun x H3 hy => ?_⟩
      obtain ⟨W3, d, s3, hd', r3⟩ := y2 x H3 hy
      have hx : xs[i]? = some xs[i] := by simp [hlt]
      rw [List.getElem?_map, hx] at hd'
      cases hd'
      have e4 := (e3.step s3).wipe vs
      have o4 := (o3.step s3).wipe (e3.step s3).len vs
      refine hs W1 xs[i] (List.getElem_mem hlt) W3 H3 _ x ow (e4.keep W1 (w12.trans s3.ww)) ⟨o4.inj, o4.fr, o4.ok, o4.one, o4.nd, fun i cs p h1 h2 => let k := o4.cl i cs p h1 h2; ⟨k.w, k.np, k.h, k.at_⟩, o4.df⟩ r3 _ fun Γ5 σ5 e5 o5 w5 k5 => ⟨w5.trans (by rw [wipe_wipe]), ?_⟩
      refine tk_yes (K := fun b => b = true) rfl W3 H3 σ5 e5 _ fun b W6 H6 s6 hb => ?_
      subst hb
      have s36 := s3.trans s6
      refine k5 W6 H6 σ5 (e5.step s6) _ fun yv v W7 H7 s7 r7 hyv => ?_
      subst hyv
      have s37 := s36.trans s7
      have hDl7 : H7 Dl = some (.lst va) := s37.hh _ _ d2 hP (fun z => nomatch z)
      have W7D : W7 Dl = none := (s37.old _ _ d2).trans d1
      have hva : va.length = i := by rw [d3.length, List.length_take, List.length_map]; omega
      refine ⟨va, hDl7, by omega, ?_⟩
      obtain ⟨e8, o8⟩ := (e3.step s37).poke (u := .lst (va ++ [v])) (o3.step s37) W7D hP (.inl h0) hn hc
      have st7 := st.trans s37
      refine ⟨W7, va ++ [v], e8, o8, w12.trans s37.ww, ⟨st7.ww, e8.wh, fun a u q1 q2 q3 => ?_, fun a u q1 => ?_, st7.old, fun a q1 q2 => ?_⟩, W7D, upd_same, ?_⟩
      · rw [upd_ne (fun z => by subst z; rw [hH] at q1; cases q1)]
        exact st7.hh a u q1 q2 q3
      · rw [upd_ne (fun z => by subst z; rw [hH] at q1; cases q1)]
        exact st7.dom a u q1
      · rw [upd_ne (fun z => by subst z; exact hP q1)]
        exact st7.pool a q1 q2
      · rw [List.take_succ, List.getElem?_map, hx]
        exact (d3.mono s37.ww).append (.one r7)
    · have hh : i = xs.length := by omega
      subst hh
      have fin : RepL C B.P W2 va (xs.map y) := by
        have := d3
        rw [show xs.length = (xs.map y).length by rw [List.length_map], List.take_length] at this
        exact this
      exact .inl ⟨by rw [← hlen]; exact yl.stop W2 H2 e3, q (xs.map y) Dl va W2 H2 st hH d1 d2 fin hk⟩
end
end G
end

section
set_option maxRecDepth 100000
set_option maxHeartbeats 4000000

namespace K
open PySem PySem.Spec PyProof.Rows L2 G
def topS (i : Nat) : Stmt := PySem.Challenge.pw_nextprices_k80_boxes_made.main.body.getD i (.Pass ⟨0, 0, 0, 0⟩)
abbrev s_InvalidFractionD_initD : Stmt := inClass (topS 4) 0
abbrev s_InvalidProjectD_initD : Stmt := inClass (topS 5) 0
abbrev s_EndlessD_initD : Stmt := inClass (topS 6) 0
abbrev s_InvalidFamilyD_initD : Stmt := inClass (topS 7) 0
abbrev s_NotClosedD_initD : Stmt := inClass (topS 8) 0
abbrev s_NotNestedD_initD : Stmt := inClass (topS 9) 0
abbrev s_NoExchangeD_initD : Stmt := inClass (topS 10) 0
abbrev s_WrongSizeD_initD : Stmt := inClass (topS 11) 0
abbrev s_InvalidStandingD_initD : Stmt := inClass (topS 12) 0
abbrev s_InvalidDeedD_initD : Stmt := inClass (topS 13) 0
abbrev s_InvalidPlanD_initD : Stmt := inClass (topS 14) 0
abbrev s_NoEndD_initD : Stmt := inClass (topS 15) 0
abbrev s_InvalidCertificateD_initD : Stmt := inClass (topS 16) 0
abbrev s_TooManyD_initD : Stmt := inClass (topS 17) 0
abbrev s_InvalidTextD_initD : Stmt := inClass (topS 18) 0
abbrev s_NothingToUndoD_initD : Stmt := inClass (topS 19) 0
abbrev s_is_integer : Stmt := topS 22
abbrev s_is_between : Stmt := topS 23
abbrev s_is_sequence : Stmt := topS 24
abbrev s_integer_told : Stmt := topS 25
abbrev s_FracD_initD : Stmt := inClass (topS 26) 0
abbrev s_FracD_addD : Stmt := inClass (topS 26) 1
abbrev s_FracD_subD : Stmt := inClass (topS 26) 2
abbrev s_FracD_mulD : Stmt := inClass (topS 26) 3
abbrev s_FracD_eqD : Stmt := inClass (topS 26) 4
abbrev s_Frac_is_below : Stmt := inClass (topS 26) 5
abbrev s_Frac_divided_by : Stmt := inClass (topS 26) 6
abbrev s_Frac_text : Stmt := inClass (topS 26) 7
abbrev s_Frac_read : Stmt := inClass (topS 26) 8
abbrev s_as_frac : Stmt := topS 27
abbrev s_is_amount : Stmt := topS 31
abbrev s_is_shown : Stmt := topS 34
abbrev s_are_prizes : Stmt := topS 38
abbrev s_is_box : Stmt := topS 39
abbrev s_BoxesD_initD : Stmt := inClass (topS 40) 0
abbrev s_BoxesD_lenD : Stmt := inClass (topS 40) 1
abbrev s_BoxesD_eqD : Stmt := inClass (topS 40) 2
abbrev s__law_pool : Stmt := topS 42
abbrev s__law_take : Stmt := topS 43
abbrev s__law_low : Stmt := topS 44
abbrev s__law_below : Stmt := topS 45
abbrev s__law_is : Stmt := topS 46
abbrev s__law_hand : Stmt := topS 47
abbrev s__law_like : Stmt := topS 48
abbrev s__law_kinds : Stmt := topS 49
abbrev s__law_said : Stmt := topS 50
abbrev s__law_worth : Stmt := topS 51
abbrev s__law_cost : Stmt := topS 52
abbrev s__law_weight : Stmt := topS 53
abbrev s__law_prizes : Stmt := topS 54
abbrev s__law_boxes : Stmt := topS 55
abbrev s__law_rows : Stmt := topS 56
abbrev s__law_spoil : Stmt := topS 57
abbrev s__law_ask : Stmt := topS 58
abbrev s__law_rows_right : Stmt := topS 59
abbrev s__law_no_number : Stmt := topS 60
abbrev s__law_no_row : Stmt := topS 61
abbrev s__law_wrong_row : Stmt := topS 62
abbrev s__law_wrong_whole : Stmt := topS 63
abbrev s__law_bent : Stmt := topS 64
abbrev s__law_unchanged : Stmt := topS 65
abbrev s__law_plain : Stmt := topS 66
abbrev s_law : Stmt := topS 67
theorem sc_InvalidProjectD_initD : FnScope ["self", "state"] ["self", "state"] (defScope s_InvalidProjectD_initD) := ⟨rfl, rfl, rfl, by decide +kernel, rfl, by decide +kernel, by decide +kernel⟩
theorem sc_WrongSizeD_initD : FnScope ["self", "many"] ["self", "many"] (defScope s_WrongSizeD_initD) := ⟨rfl, rfl, rfl, by decide +kernel, rfl, by decide +kernel, by decide +kernel⟩
theorem sc_is_integer : FnScope ["value"] ["value"] (defScope s_is_integer) := ⟨rfl, rfl, rfl, by decide +kernel, rfl, by decide +kernel, by decide +kernel⟩
theorem sc_is_between : FnScope ["value", "least", "most"] ["value", "least", "most"] (defScope s_is_between) := ⟨rfl, rfl, rfl, by decide +kernel, rfl, by decide +kernel, by decide +kernel⟩
theorem sc_is_sequence : FnScope ["value"] ["value"] (defScope s_is_sequence) := ⟨rfl, rfl, rfl, by decide +kernel, rfl, by decide +kernel, by decide +kernel⟩
theorem sc_FracD_initD : FnScope ["self", "num", "den", "divisor"] ["self", "num", "den"] (defScope s_FracD_initD) := ⟨rfl, rfl, rfl, by decide +kernel, rfl, by decide +kernel, by decide +kernel⟩
theorem sc_FracD_eqD : FnScope ["self", "other"] ["self", "other"] (defScope s_FracD_eqD) := ⟨rfl, rfl, rfl, by decide +kernel, rfl, by decide +kernel, by decide +kernel⟩
theorem sc_Frac_is_below : FnScope ["self", "other"] ["self", "other"] (defScope s_Frac_is_below) := ⟨rfl, rfl, rfl, by decide +kernel, rfl, by decide +kernel, by decide +kernel⟩
theorem sc_as_frac : FnScope ["value"] ["value"] (defScope s_as_frac) := ⟨rfl, rfl, rfl, by decide +kernel, rfl, by decide +kernel, by decide +kernel⟩
theorem sc_is_amount : FnScope ["value", "frac"] ["value"] (defScope s_is_amount) := ⟨rfl, rfl, rfl, by decide +kernel, rfl, by decide +kernel, by decide +kernel⟩
theorem sc_is_shown : FnScope ["value"] ["value"] (defScope s_is_shown) := ⟨rfl, rfl, rfl, by decide +kernel, rfl, by decide +kernel, by decide +kernel⟩
theorem sc_are_prizes : FnScope ["value", "worths", "_", "worth", "k", "one"] ["value"] (defScope s_are_prizes) := ⟨rfl, rfl, rfl, by decide +kernel, rfl, by decide +kernel, by decide +kernel⟩
theorem sc_is_box : FnScope ["value"] ["value"] (defScope s_is_box) := ⟨rfl, rfl, rfl, by decide +kernel, rfl, by decide +kernel, by decide +kernel⟩
theorem sc_BoxesD_initD : FnScope ["self", "rows", "kept", "at", "row", "prizes", "weight", "worth"] ["self", "rows"] (defScope s_BoxesD_initD) := ⟨rfl, rfl, rfl, by decide +kernel, rfl, by decide +kernel, by decide +kernel⟩
theorem sc_BoxesD_lenD : FnScope ["self"] ["self"] (defScope s_BoxesD_lenD) := ⟨rfl, rfl, rfl, by decide +kernel, rfl, by decide +kernel, by decide +kernel⟩
theorem sc_BoxesD_eqD : FnScope ["self", "other"] ["self", "other"] (defScope s_BoxesD_eqD) := ⟨rfl, rfl, rfl, by decide +kernel, rfl, by decide +kernel, by decide +kernel⟩
theorem sc__law_pool : FnScope ["script", "mix", "cell"] ["script"] (defScope s__law_pool) := ⟨rfl, rfl, rfl, by decide +kernel, rfl, by decide +kernel, by decide +kernel⟩
theorem sc__law_take : FnScope ["pool", "many", "cell", "told"] ["pool", "many"] (defScope s__law_take) := ⟨rfl, rfl, rfl, by decide +kernel, rfl, by decide +kernel, by decide +kernel⟩
theorem sc__law_low : FnScope ["num", "den", "one", "two", "rest"] ["num", "den"] (defScope s__law_low) := ⟨rfl, rfl, rfl, by decide +kernel, rfl, by decide +kernel, by decide +kernel⟩
theorem sc__law_below : FnScope ["one", "two"] ["one", "two"] (defScope s__law_below) := ⟨rfl, rfl, rfl, by decide +kernel, rfl, by decide +kernel, by decide +kernel⟩
theorem sc__law_is : FnScope ["actual", "due", "number"] ["actual", "due"] (defScope s__law_is) := ⟨rfl, rfl, rfl, by decide +kernel, rfl, by decide +kernel, by decide +kernel⟩
theorem sc__law_hand : FnScope ["pool", "pair", "way"] ["pool", "pair"] (defScope s__law_hand) := ⟨rfl, rfl, rfl, by decide +kernel, rfl, by decide +kernel, by decide +kernel⟩
theorem sc__law_like : FnScope ["actual", "due", "k"] ["actual", "due"] (defScope s__law_like) := ⟨rfl, rfl, rfl, by decide +kernel, rfl, by decide +kernel, by decide +kernel⟩
theorem sc__law_kinds : FnScope ["e", "told"] ["e"] (defScope s__law_kinds) := ⟨rfl, rfl, rfl, by decide +kernel, rfl, by decide +kernel, by decide +kernel⟩
theorem sc__law_said : FnScope ["e", "kinds"] ["e"] (defScope s__law_said) := ⟨rfl, rfl, rfl, by decide +kernel, rfl, by decide +kernel, by decide +kernel⟩
theorem sc__law_worth : FnScope ["pool", "kind"] ["pool"] (defScope s__law_worth) := ⟨rfl, rfl, rfl, by decide +kernel, rfl, by decide +kernel, by decide +kernel⟩
theorem sc__law_cost : FnScope ["pool", "kind"] ["pool"] (defScope s__law_cost) := ⟨rfl, rfl, rfl, by decide +kernel, rfl, by decide +kernel, by decide +kernel⟩
theorem sc__law_weight : FnScope ["pool", "most"] ["pool", "most"] (defScope s__law_weight) := ⟨rfl, rfl, rfl, by decide +kernel, rfl, by decide +kernel, by decide +kernel⟩
theorem sc__law_prizes : FnScope ["pool", "many", "worths", "k", "told", "worth", "at", "other"] ["pool", "many"] (defScope s__law_prizes) := ⟨rfl, rfl, rfl, by decide +kernel, rfl, by decide +kernel, by decide +kernel⟩
theorem sc__law_boxes : FnScope ["pool", "many", "most", "told", "k"] ["pool", "many", "most"] (defScope s__law_boxes) := ⟨rfl, rfl, rfl, by decide +kernel, rfl, by decide +kernel, by decide +kernel⟩
theorem sc__law_rows : FnScope ["pool", "boxes", "rows", "box", "prizes", "prize"] ["pool", "boxes"] (defScope s__law_rows) := ⟨rfl, rfl, rfl, by decide +kernel, rfl, by decide +kernel, by decide +kernel⟩
theorem sc__law_spoil : FnScope ["rows", "k", "row"] ["rows"] (defScope s__law_spoil) := ⟨rfl, rfl, rfl, by decide +kernel, rfl, by decide +kernel, by decide +kernel⟩
theorem sc__law_ask : FnScope ["rows", "e"] ["rows"] (defScope s__law_ask) := ⟨rfl, rfl, rfl, by decide +kernel, rfl, by decide +kernel, by decide +kernel⟩
theorem sc__law_rows_right : FnScope ["made", "boxes", "k", "row", "j", "pair"] ["made", "boxes"] (defScope s__law_rows_right) := ⟨rfl, rfl, rfl, by decide +kernel, rfl, by decide +kernel, by decide +kernel⟩
theorem sc__law_no_number : FnScope ["pool", "kind"] ["pool"] (defScope s__law_no_number) := ⟨rfl, rfl, rfl, by decide +kernel, rfl, by decide +kernel, by decide +kernel⟩
theorem sc__law_no_row : FnScope ["pool", "box", "cost", "prizes", "at", "kind", "prize"] ["pool", "box"] (defScope s__law_no_row) := ⟨rfl, rfl, rfl, by decide +kernel, rfl, by decide +kernel, by decide +kernel⟩
theorem sc__law_wrong_row : FnScope ["pool", "boxes", "rows", "at", "told"] ["pool", "boxes"] (defScope s__law_wrong_row) := ⟨rfl, rfl, rfl, by decide +kernel, rfl, by decide +kernel, by decide +kernel⟩
theorem sc__law_wrong_whole : FnScope ["pool", "boxes", "wrong", "told", "rows", "k"] ["pool", "boxes"] (defScope s__law_wrong_whole) := ⟨rfl, rfl, rfl, by decide +kernel, rfl, by decide +kernel, by decide +kernel⟩
theorem sc__law_bent : FnScope ["pool", "boxes", "told", "at", "cost", "prizes", "j", "kind", "box"] ["pool", "boxes"] (defScope s__law_bent) := ⟨rfl, rfl, rfl, by decide +kernel, rfl, by decide +kernel, by decide +kernel⟩
theorem sc__law_unchanged : FnScope ["rows", "boxes", "k", "j"] ["rows", "boxes"] (defScope s__law_unchanged) := ⟨rfl, rfl, rfl, by decide +kernel, rfl, by decide +kernel, by decide +kernel⟩
theorem sc__law_plain : FnScope ["boxes", "box"] ["boxes"] (defScope s__law_plain) := ⟨rfl, rfl, rfl, by decide +kernel, rfl, by decide +kernel, by decide +kernel⟩
theorem sc_law : FnScope ["script", "pool", "boxes", "rows", "made", "turn", "twin", "thing", "bent", "same", "other"] ["script"] (defScope s_law) := ⟨rfl, rfl, rfl, by decide +kernel, rfl, by decide +kernel, by decide +kernel⟩
def asked_ : List Str := ["InvalidFraction", "InvalidProject", "Endless", "WrongSize", "InvalidStanding", "InvalidDeed", "InvalidPlan", "NoEnd", "TooMany", "InvalidText", "NothingToUndo", "NoExchange", "InvalidFamily", "NotClosed", "NotNested", "InvalidCertificate"]
def clsN : Nat → Str
  | 0 => "Boxes"
  | _ => "Boxes"
structure Tx (K : PySem.W.Frag) (mg : Str → Option Value) : Prop where
  g_is_integer : mg "is_integer" = some (.ref (He.ga K "is_integer"))
  g_is_between : mg "is_between" = some (.ref (He.ga K "is_between"))
  g_is_sequence : mg "is_sequence" = some (.ref (He.ga K "is_sequence"))
  g_as_frac : mg "as_frac" = some (.ref (He.ga K "as_frac"))
  g_is_amount : mg "is_amount" = some (.ref (He.ga K "is_amount"))
  g_is_shown : mg "is_shown" = some (.ref (He.ga K "is_shown"))
  g_are_prizes : mg "are_prizes" = some (.ref (He.ga K "are_prizes"))
  g_is_box : mg "is_box" = some (.ref (He.ga K "is_box"))
  g__law_pool : mg "_law_pool" = some (.ref (He.ga K "_law_pool"))
  g__law_take : mg "_law_take" = some (.ref (He.ga K "_law_take"))
  g__law_low : mg "_law_low" = some (.ref (He.ga K "_law_low"))
  g__law_below : mg "_law_below" = some (.ref (He.ga K "_law_below"))
  g__law_is : mg "_law_is" = some (.ref (He.ga K "_law_is"))
  g__law_hand : mg "_law_hand" = some (.ref (He.ga K "_law_hand"))
  g__law_like : mg "_law_like" = some (.ref (He.ga K "_law_like"))
  g__law_kinds : mg "_law_kinds" = some (.ref (He.ga K "_law_kinds"))
  g__law_said : mg "_law_said" = some (.ref (He.ga K "_law_said"))
  g__law_worth : mg "_law_worth" = some (.ref (He.ga K "_law_worth"))
  g__law_cost : mg "_law_cost" = some (.ref (He.ga K "_law_cost"))
  g__law_weight : mg "_law_weight" = some (.ref (He.ga K "_law_weight"))
  g__law_prizes : mg "_law_prizes" = some (.ref (He.ga K "_law_prizes"))
  g__law_boxes : mg "_law_boxes" = some (.ref (He.ga K "_law_boxes"))
  g__law_rows : mg "_law_rows" = some (.ref (He.ga K "_law_rows"))
  g__law_spoil : mg "_law_spoil" = some (.ref (He.ga K "_law_spoil"))
  g__law_ask : mg "_law_ask" = some (.ref (He.ga K "_law_ask"))
  g__law_rows_right : mg "_law_rows_right" = some (.ref (He.ga K "_law_rows_right"))
  g__law_no_number : mg "_law_no_number" = some (.ref (He.ga K "_law_no_number"))
  g__law_no_row : mg "_law_no_row" = some (.ref (He.ga K "_law_no_row"))
  g__law_wrong_row : mg "_law_wrong_row" = some (.ref (He.ga K "_law_wrong_row"))
  g__law_wrong_whole : mg "_law_wrong_whole" = some (.ref (He.ga K "_law_wrong_whole"))
  g__law_bent : mg "_law_bent" = some (.ref (He.ga K "_law_bent"))
  g__law_unchanged : mg "_law_unchanged" = some (.ref (He.ga K "_law_unchanged"))
  g__law_plain : mg "_law_plain" = some (.ref (He.ga K "_law_plain"))
  g_law : mg "law" = some (.ref (He.ga K "law"))
  g_Frac : mg "Frac" = some (.ref (He.ga K "Frac"))
  g_Boxes : mg "Boxes" = some (.ref (He.ga K "Boxes"))
  b_ValueError : mg "ValueError" = none
  b_abs : mg "abs" = none
  b_all : mg "all" = none
  b_bool : mg "bool" = none
  b_enumerate : mg "enumerate" = none
  b_int : mg "int" = none
  b_isinstance : mg "isinstance" = none
  b_len : mg "len" = none
  b_list : mg "list" = none
  b_range : mg "range" = none
  b_str : mg "str" = none
  b_tuple : mg "tuple" = none
  i_MOST_OVER : ∃ t, mg "MOST_OVER" = some (.int 9999 t)
  i_MOST_UNDER : ∃ t, mg "MOST_UNDER" = some (.int 99 t)
  i_MOST_SHOWN_WEIGHT : ∃ t, mg "MOST_SHOWN_WEIGHT" = some (.int 99 t)
  i_MOST_BOXES : ∃ t, mg "MOST_BOXES" = some (.int 4 t)
  i_MOST_PRIZES : ∃ t, mg "MOST_PRIZES" = some (.int 4 t)
  gcd : mg "gcd" = some (.builtin "math.gcd")
  d_InvalidProjectD_initD : ∃ fd, FunD K "__init__" "InvalidProject.__init__" (defArgs s_InvalidProjectD_initD) (defBody s_InvalidProjectD_initD) (defScope s_InvalidProjectD_initD) [] [] (He.fAd K ("InvalidProject", some "__init__")) fd
  d_WrongSizeD_initD : ∃ fd, FunD K "__init__" "WrongSize.__init__" (defArgs s_WrongSizeD_initD) (defBody s_WrongSizeD_initD) (defScope s_WrongSizeD_initD) [] [] (He.fAd K ("WrongSize", some "__init__")) fd
  d_is_integer : ∃ fd, FunD K "is_integer" "is_integer" (defArgs s_is_integer) (defBody s_is_integer) (defScope s_is_integer) [] [] (He.fAd K ("is_integer", none)) fd
  d_is_between : ∃ fd, FunD K "is_between" "is_between" (defArgs s_is_between) (defBody s_is_between) (defScope s_is_between) [] [] (He.fAd K ("is_between", none)) fd
  d_is_sequence : ∃ fd, FunD K "is_sequence" "is_sequence" (defArgs s_is_sequence) (defBody s_is_sequence) (defScope s_is_sequence) [] [] (He.fAd K ("is_sequence", none)) fd
  d_FracD_initD : ∃ fd, FunD K "__init__" "Frac.__init__" (defArgs s_FracD_initD) (defBody s_FracD_initD) (defScope s_FracD_initD) [.int 1] [] (He.fAd K ("Frac", some "__init__")) fd
  d_FracD_eqD : ∃ fd, FunD K "__eq__" "Frac.__eq__" (defArgs s_FracD_eqD) (defBody s_FracD_eqD) (defScope s_FracD_eqD) [] [] (He.fAd K ("Frac", some "__eq__")) fd
  d_Frac_is_below : ∃ fd, FunD K "is_below" "Frac.is_below" (defArgs s_Frac_is_below) (defBody s_Frac_is_below) (defScope s_Frac_is_below) [] [] (He.fAd K ("Frac", some "is_below")) fd
  d_as_frac : ∃ fd, FunD K "as_frac" "as_frac" (defArgs s_as_frac) (defBody s_as_frac) (defScope s_as_frac) [] [] (He.fAd K ("as_frac", none)) fd
  d_is_amount : ∃ fd, FunD K "is_amount" "is_amount" (defArgs s_is_amount) (defBody s_is_amount) (defScope s_is_amount) [] [] (He.fAd K ("is_amount", none)) fd
  d_is_shown : ∃ fd, FunD K "is_shown" "is_shown" (defArgs s_is_shown) (defBody s_is_shown) (defScope s_is_shown) [] [] (He.fAd K ("is_shown", none)) fd
  d_are_prizes : ∃ fd, FunD K "are_prizes" "are_prizes" (defArgs s_are_prizes) (defBody s_are_prizes) (defScope s_are_prizes) [] [] (He.fAd K ("are_prizes", none)) fd
  d_is_box : ∃ fd, FunD K "is_box" "is_box" (defArgs s_is_box) (defBody s_is_box) (defScope s_is_box) [] [] (He.fAd K ("is_box", none)) fd
  d_BoxesD_initD : ∃ fd, FunD K "__init__" "Boxes.__init__" (defArgs s_BoxesD_initD) (defBody s_BoxesD_initD) (defScope s_BoxesD_initD) [] [] (He.fAd K ("Boxes", some "__init__")) fd
  d_BoxesD_lenD : ∃ fd, FunD K "__len__" "Boxes.__len__" (defArgs s_BoxesD_lenD) (defBody s_BoxesD_lenD) (defScope s_BoxesD_lenD) [] [] (He.fAd K ("Boxes", some "__len__")) fd
  d_BoxesD_eqD : ∃ fd, FunD K "__eq__" "Boxes.__eq__" (defArgs s_BoxesD_eqD) (defBody s_BoxesD_eqD) (defScope s_BoxesD_eqD) [] [] (He.fAd K ("Boxes", some "__eq__")) fd
  d__law_pool : ∃ fd, FunD K "_law_pool" "_law_pool" (defArgs s__law_pool) (defBody s__law_pool) (defScope s__law_pool) [] [] (He.fAd K ("_law_pool", none)) fd
  d__law_take : ∃ fd, FunD K "_law_take" "_law_take" (defArgs s__law_take) (defBody s__law_take) (defScope s__law_take) [] [] (He.fAd K ("_law_take", none)) fd
  d__law_low : ∃ fd, FunD K "_law_low" "_law_low" (defArgs s__law_low) (defBody s__law_low) (defScope s__law_low) [] [] (He.fAd K ("_law_low", none)) fd
  d__law_below : ∃ fd, FunD K "_law_below" "_law_below" (defArgs s__law_below) (defBody s__law_below) (defScope s__law_below) [] [] (He.fAd K ("_law_below", none)) fd
  d__law_is : ∃ fd, FunD K "_law_is" "_law_is" (defArgs s__law_is) (defBody s__law_is) (defScope s__law_is) [] [] (He.fAd K ("_law_is", none)) fd
  d__law_hand : ∃ fd, FunD K "_law_hand" "_law_hand" (defArgs s__law_hand) (defBody s__law_hand) (defScope s__law_hand) [] [] (He.fAd K ("_law_hand", none)) fd
  d__law_like : ∃ fd, FunD K "_law_like" "_law_like" (defArgs s__law_like) (defBody s__law_like) (defScope s__law_like) [] [] (He.fAd K ("_law_like", none)) fd
  d__law_kinds : ∃ fd, FunD K "_law_kinds" "_law_kinds" (defArgs s__law_kinds) (defBody s__law_kinds) (defScope s__law_kinds) [] [] (He.fAd K ("_law_kinds", none)) fd
  d__law_said : ∃ fd, FunD K "_law_said" "_law_said" (defArgs s__law_said) (defBody s__law_said) (defScope s__law_said) [] [] (He.fAd K ("_law_said", none)) fd
  d__law_worth : ∃ fd, FunD K "_law_worth" "_law_worth" (defArgs s__law_worth) (defBody s__law_worth) (defScope s__law_worth) [] [] (He.fAd K ("_law_worth", none)) fd
  d__law_cost : ∃ fd, FunD K "_law_cost" "_law_cost" (defArgs s__law_cost) (defBody s__law_cost) (defScope s__law_cost) [] [] (He.fAd K ("_law_cost", none)) fd
  d__law_weight : ∃ fd, FunD K "_law_weight" "_law_weight" (defArgs s__law_weight) (defBody s__law_weight) (defScope s__law_weight) [] [] (He.fAd K ("_law_weight", none)) fd
  d__law_prizes : ∃ fd, FunD K "_law_prizes" "_law_prizes" (defArgs s__law_prizes) (defBody s__law_prizes) (defScope s__law_prizes) [] [] (He.fAd K ("_law_prizes", none)) fd
  d__law_boxes : ∃ fd, FunD K "_law_boxes" "_law_boxes" (defArgs s__law_boxes) (defBody s__law_boxes) (defScope s__law_boxes) [] [] (He.fAd K ("_law_boxes", none)) fd
  d__law_rows : ∃ fd, FunD K "_law_rows" "_law_rows" (defArgs s__law_rows) (defBody s__law_rows) (defScope s__law_rows) [] [] (He.fAd K ("_law_rows", none)) fd
  d__law_spoil : ∃ fd, FunD K "_law_spoil" "_law_spoil" (defArgs s__law_spoil) (defBody s__law_spoil) (defScope s__law_spoil) [] [] (He.fAd K ("_law_spoil", none)) fd
  d__law_ask : ∃ fd, FunD K "_law_ask" "_law_ask" (defArgs s__law_ask) (defBody s__law_ask) (defScope s__law_ask) [] [] (He.fAd K ("_law_ask", none)) fd
  d__law_rows_right : ∃ fd, FunD K "_law_rows_right" "_law_rows_right" (defArgs s__law_rows_right) (defBody s__law_rows_right) (defScope s__law_rows_right) [] [] (He.fAd K ("_law_rows_right", none)) fd
  d__law_no_number : ∃ fd, FunD K "_law_no_number" "_law_no_number" (defArgs s__law_no_number) (defBody s__law_no_number) (defScope s__law_no_number) [] [] (He.fAd K ("_law_no_number", none)) fd
  d__law_no_row : ∃ fd, FunD K "_law_no_row" "_law_no_row" (defArgs s__law_no_row) (defBody s__law_no_row) (defScope s__law_no_row) [] [] (He.fAd K ("_law_no_row", none)) fd
  d__law_wrong_row : ∃ fd, FunD K "_law_wrong_row" "_law_wrong_row" (defArgs s__law_wrong_row) (defBody s__law_wrong_row) (defScope s__law_wrong_row) [] [] (He.fAd K ("_law_wrong_row", none)) fd
  d__law_wrong_whole : ∃ fd, FunD K "_law_wrong_whole" "_law_wrong_whole" (defArgs s__law_wrong_whole) (defBody s__law_wrong_whole) (defScope s__law_wrong_whole) [] [] (He.fAd K ("_law_wrong_whole", none)) fd
  d__law_bent : ∃ fd, FunD K "_law_bent" "_law_bent" (defArgs s__law_bent) (defBody s__law_bent) (defScope s__law_bent) [] [] (He.fAd K ("_law_bent", none)) fd
  d__law_unchanged : ∃ fd, FunD K "_law_unchanged" "_law_unchanged" (defArgs s__law_unchanged) (defBody s__law_unchanged) (defScope s__law_unchanged) [] [] (He.fAd K ("_law_unchanged", none)) fd
  d__law_plain : ∃ fd, FunD K "_law_plain" "_law_plain" (defArgs s__law_plain) (defBody s__law_plain) (defScope s__law_plain) [] [] (He.fAd K ("_law_plain", none)) fd
  d_law : ∃ fd, FunD K "law" "law" (defArgs s_law) (defBody s_law) (defScope s_law) [] [] (He.fAd K ("law", none)) fd
  cl_Frac : Cls K (He.ga K "Frac")
  no_Frac_num : NoAttr K (He.ga K "Frac") "num"
  no_Frac_den : NoAttr K (He.ga K "Frac") "den"
  m_Frac_is_below : Meth K (He.ga K "Frac") "is_below" (He.ma K (He.ga K "Frac") "is_below")
  mk_Frac : Mk K (He.ga K "Frac") (He.ma K (He.ga K "Frac") "__init__")
  ins_Frac : InsF K (He.ga K "Frac")
  sp_Frac_eq : PySem.W.findIn K (.ref (He.ga K "Frac")) "__eq__" = some (some (.ref (He.ma K (He.ga K "Frac") "__eq__"))) ∧ PySem.W.isFn K (.ref (He.ma K (He.ga K "Frac") "__eq__")) = true
  kit_Frac_NoneType : PySem.W.kitOne K (.ref (He.ga K "Frac")) (.type "NoneType") = some false
  tik_Frac_NoneType : PySem.W.kitOne K (.type "NoneType") (.ref (He.ga K "Frac")) = some false
  kit_Frac_bool : PySem.W.kitOne K (.ref (He.ga K "Frac")) (.type "bool") = some false
  tik_Frac_bool : PySem.W.kitOne K (.type "bool") (.ref (He.ga K "Frac")) = some false
  kit_Frac_int : PySem.W.kitOne K (.ref (He.ga K "Frac")) (.type "int") = some false
  tik_Frac_int : PySem.W.kitOne K (.type "int") (.ref (He.ga K "Frac")) = some false
  kit_Frac_str : PySem.W.kitOne K (.ref (He.ga K "Frac")) (.type "str") = some false
  tik_Frac_str : PySem.W.kitOne K (.type "str") (.ref (He.ga K "Frac")) = some false
  kit_Frac_list : PySem.W.kitOne K (.ref (He.ga K "Frac")) (.type "list") = some false
  tik_Frac_list : PySem.W.kitOne K (.type "list") (.ref (He.ga K "Frac")) = some false
  kit_Frac_tuple : PySem.W.kitOne K (.ref (He.ga K "Frac")) (.type "tuple") = some false
  tik_Frac_tuple : PySem.W.kitOne K (.type "tuple") (.ref (He.ga K "Frac")) = some false
  kit_Frac_dict : PySem.W.kitOne K (.ref (He.ga K "Frac")) (.type "dict") = some false
  tik_Frac_dict : PySem.W.kitOne K (.type "dict") (.ref (He.ga K "Frac")) = some false
  kic_Frac_Frac : PySem.W.kitOne K (.ref (He.ga K "Frac")) (.ref (He.ga K "Frac")) = some true
  kic_Frac_Boxes : PySem.W.kitOne K (.ref (He.ga K "Frac")) (.ref (He.ga K "Boxes")) = some false
  cl_Boxes : Cls K (He.ga K "Boxes")
  no_Boxes_rows : NoAttr K (He.ga K "Boxes") "rows"
  mk_Boxes : Mk K (He.ga K "Boxes") (He.ma K (He.ga K "Boxes") "__init__")
  ins_Boxes : InsF K (He.ga K "Boxes")
  sp_Boxes_len : PySem.W.findIn K (.ref (He.ga K "Boxes")) "__len__" = some (some (.ref (He.ma K (He.ga K "Boxes") "__len__"))) ∧ PySem.W.isFn K (.ref (He.ma K (He.ga K "Boxes") "__len__")) = true
  sp_Boxes_eq : PySem.W.findIn K (.ref (He.ga K "Boxes")) "__eq__" = some (some (.ref (He.ma K (He.ga K "Boxes") "__eq__"))) ∧ PySem.W.isFn K (.ref (He.ma K (He.ga K "Boxes") "__eq__")) = true
  kit_Boxes_NoneType : PySem.W.kitOne K (.ref (He.ga K "Boxes")) (.type "NoneType") = some false
  tik_Boxes_NoneType : PySem.W.kitOne K (.type "NoneType") (.ref (He.ga K "Boxes")) = some false
  kit_Boxes_bool : PySem.W.kitOne K (.ref (He.ga K "Boxes")) (.type "bool") = some false
  tik_Boxes_bool : PySem.W.kitOne K (.type "bool") (.ref (He.ga K "Boxes")) = some false
  kit_Boxes_int : PySem.W.kitOne K (.ref (He.ga K "Boxes")) (.type "int") = some false
  tik_Boxes_int : PySem.W.kitOne K (.type "int") (.ref (He.ga K "Boxes")) = some false
  kit_Boxes_str : PySem.W.kitOne K (.ref (He.ga K "Boxes")) (.type "str") = some false
  tik_Boxes_str : PySem.W.kitOne K (.type "str") (.ref (He.ga K "Boxes")) = some false
  kit_Boxes_list : PySem.W.kitOne K (.ref (He.ga K "Boxes")) (.type "list") = some false
  tik_Boxes_list : PySem.W.kitOne K (.type "list") (.ref (He.ga K "Boxes")) = some false
  kit_Boxes_tuple : PySem.W.kitOne K (.ref (He.ga K "Boxes")) (.type "tuple") = some false
  tik_Boxes_tuple : PySem.W.kitOne K (.type "tuple") (.ref (He.ga K "Boxes")) = some false
  kit_Boxes_dict : PySem.W.kitOne K (.ref (He.ga K "Boxes")) (.type "dict") = some false
  tik_Boxes_dict : PySem.W.kitOne K (.type "dict") (.ref (He.ga K "Boxes")) = some false
  kic_Boxes_Frac : PySem.W.kitOne K (.ref (He.ga K "Boxes")) (.ref (He.ga K "Frac")) = some false
  kic_Boxes_Boxes : PySem.W.kitOne K (.ref (He.ga K "Boxes")) (.ref (He.ga K "Boxes")) = some true
  er_InvalidProject : ErC K "InvalidProject" ["state"]
  exm_InvalidProject : PySem.W.exmOne K (.ref (He.ga K "InvalidProject")) (.ref (He.ga K "NextError")) = some true
  kx_InvalidProject_InvalidFraction : PySem.W.kitOne K (.ref (He.ga K "InvalidProject")) (.ref (He.ga K "InvalidFraction")) = some false
  kx_InvalidProject_InvalidProject : PySem.W.kitOne K (.ref (He.ga K "InvalidProject")) (.ref (He.ga K "InvalidProject")) = some true
  kx_InvalidProject_Endless : PySem.W.kitOne K (.ref (He.ga K "InvalidProject")) (.ref (He.ga K "Endless")) = some false
  kx_InvalidProject_WrongSize : PySem.W.kitOne K (.ref (He.ga K "InvalidProject")) (.ref (He.ga K "WrongSize")) = some false
  kx_InvalidProject_InvalidStanding : PySem.W.kitOne K (.ref (He.ga K "InvalidProject")) (.ref (He.ga K "InvalidStanding")) = some false
  kx_InvalidProject_InvalidDeed : PySem.W.kitOne K (.ref (He.ga K "InvalidProject")) (.ref (He.ga K "InvalidDeed")) = some false
  kx_InvalidProject_InvalidPlan : PySem.W.kitOne K (.ref (He.ga K "InvalidProject")) (.ref (He.ga K "InvalidPlan")) = some false
  kx_InvalidProject_NoEnd : PySem.W.kitOne K (.ref (He.ga K "InvalidProject")) (.ref (He.ga K "NoEnd")) = some false
  kx_InvalidProject_TooMany : PySem.W.kitOne K (.ref (He.ga K "InvalidProject")) (.ref (He.ga K "TooMany")) = some false
  kx_InvalidProject_InvalidText : PySem.W.kitOne K (.ref (He.ga K "InvalidProject")) (.ref (He.ga K "InvalidText")) = some false
  kx_InvalidProject_NothingToUndo : PySem.W.kitOne K (.ref (He.ga K "InvalidProject")) (.ref (He.ga K "NothingToUndo")) = some false
  kx_InvalidProject_NoExchange : PySem.W.kitOne K (.ref (He.ga K "InvalidProject")) (.ref (He.ga K "NoExchange")) = some false
  kx_InvalidProject_InvalidFamily : PySem.W.kitOne K (.ref (He.ga K "InvalidProject")) (.ref (He.ga K "InvalidFamily")) = some false
  kx_InvalidProject_NotClosed : PySem.W.kitOne K (.ref (He.ga K "InvalidProject")) (.ref (He.ga K "NotClosed")) = some false
  kx_InvalidProject_NotNested : PySem.W.kitOne K (.ref (He.ga K "InvalidProject")) (.ref (He.ga K "NotNested")) = some false
  kx_InvalidProject_InvalidCertificate : PySem.W.kitOne K (.ref (He.ga K "InvalidProject")) (.ref (He.ga K "InvalidCertificate")) = some false
  kev_InvalidProject : PySem.W.kitOne K (.ref (He.ga K "InvalidProject")) (.type "ValueError") = some true
  er_WrongSize : ErC K "WrongSize" ["many"]
  exm_WrongSize : PySem.W.exmOne K (.ref (He.ga K "WrongSize")) (.ref (He.ga K "NextError")) = some true
  kx_WrongSize_InvalidFraction : PySem.W.kitOne K (.ref (He.ga K "WrongSize")) (.ref (He.ga K "InvalidFraction")) = some false
  kx_WrongSize_InvalidProject : PySem.W.kitOne K (.ref (He.ga K "WrongSize")) (.ref (He.ga K "InvalidProject")) = some false
  kx_WrongSize_Endless : PySem.W.kitOne K (.ref (He.ga K "WrongSize")) (.ref (He.ga K "Endless")) = some false
  kx_WrongSize_WrongSize : PySem.W.kitOne K (.ref (He.ga K "WrongSize")) (.ref (He.ga K "WrongSize")) = some true
  kx_WrongSize_InvalidStanding : PySem.W.kitOne K (.ref (He.ga K "WrongSize")) (.ref (He.ga K "InvalidStanding")) = some false
  kx_WrongSize_InvalidDeed : PySem.W.kitOne K (.ref (He.ga K "WrongSize")) (.ref (He.ga K "InvalidDeed")) = some false
  kx_WrongSize_InvalidPlan : PySem.W.kitOne K (.ref (He.ga K "WrongSize")) (.ref (He.ga K "InvalidPlan")) = some false
  kx_WrongSize_NoEnd : PySem.W.kitOne K (.ref (He.ga K "WrongSize")) (.ref (He.ga K "NoEnd")) = some false
  kx_WrongSize_TooMany : PySem.W.kitOne K (.ref (He.ga K "WrongSize")) (.ref (He.ga K "TooMany")) = some false
  kx_WrongSize_InvalidText : PySem.W.kitOne K (.ref (He.ga K "WrongSize")) (.ref (He.ga K "InvalidText")) = some false
  kx_WrongSize_NothingToUndo : PySem.W.kitOne K (.ref (He.ga K "WrongSize")) (.ref (He.ga K "NothingToUndo")) = some false
  kx_WrongSize_NoExchange : PySem.W.kitOne K (.ref (He.ga K "WrongSize")) (.ref (He.ga K "NoExchange")) = some false
  kx_WrongSize_InvalidFamily : PySem.W.kitOne K (.ref (He.ga K "WrongSize")) (.ref (He.ga K "InvalidFamily")) = some false
  kx_WrongSize_NotClosed : PySem.W.kitOne K (.ref (He.ga K "WrongSize")) (.ref (He.ga K "NotClosed")) = some false
  kx_WrongSize_NotNested : PySem.W.kitOne K (.ref (He.ga K "WrongSize")) (.ref (He.ga K "NotNested")) = some false
  kx_WrongSize_InvalidCertificate : PySem.W.kitOne K (.ref (He.ga K "WrongSize")) (.ref (He.ga K "InvalidCertificate")) = some false
  kev_WrongSize : PySem.W.kitOne K (.ref (He.ga K "WrongSize")) (.type "ValueError") = some true
  g_InvalidFraction : mg "InvalidFraction" = some (.ref (He.ga K "InvalidFraction"))
  g_InvalidProject : mg "InvalidProject" = some (.ref (He.ga K "InvalidProject"))
  g_Endless : mg "Endless" = some (.ref (He.ga K "Endless"))
  g_WrongSize : mg "WrongSize" = some (.ref (He.ga K "WrongSize"))
  g_InvalidStanding : mg "InvalidStanding" = some (.ref (He.ga K "InvalidStanding"))
  g_InvalidDeed : mg "InvalidDeed" = some (.ref (He.ga K "InvalidDeed"))
  g_InvalidPlan : mg "InvalidPlan" = some (.ref (He.ga K "InvalidPlan"))
  g_NoEnd : mg "NoEnd" = some (.ref (He.ga K "NoEnd"))
  g_TooMany : mg "TooMany" = some (.ref (He.ga K "TooMany"))
  g_InvalidText : mg "InvalidText" = some (.ref (He.ga K "InvalidText"))
  g_NothingToUndo : mg "NothingToUndo" = some (.ref (He.ga K "NothingToUndo"))
  g_NoExchange : mg "NoExchange" = some (.ref (He.ga K "NoExchange"))
  g_InvalidFamily : mg "InvalidFamily" = some (.ref (He.ga K "InvalidFamily"))
  g_NotClosed : mg "NotClosed" = some (.ref (He.ga K "NotClosed"))
  g_NotNested : mg "NotNested" = some (.ref (He.ga K "NotNested"))
  g_InvalidCertificate : mg "InvalidCertificate" = some (.ref (He.ga K "InvalidCertificate"))
  g_NextError : mg "NextError" = some (.ref (He.ga K "NextError"))
end K
end

section
set_option maxRecDepth 100000
set_option maxHeartbeats 0
namespace KH
open PySem PySem.Spec PyProof.Rows L2 G K
def fn : List He.DefD := [⟨("InvalidProject", some "__init__"), "__init__", "InvalidProject.__init__", defArgs s_InvalidProjectD_initD, defBody s_InvalidProjectD_initD, defScope s_InvalidProjectD_initD, [], []⟩,
  ⟨("WrongSize", some "__init__"), "__init__", "WrongSize.__init__", defArgs s_WrongSizeD_initD, defBody s_WrongSizeD_initD, defScope s_WrongSizeD_initD, [], []⟩,
  ⟨("is_integer", none), "is_integer", "is_integer", defArgs s_is_integer, defBody s_is_integer, defScope s_is_integer, [], []⟩,
  ⟨("is_between", none), "is_between", "is_between", defArgs s_is_between, defBody s_is_between, defScope s_is_between, [], []⟩,
  ⟨("is_sequence", none), "is_sequence", "is_sequence", defArgs s_is_sequence, defBody s_is_sequence, defScope s_is_sequence, [], []⟩,
  ⟨("Frac", some "__init__"), "__init__", "Frac.__init__", defArgs s_FracD_initD, defBody s_FracD_initD, defScope s_FracD_initD, [.int 1], []⟩,
  ⟨("Frac", some "__eq__"), "__eq__", "Frac.__eq__", defArgs s_FracD_eqD, defBody s_FracD_eqD, defScope s_FracD_eqD, [], []⟩,
  ⟨("Frac", some "is_below"), "is_below", "Frac.is_below", defArgs s_Frac_is_below, defBody s_Frac_is_below, defScope s_Frac_is_below, [], []⟩,
  ⟨("as_frac", none), "as_frac", "as_frac", defArgs s_as_frac, defBody s_as_frac, defScope s_as_frac, [], []⟩,
  ⟨("is_amount", none), "is_amount", "is_amount", defArgs s_is_amount, defBody s_is_amount, defScope s_is_amount, [], []⟩,
  ⟨("is_shown", none), "is_shown", "is_shown", defArgs s_is_shown, defBody s_is_shown, defScope s_is_shown, [], []⟩,
  ⟨("are_prizes", none), "are_prizes", "are_prizes", defArgs s_are_prizes, defBody s_are_prizes, defScope s_are_prizes, [], []⟩,
  ⟨("is_box", none), "is_box", "is_box", defArgs s_is_box, defBody s_is_box, defScope s_is_box, [], []⟩,
  ⟨("Boxes", some "__init__"), "__init__", "Boxes.__init__", defArgs s_BoxesD_initD, defBody s_BoxesD_initD, defScope s_BoxesD_initD, [], []⟩,
  ⟨("Boxes", some "__len__"), "__len__", "Boxes.__len__", defArgs s_BoxesD_lenD, defBody s_BoxesD_lenD, defScope s_BoxesD_lenD, [], []⟩,
  ⟨("Boxes", some "__eq__"), "__eq__", "Boxes.__eq__", defArgs s_BoxesD_eqD, defBody s_BoxesD_eqD, defScope s_BoxesD_eqD, [], []⟩,
  ⟨("_law_pool", none), "_law_pool", "_law_pool", defArgs s__law_pool, defBody s__law_pool, defScope s__law_pool, [], []⟩,
  ⟨("_law_take", none), "_law_take", "_law_take", defArgs s__law_take, defBody s__law_take, defScope s__law_take, [], []⟩,
  ⟨("_law_low", none), "_law_low", "_law_low", defArgs s__law_low, defBody s__law_low, defScope s__law_low, [], []⟩,
  ⟨("_law_below", none), "_law_below", "_law_below", defArgs s__law_below, defBody s__law_below, defScope s__law_below, [], []⟩,
  ⟨("_law_is", none), "_law_is", "_law_is", defArgs s__law_is, defBody s__law_is, defScope s__law_is, [], []⟩,
  ⟨("_law_hand", none), "_law_hand", "_law_hand", defArgs s__law_hand, defBody s__law_hand, defScope s__law_hand, [], []⟩,
  ⟨("_law_like", none), "_law_like", "_law_like", defArgs s__law_like, defBody s__law_like, defScope s__law_like, [], []⟩,
  ⟨("_law_kinds", none), "_law_kinds", "_law_kinds", defArgs s__law_kinds, defBody s__law_kinds, defScope s__law_kinds, [], []⟩,
  ⟨("_law_said", none), "_law_said", "_law_said", defArgs s__law_said, defBody s__law_said, defScope s__law_said, [], []⟩,
  ⟨("_law_worth", none), "_law_worth", "_law_worth", defArgs s__law_worth, defBody s__law_worth, defScope s__law_worth, [], []⟩,
  ⟨("_law_cost", none), "_law_cost", "_law_cost", defArgs s__law_cost, defBody s__law_cost, defScope s__law_cost, [], []⟩,
  ⟨("_law_weight", none), "_law_weight", "_law_weight", defArgs s__law_weight, defBody s__law_weight, defScope s__law_weight, [], []⟩,
  ⟨("_law_prizes", none), "_law_prizes", "_law_prizes", defArgs s__law_prizes, defBody s__law_prizes, defScope s__law_prizes, [], []⟩,
  ⟨("_law_boxes", none), "_law_boxes", "_law_boxes", defArgs s__law_boxes, defBody s__law_boxes, defScope s__law_boxes, [], []⟩,
  ⟨("_law_rows", none), "_law_rows", "_law_rows", defArgs s__law_rows, defBody s__law_rows, defScope s__law_rows, [], []⟩,
  ⟨("_law_spoil", none), "_law_spoil", "_law_spoil", defArgs s__law_spoil, defBody s__law_spoil, defScope s__law_spoil, [], []⟩,
  ⟨("_law_ask", none), "_law_ask", "_law_ask", defArgs s__law_ask, defBody s__law_ask, defScope s__law_ask, [], []⟩,
  ⟨("_law_rows_right", none), "_law_rows_right", "_law_rows_right", defArgs s__law_rows_right, defBody s__law_rows_right, defScope s__law_rows_right, [], []⟩,
  ⟨("_law_no_number", none), "_law_no_number", "_law_no_number", defArgs s__law_no_number, defBody s__law_no_number, defScope s__law_no_number, [], []⟩,
  ⟨("_law_no_row", none), "_law_no_row", "_law_no_row", defArgs s__law_no_row, defBody s__law_no_row, defScope s__law_no_row, [], []⟩,
  ⟨("_law_wrong_row", none), "_law_wrong_row", "_law_wrong_row", defArgs s__law_wrong_row, defBody s__law_wrong_row, defScope s__law_wrong_row, [], []⟩,
  ⟨("_law_wrong_whole", none), "_law_wrong_whole", "_law_wrong_whole", defArgs s__law_wrong_whole, defBody s__law_wrong_whole, defScope s__law_wrong_whole, [], []⟩,
  ⟨("_law_bent", none), "_law_bent", "_law_bent", defArgs s__law_bent, defBody s__law_bent, defScope s__law_bent, [], []⟩,
  ⟨("_law_unchanged", none), "_law_unchanged", "_law_unchanged", defArgs s__law_unchanged, defBody s__law_unchanged, defScope s__law_unchanged, [], []⟩,
  ⟨("_law_plain", none), "_law_plain", "_law_plain", defArgs s__law_plain, defBody s__law_plain, defScope s__law_plain, [], []⟩,
  ⟨("law", none), "law", "law", defArgs s_law, defBody s_law, defScope s_law, [], []⟩]
def fa : List He.Fa := [.glo "is_integer", .glo "is_between", .glo "is_sequence", .glo "as_frac", .glo "is_amount", .glo "is_shown", .glo "are_prizes", .glo "is_box", .glo "_law_pool", .glo "_law_take", .glo "_law_low", .glo "_law_below", .glo "_law_is", .glo "_law_hand", .glo "_law_like", .glo "_law_kinds", .glo "_law_said", .glo "_law_worth", .glo "_law_cost", .glo "_law_weight", .glo "_law_prizes", .glo "_law_boxes", .glo "_law_rows", .glo "_law_spoil", .glo "_law_ask", .glo "_law_rows_right", .glo "_law_no_number", .glo "_law_no_row", .glo "_law_wrong_row", .glo "_law_wrong_whole", .glo "_law_bent", .glo "_law_unchanged", .glo "_law_plain", .glo "law", .glo "Frac", .glo "Boxes", .free "ValueError", .free "abs", .free "all", .free "bool", .free "enumerate", .free "int", .free "isinstance", .free "len", .free "list", .free "range", .free "str", .free "tuple", .int "MOST_OVER" 9999, .int "MOST_UNDER" 99, .int "MOST_SHOWN_WEIGHT" 99, .int "MOST_BOXES" 4, .int "MOST_PRIZES" 4, .cls "Frac", .noat "Frac" "num", .noat "Frac" "den", .meth "Frac" "is_below", .mkr "Frac", .cls "Boxes", .noat "Boxes" "rows", .mkr "Boxes", .glo "InvalidFraction", .glo "InvalidProject", .glo "Endless", .glo "WrongSize", .glo "InvalidStanding", .glo "InvalidDeed", .glo "InvalidPlan", .glo "NoEnd", .glo "TooMany", .glo "InvalidText", .glo "NothingToUndo", .glo "NoExchange", .glo "InvalidFamily", .glo "NotClosed", .glo "NotNested", .glo "InvalidCertificate", .glo "NextError"]
def chk (K : PySem.W.Frag) : List Bool := [He.eqO (PySem.W.nsIn K mainGlobals "gcd") (some (some (.builtin "math.gcd"))),
  He.eqO (PySem.W.findIn K (.ref (He.ga K "Frac")) "__class__") (some (some (.builtin "object.__class__"))),
  He.eqO (PySem.W.specialIn K (.builtin "object.__class__") "__get__") (some (some (.builtin "getset_descriptor.__get__"))),
  decide (PySem.W.takesIn K (.builtin "object.__class__") = some true),
  decide (PySem.W.mroIn K (He.ga K "Frac") (.type "object") = some true),
  He.eqO (PySem.W.findIn K (.ref (He.ga K "Frac")) "__eq__") (some (some (.ref (He.ma K (He.ga K "Frac") "__eq__")))),
  PySem.W.isFn K (.ref (He.ma K (He.ga K "Frac") "__eq__")),
  decide (PySem.W.kitOne K (.ref (He.ga K "Frac")) (.type "NoneType") = some false),
  decide (PySem.W.kitOne K (.type "NoneType") (.ref (He.ga K "Frac")) = some false),
  decide (PySem.W.kitOne K (.ref (He.ga K "Frac")) (.type "bool") = some false),
  decide (PySem.W.kitOne K (.type "bool") (.ref (He.ga K "Frac")) = some false),
  decide (PySem.W.kitOne K (.ref (He.ga K "Frac")) (.type "int") = some false),
  decide (PySem.W.kitOne K (.type "int") (.ref (He.ga K "Frac")) = some false),
  decide (PySem.W.kitOne K (.ref (He.ga K "Frac")) (.type "str") = some false),
  decide (PySem.W.kitOne K (.type "str") (.ref (He.ga K "Frac")) = some false),
  decide (PySem.W.kitOne K (.ref (He.ga K "Frac")) (.type "list") = some false),
  decide (PySem.W.kitOne K (.type "list") (.ref (He.ga K "Frac")) = some false),
  decide (PySem.W.kitOne K (.ref (He.ga K "Frac")) (.type "tuple") = some false),
  decide (PySem.W.kitOne K (.type "tuple") (.ref (He.ga K "Frac")) = some false),
  decide (PySem.W.kitOne K (.ref (He.ga K "Frac")) (.type "dict") = some false),
  decide (PySem.W.kitOne K (.type "dict") (.ref (He.ga K "Frac")) = some false),
  decide (PySem.W.kitOne K (.ref (He.ga K "Frac")) (.ref (He.ga K "Frac")) = some true),
  decide (PySem.W.kitOne K (.ref (He.ga K "Frac")) (.ref (He.ga K "Boxes")) = some false),
  He.eqO (PySem.W.findIn K (.ref (He.ga K "Boxes")) "__class__") (some (some (.builtin "object.__class__"))),
  He.eqO (PySem.W.specialIn K (.builtin "object.__class__") "__get__") (some (some (.builtin "getset_descriptor.__get__"))),
  decide (PySem.W.takesIn K (.builtin "object.__class__") = some true),
  decide (PySem.W.mroIn K (He.ga K "Boxes") (.type "object") = some true),
  He.eqO (PySem.W.findIn K (.ref (He.ga K "Boxes")) "__len__") (some (some (.ref (He.ma K (He.ga K "Boxes") "__len__")))),
  PySem.W.isFn K (.ref (He.ma K (He.ga K "Boxes") "__len__")),
  He.eqO (PySem.W.findIn K (.ref (He.ga K "Boxes")) "__eq__") (some (some (.ref (He.ma K (He.ga K "Boxes") "__eq__")))),
  PySem.W.isFn K (.ref (He.ma K (He.ga K "Boxes") "__eq__")),
  decide (PySem.W.kitOne K (.ref (He.ga K "Boxes")) (.type "NoneType") = some false),
  decide (PySem.W.kitOne K (.type "NoneType") (.ref (He.ga K "Boxes")) = some false),
  decide (PySem.W.kitOne K (.ref (He.ga K "Boxes")) (.type "bool") = some false),
  decide (PySem.W.kitOne K (.type "bool") (.ref (He.ga K "Boxes")) = some false),
  decide (PySem.W.kitOne K (.ref (He.ga K "Boxes")) (.type "int") = some false),
  decide (PySem.W.kitOne K (.type "int") (.ref (He.ga K "Boxes")) = some false),
  decide (PySem.W.kitOne K (.ref (He.ga K "Boxes")) (.type "str") = some false),
  decide (PySem.W.kitOne K (.type "str") (.ref (He.ga K "Boxes")) = some false),
  decide (PySem.W.kitOne K (.ref (He.ga K "Boxes")) (.type "list") = some false),
  decide (PySem.W.kitOne K (.type "list") (.ref (He.ga K "Boxes")) = some false),
  decide (PySem.W.kitOne K (.ref (He.ga K "Boxes")) (.type "tuple") = some false),
  decide (PySem.W.kitOne K (.type "tuple") (.ref (He.ga K "Boxes")) = some false),
  decide (PySem.W.kitOne K (.ref (He.ga K "Boxes")) (.type "dict") = some false),
  decide (PySem.W.kitOne K (.type "dict") (.ref (He.ga K "Boxes")) = some false),
  decide (PySem.W.kitOne K (.ref (He.ga K "Boxes")) (.ref (He.ga K "Frac")) = some false),
  decide (PySem.W.kitOne K (.ref (He.ga K "Boxes")) (.ref (He.ga K "Boxes")) = some true),
  ercB K "InvalidProject" ["state"],
  decide (PySem.W.exmOne K (.ref (He.ga K "InvalidProject")) (.ref (He.ga K "NextError")) = some true),
  decide (PySem.W.kitOne K (.ref (He.ga K "InvalidProject")) (.ref (He.ga K "InvalidFraction")) = some false),
  decide (PySem.W.kitOne K (.ref (He.ga K "InvalidProject")) (.ref (He.ga K "InvalidProject")) = some true),
  decide (PySem.W.kitOne K (.ref (He.ga K "InvalidProject")) (.ref (He.ga K "Endless")) = some false),
  decide (PySem.W.kitOne K (.ref (He.ga K "InvalidProject")) (.ref (He.ga K "WrongSize")) = some false),
  decide (PySem.W.kitOne K (.ref (He.ga K "InvalidProject")) (.ref (He.ga K "InvalidStanding")) = some false),
  decide (PySem.W.kitOne K (.ref (He.ga K "InvalidProject")) (.ref (He.ga K "InvalidDeed")) = some false),
  decide (PySem.W.kitOne K (.ref (He.ga K "InvalidProject")) (.ref (He.ga K "InvalidPlan")) = some false),
  decide (PySem.W.kitOne K (.ref (He.ga K "InvalidProject")) (.ref (He.ga K "NoEnd")) = some false),
  decide (PySem.W.kitOne K (.ref (He.ga K "InvalidProject")) (.ref (He.ga K "TooMany")) = some false),
  decide (PySem.W.kitOne K (.ref (He.ga K "InvalidProject")) (.ref (He.ga K "InvalidText")) = some false),
  decide (PySem.W.kitOne K (.ref (He.ga K "InvalidProject")) (.ref (He.ga K "NothingToUndo")) = some false),
  decide (PySem.W.kitOne K (.ref (He.ga K "InvalidProject")) (.ref (He.ga K "NoExchange")) = some false),
  decide (PySem.W.kitOne K (.ref (He.ga K "InvalidProject")) (.ref (He.ga K "InvalidFamily")) = some false),
  decide (PySem.W.kitOne K (.ref (He.ga K "InvalidProject")) (.ref (He.ga K "NotClosed")) = some false),
  decide (PySem.W.kitOne K (.ref (He.ga K "InvalidProject")) (.ref (He.ga K "NotNested")) = some false),
  decide (PySem.W.kitOne K (.ref (He.ga K "InvalidProject")) (.ref (He.ga K "InvalidCertificate")) = some false),
  decide (PySem.W.kitOne K (.ref (He.ga K "InvalidProject")) (.type "ValueError") = some true),
  ercB K "WrongSize" ["many"],
  decide (PySem.W.exmOne K (.ref (He.ga K "WrongSize")) (.ref (He.ga K "NextError")) = some true),
  decide (PySem.W.kitOne K (.ref (He.ga K "WrongSize")) (.ref (He.ga K "InvalidFraction")) = some false),
  decide (PySem.W.kitOne K (.ref (He.ga K "WrongSize")) (.ref (He.ga K "InvalidProject")) = some false),
  decide (PySem.W.kitOne K (.ref (He.ga K "WrongSize")) (.ref (He.ga K "Endless")) = some false),
  decide (PySem.W.kitOne K (.ref (He.ga K "WrongSize")) (.ref (He.ga K "WrongSize")) = some true),
  decide (PySem.W.kitOne K (.ref (He.ga K "WrongSize")) (.ref (He.ga K "InvalidStanding")) = some false),
  decide (PySem.W.kitOne K (.ref (He.ga K "WrongSize")) (.ref (He.ga K "InvalidDeed")) = some false),
  decide (PySem.W.kitOne K (.ref (He.ga K "WrongSize")) (.ref (He.ga K "InvalidPlan")) = some false),
  decide (PySem.W.kitOne K (.ref (He.ga K "WrongSize")) (.ref (He.ga K "NoEnd")) = some false),
  decide (PySem.W.kitOne K (.ref (He.ga K "WrongSize")) (.ref (He.ga K "TooMany")) = some false),
  decide (PySem.W.kitOne K (.ref (He.ga K "WrongSize")) (.ref (He.ga K "InvalidText")) = some false),
  decide (PySem.W.kitOne K (.ref (He.ga K "WrongSize")) (.ref (He.ga K "NothingToUndo")) = some false),
  decide (PySem.W.kitOne K (.ref (He.ga K "WrongSize")) (.ref (He.ga K "NoExchange")) = some false),
  decide (PySem.W.kitOne K (.ref (He.ga K "WrongSize")) (.ref (He.ga K "InvalidFamily")) = some false),
  decide (PySem.W.kitOne K (.ref (He.ga K "WrongSize")) (.ref (He.ga K "NotClosed")) = some false),
  decide (PySem.W.kitOne K (.ref (He.ga K "WrongSize")) (.ref (He.ga K "NotNested")) = some false),
  decide (PySem.W.kitOne K (.ref (He.ga K "WrongSize")) (.ref (He.ga K "InvalidCertificate")) = some false),
  decide (PySem.W.kitOne K (.ref (He.ga K "WrongSize")) (.type "ValueError") = some true)]
abbrev R : PySem.W.OpenRow := PySem.W.OpenLaw.row PySem.Challenge.rw_nextprices_k80_boxes_made
abbrev qv : Program := PySem.W.view R.prog [0, 67]
abbrev hk : PySem.W.Hook := HG.hookX 4 chk fa fn
def ob (s : PySem.W.SharedT) : HG.AlX := HG.obsXG 4 chk fa fn (HandSHeadRun.getT s)
theorem ob_eq (s : PySem.W.SharedT) : ob s = hk.obs s.abs := HG.obsXG_eq (HandSHeadRun.getT_eq s)
def loose : List Str := (["_wall", "NextError", "InvalidFraction", "InvalidProject", "Endless", "InvalidFamily", "NotClosed", "NotNested", "NoExchange", "WrongSize", "InvalidStanding", "InvalidDeed", "InvalidPlan", "NoEnd", "InvalidCertificate", "TooMany", "InvalidText", "NothingToUndo", "DIGITS", "is_integer", "is_between", "is_sequence", "integer_told", "Frac", "as_frac", "MOST_OVER", "MOST_UNDER", "is_amount", "MOST_SHOWN_WEIGHT", "is_shown"] : List Str) ++ (["MOST_BOXES", "MOST_PRIZES", "are_prizes", "is_box", "Boxes", "_law_pool", "_law_take", "_law_low", "_law_below", "_law_is", "_law_hand", "_law_like", "_law_kinds", "_law_said", "_law_worth", "_law_cost", "_law_weight", "_law_prizes", "_law_boxes", "_law_rows", "_law_spoil", "_law_ask", "_law_rows_right", "_law_no_number", "_law_no_row", "_law_wrong_row", "_law_wrong_whole", "_law_bent", "_law_unchanged", "_law_plain"] : List Str)
theorem run (w : World) : HandSHeadRun.RunEqI R qv hk ob 12000 loose w := by
  unfold HandSHeadRun.RunEqI
  kernel_rfl
theorem facts {K : PySem.W.Frag} {h : Heap} {mg : Str → Option Value} (X : K.In h) (G : h.Ns mainGlobals mg) (c : HG.SaysX chk fa fn K) : Tx K mg where
  g_is_integer := He.glo_ok X G (c.fact 0 rfl)
  g_is_between := He.glo_ok X G (c.fact 1 rfl)
  g_is_sequence := He.glo_ok X G (c.fact 2 rfl)
  g_as_frac := He.glo_ok X G (c.fact 3 rfl)
  g_is_amount := He.glo_ok X G (c.fact 4 rfl)
  g_is_shown := He.glo_ok X G (c.fact 5 rfl)
  g_are_prizes := He.glo_ok X G (c.fact 6 rfl)
  g_is_box := He.glo_ok X G (c.fact 7 rfl)
  g__law_pool := He.glo_ok X G (c.fact 8 rfl)
  g__law_take := He.glo_ok X G (c.fact 9 rfl)
  g__law_low := He.glo_ok X G (c.fact 10 rfl)
  g__law_below := He.glo_ok X G (c.fact 11 rfl)
  g__law_is := He.glo_ok X G (c.fact 12 rfl)
  g__law_hand := He.glo_ok X G (c.fact 13 rfl)
  g__law_like := He.glo_ok X G (c.fact 14 rfl)
  g__law_kinds := He.glo_ok X G (c.fact 15 rfl)
  g__law_said := He.glo_ok X G (c.fact 16 rfl)
  g__law_worth := He.glo_ok X G (c.fact 17 rfl)
  g__law_cost := He.glo_ok X G (c.fact 18 rfl)
  g__law_weight := He.glo_ok X G (c.fact 19 rfl)
  g__law_prizes := He.glo_ok X G (c.fact 20 rfl)
  g__law_boxes := He.glo_ok X G (c.fact 21 rfl)
  g__law_rows := He.glo_ok X G (c.fact 22 rfl)
  g__law_spoil := He.glo_ok X G (c.fact 23 rfl)
  g__law_ask := He.glo_ok X G (c.fact 24 rfl)
  g__law_rows_right := He.glo_ok X G (c.fact 25 rfl)
  g__law_no_number := He.glo_ok X G (c.fact 26 rfl)
  g__law_no_row := He.glo_ok X G (c.fact 27 rfl)
  g__law_wrong_row := He.glo_ok X G (c.fact 28 rfl)
  g__law_wrong_whole := He.glo_ok X G (c.fact 29 rfl)
  g__law_bent := He.glo_ok X G (c.fact 30 rfl)
  g__law_unchanged := He.glo_ok X G (c.fact 31 rfl)
  g__law_plain := He.glo_ok X G (c.fact 32 rfl)
  g_law := He.glo_ok X G (c.fact 33 rfl)
  g_Frac := He.glo_ok X G (c.fact 34 rfl)
  g_Boxes := He.glo_ok X G (c.fact 35 rfl)
  b_ValueError := He.free_ok X G (c.fact 36 rfl)
  b_abs := He.free_ok X G (c.fact 37 rfl)
  b_all := He.free_ok X G (c.fact 38 rfl)
  b_bool := He.free_ok X G (c.fact 39 rfl)
  b_enumerate := He.free_ok X G (c.fact 40 rfl)
  b_int := He.free_ok X G (c.fact 41 rfl)
  b_isinstance := He.free_ok X G (c.fact 42 rfl)
  b_len := He.free_ok X G (c.fact 43 rfl)
  b_list := He.free_ok X G (c.fact 44 rfl)
  b_range := He.free_ok X G (c.fact 45 rfl)
  b_str := He.free_ok X G (c.fact 46 rfl)
  b_tuple := He.free_ok X G (c.fact 47 rfl)
  i_MOST_OVER := He.int_ok X G (c.fact 48 rfl)
  i_MOST_UNDER := He.int_ok X G (c.fact 49 rfl)
  i_MOST_SHOWN_WEIGHT := He.int_ok X G (c.fact 50 rfl)
  i_MOST_BOXES := He.int_ok X G (c.fact 51 rfl)
  i_MOST_PRIZES := He.int_ok X G (c.fact 52 rfl)
  gcd := PySem.W.mg_of X G (He.eqO_ok (c.bit 0 rfl))
  d_InvalidProjectD_initD := c.def_ 0 rfl
  d_WrongSizeD_initD := c.def_ 1 rfl
  d_is_integer := c.def_ 2 rfl
  d_is_between := c.def_ 3 rfl
  d_is_sequence := c.def_ 4 rfl
  d_FracD_initD := c.def_ 5 rfl
  d_FracD_eqD := c.def_ 6 rfl
  d_Frac_is_below := c.def_ 7 rfl
  d_as_frac := c.def_ 8 rfl
  d_is_amount := c.def_ 9 rfl
  d_is_shown := c.def_ 10 rfl
  d_are_prizes := c.def_ 11 rfl
  d_is_box := c.def_ 12 rfl
  d_BoxesD_initD := c.def_ 13 rfl
  d_BoxesD_lenD := c.def_ 14 rfl
  d_BoxesD_eqD := c.def_ 15 rfl
  d__law_pool := c.def_ 16 rfl
  d__law_take := c.def_ 17 rfl
  d__law_low := c.def_ 18 rfl
  d__law_below := c.def_ 19 rfl
  d__law_is := c.def_ 20 rfl
  d__law_hand := c.def_ 21 rfl
  d__law_like := c.def_ 22 rfl
  d__law_kinds := c.def_ 23 rfl
  d__law_said := c.def_ 24 rfl
  d__law_worth := c.def_ 25 rfl
  d__law_cost := c.def_ 26 rfl
  d__law_weight := c.def_ 27 rfl
  d__law_prizes := c.def_ 28 rfl
  d__law_boxes := c.def_ 29 rfl
  d__law_rows := c.def_ 30 rfl
  d__law_spoil := c.def_ 31 rfl
  d__law_ask := c.def_ 32 rfl
  d__law_rows_right := c.def_ 33 rfl
  d__law_no_number := c.def_ 34 rfl
  d__law_no_row := c.def_ 35 rfl
  d__law_wrong_row := c.def_ 36 rfl
  d__law_wrong_whole := c.def_ 37 rfl
  d__law_bent := c.def_ 38 rfl
  d__law_unchanged := c.def_ 39 rfl
  d__law_plain := c.def_ 40 rfl
  d_law := c.def_ 41 rfl
  cl_Frac := He.cls_ok (c.fact 53 rfl)
  no_Frac_num := He.noat_ok (c.fact 54 rfl)
  no_Frac_den := He.noat_ok (c.fact 55 rfl)
  m_Frac_is_below := He.meth_ok (c.fact 56 rfl)
  mk_Frac := He.mkr_ok (c.fact 57 rfl)
  ins_Frac := ⟨He.cls_ok (c.fact 53 rfl), He.eqO_ok (c.bit 1 rfl), He.eqO_ok (c.bit 2 rfl), of_decide_eq_true (c.bit 3 rfl), of_decide_eq_true (c.bit 4 rfl)⟩
  sp_Frac_eq := ⟨He.eqO_ok (c.bit 5 rfl), (c.bit 6 rfl)⟩
  kit_Frac_NoneType := of_decide_eq_true (c.bit 7 rfl)
  tik_Frac_NoneType := of_decide_eq_true (c.bit 8 rfl)
  kit_Frac_bool := of_decide_eq_true (c.bit 9 rfl)
  tik_Frac_bool := of_decide_eq_true (c.bit 10 rfl)
  kit_Frac_int := of_decide_eq_true (c.bit 11 rfl)
  tik_Frac_int := of_decide_eq_true (c.bit 12 rfl)
  kit_Frac_str := of_decide_eq_true (c.bit 13 rfl)
  tik_Frac_str := of_decide_eq_true (c.bit 14 rfl)
  kit_Frac_list := of_decide_eq_true (c.bit 15 rfl)
  tik_Frac_list := of_decide_eq_true (c.bit 16 rfl)
  kit_Frac_tuple := of_decide_eq_true (c.bit 17 rfl)
  tik_Frac_tuple := of_decide_eq_true (c.bit 18 rfl)
  kit_Frac_dict := of_decide_eq_true (c.bit 19 rfl)
  tik_Frac_dict := of_decide_eq_true (c.bit 20 rfl)
  kic_Frac_Frac := of_decide_eq_true (c.bit 21 rfl)
  kic_Frac_Boxes := of_decide_eq_true (c.bit 22 rfl)
  cl_Boxes := He.cls_ok (c.fact 58 rfl)
  no_Boxes_rows := He.noat_ok (c.fact 59 rfl)
  mk_Boxes := He.mkr_ok (c.fact 60 rfl)
  ins_Boxes := ⟨He.cls_ok (c.fact 58 rfl), He.eqO_ok (c.bit 23 rfl), He.eqO_ok (c.bit 24 rfl), of_decide_eq_true (c.bit 25 rfl), of_decide_eq_true (c.bit 26 rfl)⟩
  sp_Boxes_len := ⟨He.eqO_ok (c.bit 27 rfl), (c.bit 28 rfl)⟩
  sp_Boxes_eq := ⟨He.eqO_ok (c.bit 29 rfl), (c.bit 30 rfl)⟩
  kit_Boxes_NoneType := of_decide_eq_true (c.bit 31 rfl)
  tik_Boxes_NoneType := of_decide_eq_true (c.bit 32 rfl)
  kit_Boxes_bool := of_decide_eq_true (c.bit 33 rfl)
  tik_Boxes_bool := of_decide_eq_true (c.bit 34 rfl)
  kit_Boxes_int := of_decide_eq_true (c.bit 35 rfl)
  tik_Boxes_int := of_decide_eq_true (c.bit 36 rfl)
  kit_Boxes_str := of_decide_eq_true (c.bit 37 rfl)
  tik_Boxes_str := of_decide_eq_true (c.bit 38 rfl)
  kit_Boxes_list := of_decide_eq_true (c.bit 39 rfl)
  tik_Boxes_list := of_decide_eq_true (c.bit 40 rfl)
  kit_Boxes_tuple := of_decide_eq_true (c.bit 41 rfl)
  tik_Boxes_tuple := of_decide_eq_true (c.bit 42 rfl)
  kit_Boxes_dict := of_decide_eq_true (c.bit 43 rfl)
  tik_Boxes_dict := of_decide_eq_true (c.bit 44 rfl)
  kic_Boxes_Frac := of_decide_eq_true (c.bit 45 rfl)
  kic_Boxes_Boxes := of_decide_eq_true (c.bit 46 rfl)
  er_InvalidProject := ercB_ok (c.bit 47 rfl)
  exm_InvalidProject := of_decide_eq_true (c.bit 48 rfl)
  kx_InvalidProject_InvalidFraction := of_decide_eq_true (c.bit 49 rfl)
  kx_InvalidProject_InvalidProject := of_decide_eq_true (c.bit 50 rfl)
  kx_InvalidProject_Endless := of_decide_eq_true (c.bit 51 rfl)
  kx_InvalidProject_WrongSize := of_decide_eq_true (c.bit 52 rfl)
  kx_InvalidProject_InvalidStanding := of_decide_eq_true (c.bit 53 rfl)
  kx_InvalidProject_InvalidDeed := of_decide_eq_true (c.bit 54 rfl)
  kx_InvalidProject_InvalidPlan := of_decide_eq_true (c.bit 55 rfl)
  kx_InvalidProject_NoEnd := of_decide_eq_true (c.bit 56 rfl)
  kx_InvalidProject_TooMany := of_decide_eq_true (c.bit 57 rfl)
  kx_InvalidProject_InvalidText := of_decide_eq_true (c.bit 58 rfl)
  kx_InvalidProject_NothingToUndo := of_decide_eq_true (c.bit 59 rfl)
  kx_InvalidProject_NoExchange := of_decide_eq_true (c.bit 60 rfl)
  kx_InvalidProject_InvalidFamily := of_decide_eq_true (c.bit 61 rfl)
  kx_InvalidProject_NotClosed := of_decide_eq_true (c.bit 62 rfl)
  kx_InvalidProject_NotNested := of_decide_eq_true (c.bit 63 rfl)
  kx_InvalidProject_InvalidCertificate := of_decide_eq_true (c.bit 64 rfl)
  kev_InvalidProject := of_decide_eq_true (c.bit 65 rfl)
  er_WrongSize := ercB_ok (c.bit 66 rfl)
  exm_WrongSize := of_decide_eq_true (c.bit 67 rfl)
  kx_WrongSize_InvalidFraction := of_decide_eq_true (c.bit 68 rfl)
  kx_WrongSize_InvalidProject := of_decide_eq_true (c.bit 69 rfl)
  kx_WrongSize_Endless := of_decide_eq_true (c.bit 70 rfl)
  kx_WrongSize_WrongSize := of_decide_eq_true (c.bit 71 rfl)
  kx_WrongSize_InvalidStanding := of_decide_eq_true (c.bit 72 rfl)
  kx_WrongSize_InvalidDeed := of_decide_eq_true (c.bit 73 rfl)
  kx_WrongSize_InvalidPlan := of_decide_eq_true (c.bit 74 rfl)
  kx_WrongSize_NoEnd := of_decide_eq_true (c.bit 75 rfl)
  kx_WrongSize_TooMany := of_decide_eq_true (c.bit 76 rfl)
  kx_WrongSize_InvalidText := of_decide_eq_true (c.bit 77 rfl)
  kx_WrongSize_NothingToUndo := of_decide_eq_true (c.bit 78 rfl)
  kx_WrongSize_NoExchange := of_decide_eq_true (c.bit 79 rfl)
  kx_WrongSize_InvalidFamily := of_decide_eq_true (c.bit 80 rfl)
  kx_WrongSize_NotClosed := of_decide_eq_true (c.bit 81 rfl)
  kx_WrongSize_NotNested := of_decide_eq_true (c.bit 82 rfl)
  kx_WrongSize_InvalidCertificate := of_decide_eq_true (c.bit 83 rfl)
  kev_WrongSize := of_decide_eq_true (c.bit 84 rfl)
  g_InvalidFraction := He.glo_ok X G (c.fact 61 rfl)
  g_InvalidProject := He.glo_ok X G (c.fact 62 rfl)
  g_Endless := He.glo_ok X G (c.fact 63 rfl)
  g_WrongSize := He.glo_ok X G (c.fact 64 rfl)
  g_InvalidStanding := He.glo_ok X G (c.fact 65 rfl)
  g_InvalidDeed := He.glo_ok X G (c.fact 66 rfl)
  g_InvalidPlan := He.glo_ok X G (c.fact 67 rfl)
  g_NoEnd := He.glo_ok X G (c.fact 68 rfl)
  g_TooMany := He.glo_ok X G (c.fact 69 rfl)
  g_InvalidText := He.glo_ok X G (c.fact 70 rfl)
  g_NothingToUndo := He.glo_ok X G (c.fact 71 rfl)
  g_NoExchange := He.glo_ok X G (c.fact 72 rfl)
  g_InvalidFamily := He.glo_ok X G (c.fact 73 rfl)
  g_NotClosed := He.glo_ok X G (c.fact 74 rfl)
  g_NotNested := He.glo_ok X G (c.fact 75 rfl)
  g_InvalidCertificate := He.glo_ok X G (c.fact 76 rfl)
  g_NextError := He.glo_ok X G (c.fact 77 rfl)
end KH
end

section
set_option maxRecDepth 100000
set_option maxHeartbeats 2000000
/-! what the program's functions compute, in rationals -/
namespace G
open PySem PySem.Spec PyProof.Rows L2
abbrev ORow := List (Int × Rat)
def vec (g : Nat → Rat) (n : Nat) : List D := (List.range n).map fun i => .frac (g i)
def updF (g : Nat → Rat) (i : Nat) (v : Rat) : Nat → Rat := fun j => if j = i then v else g j
theorem vec_len {g : Nat → Rat} {n : Nat} : (vec g n).length = n := by simp [vec]
theorem vec_at {g : Nat → Rat} {n i : Nat} (h : i < n) : (vec g n)[i]? = some (.frac (g i)) := by simp [vec, h]
theorem vec_succ {g : Nat → Rat} {n : Nat} : vec g (n + 1) = vec g n ++ [.frac (g n)] := by simp [vec, List.range_succ]
theorem vec_set {g : Nat → Rat} {n i : Nat} {v : Rat} : (vec g n).set i (.frac v) = vec (updF g i v) n := by
  apply List.ext_getElem?
  intro j
  rw [List.getElem?_set]
  by_cases hi : i = j
  · subst hi
    by_cases hn : i < n
    · rw [if_pos rfl, if_pos (by rw [vec_len]; exact hn), vec_at hn]; simp [updF]
    · rw [if_pos rfl, if_neg (by rw [vec_len]; exact hn)]; simp [vec, Nat.le_of_not_lt hn]
  · by_cases hn : j < n
    · rw [if_neg hi, vec_at hn, vec_at hn]; simp [updF, Ne.symm hi]
    · rw [if_neg hi]; simp [vec, Nat.le_of_not_lt hn]
theorem vec_congr {f g : Nat → Rat} {n : Nat} (h : ∀ i, i < n → f i = g i) : vec f n = vec g n := by
  unfold vec; apply List.map_congr_left; intro i hi; rw [h i (List.mem_range.mp hi)]
def sumN (f : Nat → Rat) (n : Nat) : Rat := ((List.range n).map f).sum
theorem sumN_zero {f : Nat → Rat} : sumN f 0 = 0 := rfl
theorem sumN_succ {f : Nat → Rat} {n : Nat} : sumN f (n + 1) = sumN f n + f n := by
  unfold sumN; rw [List.range_succ, List.map_append, List.sum_append]; simp [Rat.add_zero]
theorem sumN_congr {f g : Nat → Rat} {n : Nat} (h : ∀ i, i < n → f i = g i) : sumN f n = sumN g n := by
  unfold sumN; congr 1; apply List.map_congr_left; intro i hi; exact h i (List.mem_range.mp hi)
def NiceF (k : Nat) (g : Nat → Rat) : Prop := ∀ i, Nice k (g i)
theorem NiceF.sumN {k n : Nat} {f : Nat → Rat} (h : ∀ i, i < n → Nice k (f i)) (hn : n ≤ 32) : Nice (k + 1) (sumN f n) :=
  Nice.sum (fun x hx => by obtain ⟨i, hi, rfl⟩ := List.mem_map.mp hx; exact h i (List.mem_range.mp hi)) (by simpa using hn)
def whole (r : ORow) : Int := (r.map (·.1)).sum
def share (r : ORow) (w : Int) : Rat := Rat.divInt w (whole r)
structure RowOk (r : ORow) : Prop where
  ne : r ≠ []
  len : r.length ≤ 6
  w1 : ∀ p ∈ r, 1 ≤ p.1
  w2 : ∀ p ∈ r, p.1 ≤ 99
  n : ∀ p ∈ r, Nice 1 p.2
  sh : ∀ p ∈ r, Nice 1 (share r p.1)
theorem sum_pos : ∀ {l : List Int}, (∀ i ∈ l, 1 ≤ i) → (l.length : Int) ≤ l.sum
  | [], _ => by simp
  | a :: l, h => by
    have := sum_pos (l := l) fun i hi => h i (List.mem_cons_of_mem _ hi)
    have := h a List.mem_cons_self
    rw [List.sum_cons, List.length_cons]; omega
theorem sum_le {b : Int} : ∀ {l : List Int}, (∀ i ∈ l, i ≤ b) → l.sum ≤ l.length * b
  | [], _ => by simp
  | a :: l, h => by
    have := sum_le (l := l) fun i hi => h i (List.mem_cons_of_mem _ hi)
    have := h a List.mem_cons_self
    rw [List.sum_cons, List.length_cons]
    push_cast
    rw [Int.add_mul]; omega
theorem RowOk.whole_pos {r : ORow} (h : RowOk r) : 0 < whole r := by
  have h1 := sum_pos (l := r.map (·.1)) fun i hi => by obtain ⟨p, hp, rfl⟩ := List.mem_map.mp hi; exact h.w1 p hp
  have h2 : 0 < r.length := List.length_pos_iff.mpr h.ne
  rw [List.length_map] at h1
  unfold whole; omega
theorem RowOk.whole_le {r : ORow} (h : RowOk r) : whole r ≤ 594 := by
  have h1 := sum_le (l := r.map (·.1)) (b := 99) fun i hi => by obtain ⟨p, hp, rfl⟩ := List.mem_map.mp hi; exact h.w2 p hp
  have h2 := h.len
  rw [List.length_map] at h1
  unfold whole; omega
/-! the table -/
def rowB (r : ORow) (g : Nat → Rat) : Nat → Rat
  | 0 => 0
  | i + 1 => (r.map fun p => share r p.1 * rmax (p.2 + g i) (g (i + 1))).sum
def TT : List ORow → Nat → Rat
  | [] => fun _ => 0
  | r :: rs => rowB r (TT rs)
theorem nice_part {r : ORow} (h : RowOk r) {k : Nat} {g : Nat → Rat} (hk : 1 ≤ k) (hg : NiceF k g) {p : Int × Rat} (hp : p ∈ r) (i : Nat) : Nice (k + 2) (share r p.1 * rmax (p.2 + g i) (g (i + 1))) := by
  have := (h.sh p hp).mul ((((h.n p hp).mono hk).add (hg i)).rmax ((hg (i + 1)).up))
  rwa [show 1 + (k + 1) = k + 2 by omega] at this
theorem NiceF.rowB {r : ORow} (h : RowOk r) {k : Nat} {g : Nat → Rat} (hk : 1 ≤ k) (hg : NiceF k g) : NiceF (k + 3) (rowB r g)
  | 0 => Nice.zero _
  | i + 1 => Nice.sum (fun x hx => by obtain ⟨p, hp, rfl⟩ := List.mem_map.mp hx; exact nice_part h hk hg hp i) (by rw [List.length_map]; have := h.len; omega)
theorem NiceF.TT : ∀ {rs : List ORow}, (∀ r ∈ rs, RowOk r) → NiceF (3 * rs.length + 1) (TT rs)
  | [], _ => fun _ => Nice.zero _
  | r :: rs, h => by
    have := NiceF.rowB (h r List.mem_cons_self) (k := 3 * rs.length + 1) (by omega) (NiceF.TT fun q hq => h q (List.mem_cons_of_mem _ hq))
    rwa [show 3 * rs.length + 1 + 3 = 3 * (r :: rs).length + 1 by rw [List.length_cons]; omega] at this
def bar (g : Nat → Rat) (l : Nat) : Rat := g (l + 1) - g l
/-! what is taken -/
def takes (b : Rat) (p : Int × Rat) : Bool := decide (0 < p.2.num) && !decide (p.2 < b)
def part (r : ORow) (b : Rat) : Rat := ((r.filter (takes b)).map fun p => share r p.1).sum
def gain (r : ORow) (b : Rat) : Rat := ((r.filter (takes b)).map fun p => share r p.1 * p.2).sum
theorem Nice.partR {r : ORow} (h : RowOk r) (b : Rat) : Nice 2 (part r b) :=
  Nice.sum (fun x hx => by obtain ⟨p, hp, rfl⟩ := List.mem_map.mp hx; exact h.sh p (List.mem_filter.mp hp).1) (by rw [List.length_map]; have := h.len; have := List.length_filter_le (takes b) r; omega)
theorem Nice.gainR {r : ORow} (h : RowOk r) (b : Rat) : Nice 3 (gain r b) :=
  Nice.sum (fun x hx => by obtain ⟨p, hp, rfl⟩ := List.mem_map.mp hx; exact (h.sh p (List.mem_filter.mp hp).1).mul (h.n p (List.mem_filter.mp hp).1)) (by rw [List.length_map]; have := h.len; have := List.length_filter_le (takes b) r; omega)
/-! the chances -/
def mv (r : ORow) (b c : Nat → Rat) (l : Nat) : Rat := c (l + 1) * part r (b l)
def gv (r : ORow) (b c : Nat → Rat) (l : Nat) : Rat := c (l + 1) * gain r (b l)
def lat (r : ORow) (b c : Nat → Rat) : Nat → Nat → Rat
  | 0 => c
  | j + 1 => updF (updF (lat r b c j) (j + 1) (lat r b c j (j + 1) - mv r b c j)) j (updF (lat r b c j) (j + 1) (lat r b c j (j + 1) - mv r b c j) j + mv r b c j)
theorem lat_far {r : ORow} {b c : Nat → Rat} : ∀ {j l : Nat}, j < l → lat r b c j l = c l
  | 0, _, _ => rfl
  | j + 1, l, h => by
    show updF _ j _ l = _
    unfold updF
    rw [if_neg (by omega), if_neg (by omega)]
    exact lat_far (by omega)
theorem Nice.mv {r : ORow} (h : RowOk r) {b c : Nat → Rat} {k : Nat} (hc : NiceF k c) (l : Nat) : Nice (k + 2) (mv r b c l) := (hc (l + 1)).mul (Nice.partR h _)
theorem Nice.gv {r : ORow} (h : RowOk r) {b c : Nat → Rat} {k : Nat} (hc : NiceF k c) (l : Nat) : Nice (k + 3) (gv r b c l) := (hc (l + 1)).mul (Nice.gainR h _)
theorem lat_nice {r : ORow} (h : RowOk r) {b c : Nat → Rat} {k : Nat} (hc : NiceF k c) : ∀ j, Nice (k + 3) (lat r b c j j) ∧ ∀ l, Nice (k + 4) (lat r b c j l)
  | 0 => ⟨(hc 0).mono (by omega), fun l => (hc l).mono (by omega)⟩
  | j + 1 => by
    obtain ⟨h1, h2⟩ := lat_nice h hc j
    have e1 : Nice (k + 3) (lat r b c j (j + 1) - G.mv r b c j) := by
      rw [lat_far (by omega)]
      exact ((hc (j + 1)).mono (show k ≤ k + 2 by omega)).sub (Nice.mv h hc j)
    refine ⟨?_, fun l => ?_⟩
    · show Nice _ (updF _ j _ (j + 1))
      unfold updF
      rw [if_neg (by omega), if_pos rfl]
      exact e1
    · show Nice _ (updF _ j _ l)
      unfold updF
      by_cases hl : l = j
      · rw [if_pos hl, if_neg (by omega)]
        exact h1.add ((Nice.mv h hc j).mono (by omega))
      · rw [if_neg hl]
        by_cases hl2 : l = j + 1
        · rw [if_pos hl2]; exact e1.up
        · rw [if_neg hl2]; exact h2 l
/-- the chances behind each offer -/
def CC (many : Nat) : List ORow → (Nat → Rat) → Nat → Nat → Rat
  | _, c, 0 => c
  | [], c, _ + 1 => c
  | r :: rs, c, n + 1 => CC many rs (lat r (bar (TT rs)) c many) n
def c0 (many : Nat) : Nat → Rat := fun l => if l = many then 1 else 0
end G
end

section
set_option maxRecDepth 100000
set_option maxHeartbeats 2000000
/-! the chances, turn by turn -/
namespace G
open PySem PySem.Spec PyProof.Rows L2
def rowAt (rs : List ORow) (i : Nat) : ORow := rs.getD i []
def barAt (rs : List ORow) (i : Nat) : Nat → Rat := bar (TT (rs.drop (i + 1)))
def ch (rs : List ORow) (n : Nat) : Nat → Nat → Rat
  | 0 => c0 n
  | i + 1 => lat (rowAt rs i) (barAt rs i) (ch rs n i) n
def told (rs : List ORow) (n i : Nat) : Rat := sumN (mv (rowAt rs i) (barAt rs i) (ch rs n i)) n
def meanT (rs : List ORow) (n i : Nat) : Rat := sumN (gv (rowAt rs i) (barAt rs i) (ch rs n i)) n
theorem rowAt_of {rs : List ORow} {i : Nat} {r : ORow} (h : rs[i]? = some r) : rowAt rs i = r := by simp [rowAt, h]
theorem c0_nice {n : Nat} : NiceF 1 (c0 n) := fun i => by
  unfold c0; split
  · exact Nice.int (i := 1) (by decide)
  · exact Nice.zero 1
theorem rowAt_ok {rs : List ORow} (h : ∀ r ∈ rs, RowOk r) {i : Nat} (hi : i < rs.length) : RowOk (rowAt rs i) := by
  have : rs[i]? = some rs[i] := by simp [hi]
  rw [rowAt_of this]; exact h _ (List.getElem_mem hi)
theorem ch_nice {rs : List ORow} {n : Nat} (h : ∀ r ∈ rs, RowOk r) : ∀ {i : Nat}, i ≤ rs.length → NiceF (4 * i + 1) (ch rs n i)
  | 0, _ => c0_nice
  | i + 1, hi => fun l => (lat_nice (rowAt_ok h (by omega)) (ch_nice h (i := i) (by omega)) n).2 l
theorem TT_drop {rs : List ORow} {i : Nat} (hi : i < rs.length) : TT (rs.drop i) = rowB (rowAt rs i) (TT (rs.drop (i + 1))) := by
  rw [List.drop_eq_getElem_cons hi]
  have : rs[i]? = some rs[i] := by simp [hi]
  rw [rowAt_of this]; rfl
theorem TT_nice {rs : List ORow} (h : ∀ r ∈ rs, RowOk r) (i : Nat) : NiceF (3 * rs.length + 1) (TT (rs.drop i)) := fun l =>
  (NiceF.TT (fun r hr => h r (List.mem_of_mem_drop hr)) l).mono (by rw [List.length_drop]; omega)
theorem range_rev {α : Type} (f : Nat → α) (n : Nat) : ((List.range (n + 1)).map fun i => f (n - i)).reverse = (List.range (n + 1)).map f := by
  apply List.ext_getElem
  · simp
  · intro i h1 h2
    simp at h1 h2
    simp [List.getElem_reverse]
    congr 1
    omega
end G
end

section
set_option maxRecDepth 100000
set_option maxHeartbeats 2000000
/-! the law's own reckoning -/
namespace G
open PySem PySem.Spec PyProof.Rows L2
section
variable {C : Cl} {B : Bs} {Γ : List Sl} {t u : TS} {te ta tb : TE} {nx bk ct : List Sl → Prop} {rt : List Sl → D → Prop} {K : D → Prop}
/-- a loop with a state that is not told -/
theorem sx_forGS {wi : TI} {g : TG} (h : IK C B Γ wi fun l => ∃ (α : Type) (xs : List α) (f : α → D) (τ : Type) (F : Nat → τ → List Sl) (P : Nat → τ → Prop), l = xs.map f ∧ (∃ s, P 0 s ∧ Wk Γ (F 0 s)) ∧
      (∀ B' j x s, xs[j]? = some x → P j s → GK C B' (F j s) g (f x) fun Γ2 => SX C B' Γ2 t (fun Γ' => ∃ s', P (j + 1) s' ∧ Wk Γ' (F (j + 1) s')) rt nx (fun Γ' => ∃ s', P (j + 1) s' ∧ Wk Γ' (F (j + 1) s'))) ∧ ∀ Γ' s, P xs.length s → Wk Γ' (F xs.length s) → nx Γ') : SX C B Γ (tFor wi g t) nx rt bk ct :=
  sx_forG (h.mono fun l ⟨α, xs, f, τ, F, P, e, h0, hs, hd⟩ => by
    subst e
    refine ⟨fun j Γ' => ∃ s, P j s ∧ Wk Γ' (F j s), h0, fun B' j d Γ' hj ⟨s, p, w⟩ => gk_weak w ?_, fun Γ' ⟨s, p, w⟩ => ?_⟩
    · rw [List.getElem?_map] at hj
      cases hx : xs[j]? with
      | none => rw [hx] at hj; cases hj
      | some x =>
        rw [hx] at hj; cases hj
        exact hs B' j x s hx p
    · rw [List.length_map] at p w
      exact hd Γ' s p w)
end
def vecL (g : Nat → Rat) (n : Nat) : List D := (List.range n).map fun i => lowD (g i)
theorem vecL_len {g : Nat → Rat} {n : Nat} : (vecL g n).length = n := by simp [vecL]
theorem vecL_at {g : Nat → Rat} {n i : Nat} (h : i < n) : (vecL g n)[i]? = some (lowD (g i)) := by simp [vecL, h]
theorem vecL_succ {g : Nat → Rat} {n : Nat} : vecL g (n + 1) = vecL g n ++ [lowD (g n)] := by simp [vecL, List.range_succ]
theorem vecL_set {g : Nat → Rat} {n i : Nat} {v : Rat} : (vecL g n).set i (lowD v) = vecL (updF g i v) n := by
  apply List.ext_getElem?
  intro j
  rw [List.getElem?_set]
  by_cases hi : i = j
  · subst hi
    by_cases hn : i < n
    · rw [if_pos rfl, if_pos (by rw [vecL_len]; exact hn), vecL_at hn]; simp [updF]
    · rw [if_pos rfl, if_neg (by rw [vecL_len]; exact hn)]; simp [vecL, Nat.le_of_not_lt hn]
  · by_cases hn : j < n
    · rw [if_neg hi, vecL_at hn, vecL_at hn]; simp [updF, Ne.symm hi]
    · rw [if_neg hi]; simp [vecL, Nat.le_of_not_lt hn]
/-- an offer of the law's own -/
def ownD (r : ORow) : D := .dic [(.inr "rows", .lst (r.map fun p => .lst [.int p.1, lowD p.2])), (.inr "all", .int (whole r))]
/-! the chances, the law's way: one row of an offer at a time -/
def stepF (r : ORow) (b : Rat) (c : Nat → Rat) (l : Nat) (g : Nat → Rat) (p : Int × Rat) : Nat → Rat :=
  if takes b p then updF g l (g l + c (l + 1) * share r p.1) else updF g (l + 1) (g (l + 1) + c (l + 1) * share r p.1)
def stepS (r : ORow) (b : Rat) (c : Nat → Rat) (l : Nat) (a : Rat) (p : Int × Rat) : Rat := if takes b p then a + c (l + 1) * share r p.1 else a
def stepM (r : ORow) (b : Rat) (c : Nat → Rat) (l : Nat) (a : Rat) (p : Int × Rat) : Rat := if takes b p then a + c (l + 1) * share r p.1 * p.2 else a
def dF (r : ORow) (b c : Nat → Rat) : Nat → Nat → Rat
  | 0 => updF (fun _ => 0) 0 (c 0)
  | l + 1 => r.foldl (stepF r (b l) c l) (dF r b c l)
def dS (r : ORow) (b c : Nat → Rat) : Nat → Rat
  | 0 => 0
  | l + 1 => r.foldl (stepS r (b l) c l) (dS r b c l)
def dM (r : ORow) (b c : Nat → Rat) : Nat → Rat
  | 0 => 0
  | l + 1 => r.foldl (stepM r (b l) c l) (dM r b c l)
def lch (rs : List ORow) (n : Nat) : Nat → Nat → Rat
  | 0 => c0 n
  | i + 1 => dF (rowAt rs i) (barAt rs i) (lch rs n i) n
theorem foldl_take {α β : Type} {f : β → α → β} {a : β} {xs : List α} {j : Nat} {x : α} (h : xs[j]? = some x) : (xs.take (j + 1)).foldl f a = f ((xs.take j).foldl f a) x := by
  rw [List.take_succ, h, List.foldl_append]; rfl
theorem stepF_nice {r : ORow} (h : RowOk r) {b : Rat} {c : Nat → Rat} {k m l : Nat} (hc : NiceF k c) (hm : k + 1 ≤ m) : ∀ {ps : List (Int × Rat)} {g : Nat → Rat}, (∀ p ∈ ps, p ∈ r) → NiceF m g → NiceF (m + ps.length) (ps.foldl (stepF r b c l) g)
  | [], g, _, hg => hg
  | p :: ps, g, hp, hg => by
    have n1 : Nice m (c (l + 1) * share r p.1) := ((hc (l + 1)).mul (h.sh p (hp p List.mem_cons_self))).mono hm
    have n2 : NiceF (m + 1) (stepF r b c l g p) := fun i => by
      unfold stepF
      split <;> unfold updF <;> split
      · exact (hg _).add n1
      · exact (hg i).up
      · exact (hg _).add n1
      · exact (hg i).up
    have := stepF_nice h (b := b) (m := m + 1) (l := l) hc (by omega) (ps := ps) (fun q hq => hp q (List.mem_cons_of_mem _ hq)) n2
    rwa [show m + 1 + ps.length = m + (p :: ps).length by rw [List.length_cons]; omega] at this
theorem stepS_nice {r : ORow} (h : RowOk r) {b : Rat} {c : Nat → Rat} {k m l : Nat} (hc : NiceF k c) (hm : k + 1 ≤ m) : ∀ {ps : List (Int × Rat)} {a : Rat}, (∀ p ∈ ps, p ∈ r) → Nice m a → Nice (m + ps.length) (ps.foldl (stepS r b c l) a)
  | [], _, _, hg => hg
  | p :: ps, a, hp, hg => by
    have n1 : Nice m (c (l + 1) * share r p.1) := ((hc (l + 1)).mul (h.sh p (hp p List.mem_cons_self))).mono hm
    have n2 : Nice (m + 1) (stepS r b c l a p) := by
      unfold stepS
      split
      · exact hg.add n1
      · exact hg.up
    have := stepS_nice h (b := b) (m := m + 1) (l := l) hc (by omega) (ps := ps) (fun q hq => hp q (List.mem_cons_of_mem _ hq)) n2
    rwa [show m + 1 + ps.length = m + (p :: ps).length by rw [List.length_cons]; omega] at this
theorem stepM_nice {r : ORow} (h : RowOk r) {b : Rat} {c : Nat → Rat} {k m l : Nat} (hc : NiceF k c) (hm : k + 2 ≤ m) : ∀ {ps : List (Int × Rat)} {a : Rat}, (∀ p ∈ ps, p ∈ r) → Nice m a → Nice (m + ps.length) (ps.foldl (stepM r b c l) a)
  | [], _, _, hg => hg
  | p :: ps, a, hp, hg => by
    have n1 : Nice m (c (l + 1) * share r p.1 * p.2) := (((hc (l + 1)).mul (h.sh p (hp p List.mem_cons_self))).mul (h.n p (hp p List.mem_cons_self))).mono hm
    have n2 : Nice (m + 1) (stepM r b c l a p) := by
      unfold stepM
      split
      · exact hg.add n1
      · exact hg.up
    have := stepM_nice h (b := b) (m := m + 1) (l := l) hc (by omega) (ps := ps) (fun q hq => hp q (List.mem_cons_of_mem _ hq)) n2
    rwa [show m + 1 + ps.length = m + (p :: ps).length by rw [List.length_cons]; omega] at this
theorem take_sub {r : ORow} {j : Nat} : ∀ p ∈ r.take j, p ∈ r := fun _ h => List.mem_of_mem_take h
theorem dF_nice {r : ORow} (h : RowOk r) (h3 : r.length ≤ 3) {b c : Nat → Rat} {k : Nat} (hc : NiceF k c) : ∀ l, NiceF (k + 1 + 3 * l) (dF r b c l)
  | 0 => fun i => by
    unfold dF updF; split
    · exact (hc 0).up
    · exact Nice.zero _
  | l + 1 => fun i => (stepF_nice h hc (by omega) (fun _ h => h) (dF_nice h h3 hc l) i).mono (by omega)
theorem dS_nice {r : ORow} (h : RowOk r) (h3 : r.length ≤ 3) {b c : Nat → Rat} {k : Nat} (hc : NiceF k c) : ∀ l, Nice (k + 1 + 3 * l) (dS r b c l)
  | 0 => Nice.zero _
  | l + 1 => (stepS_nice h hc (by omega) (fun _ h => h) (dS_nice h h3 hc l)).mono (by omega)
theorem dM_nice {r : ORow} (h : RowOk r) (h3 : r.length ≤ 3) {b c : Nat → Rat} {k : Nat} (hc : NiceF k c) : ∀ l, Nice (k + 2 + 3 * l) (dM r b c l)
  | 0 => Nice.zero _
  | l + 1 => (stepM_nice h hc (by omega) (fun _ h => h) (dM_nice h h3 hc l)).mono (by omega)
theorem lch_nice {rs : List ORow} {n : Nat} (h : ∀ r ∈ rs, RowOk r ∧ r.length ≤ 3) : ∀ {i : Nat}, i ≤ rs.length → NiceF ((1 + 3 * n) * i + 1) (lch rs n i)
  | 0, _ => fun j => (c0_nice j).mono (by omega)
  | i + 1, hi => fun l => by
    have hr : RowOk (rowAt rs i) ∧ (rowAt rs i).length ≤ 3 := by
      have : rs[i]? = some rs[i] := by simp [show i < rs.length by omega]
      rw [rowAt_of this]; exact h _ (List.getElem_mem (by omega))
    have := dF_nice hr.1 hr.2 (b := barAt rs i) (lch_nice (n := n) h (i := i) (by omega)) n l
    refine this.mono ?_
    rw [Nat.mul_succ]; omega
theorem x_low {q : Rat} {p : Kd → List D → Prop} (h : p .t [.int q.num, .int (q.den : Nat)]) : ∃ k m, lowD q = Kd.d k m ∧ p k m := ⟨.t, _, rfl, h⟩
end G
end

section
set_option maxRecDepth 100000
set_option maxHeartbeats 4000000
namespace K
open PySem PySem.Spec PyProof.Rows L2 G

/-! the pool that a law draws from -/
def poolK (W : Hp) (o : Option HO) : Prop := ∃ (a : Addr) (cells : List Int) (at_ : Nat) (big mix : Int), o = some (.lst [.ref a, .int at_, .int big, .int mix]) ∧
  W a = some (.lst (cells.map V.int)) ∧ at_ ≤ cells.length ∧ cells.length ≤ 63 ∧ 0 ≤ big ∧ 0 ≤ mix ∧ mix < 2 ^ 31
@[reducible] def CL (K : PySem.W.Frag) (n : Hp) : Cl where
  frac := He.ga K "Frac"
  cls := fun c => He.ga K (clsN c)
  pk := poolK
  m := n
  pkm := fun s ⟨a, c, n, b, m, h1, h2, h3⟩ => ⟨a, c, n, b, m, h1, s _ _ h2, h3⟩
  pks := fun ⟨_, _, _, _, _, h, _⟩ => ⟨_, h⟩
theorem fam (K : PySem.W.Frag) : Fam (CL K) := ⟨fun _ _ => rfl, fun _ _ => rfl, fun _ _ _ _ h => h, fun _ => rfl⟩
theorem atI_nat {α : Type} {l : List α} {i : Nat} {x : α} (h : l[i]? = some x) : atI l (i : Int) = some x := by
  have hl : i < l.length := (List.getElem?_eq_some_iff.mp h).1
  unfold atI ixN
  rw [if_pos (by omega), if_pos (by omega)]
  simpa using h
/-- data whose type is known -/
def _root_.G.D.isInt : D → Bool
  | .int _ => true
  | _ => false
def _root_.G.D.isSeq : D → Bool
  | .lst _ => true
  | .tup _ => true
  | .mls _ => true
  | _ => false
def _root_.G.D.isFrac : D → Bool
  | .frac _ => true
  | _ => false
def btwB (a b : Int) : D → Bool
  | .int i => decide (a ≤ i ∧ i ≤ b)
  | _ => false
theorem isFrac_ex : ∀ {d : D}, d.isFrac = true → ∃ q, d = .frac q
  | .frac q, _ => ⟨q, rfl⟩
def AmtD (d : D) (q : Rat) : Prop := (∃ i : Int, d = .int i ∧ q = (i : Rat)) ∨ d = .frac q
inductive Kn : D → Prop where
  | non : Kn .non
  | bl (b : Bool) : Kn (.bl b)
  | int (i : Int) : Kn (.int i)
  | str (s : Str) : Kn (.str s)
  | lst (l : List D) : Kn (.lst l)
  | tup (l : List D) : Kn (.tup l)
  | frac (q : Rat) : Kn (.frac q)
  | mls (l : List D) : Kn (.mls l)
def _root_.G.D.inst (d : D) (n : String) : Bool := match d with
  | .bl _ => n == "bool" || n == "int"
  | .int _ => n == "int"
  | .str _ => n == "str"
  | .lst _ => n == "list"
  | .tup _ => n == "tuple"
  | .mls _ => n == "list"
  | _ => false
theorem AmtD.kn {d : D} {q : Rat} : AmtD d q → Kn d
  | .inl ⟨i, h, _⟩ => h ▸ .int i
  | .inr h => h ▸ .frac q
section
variable {K : PySem.W.Frag} {nn : Hp} {mg : Str → Option Value} {B : Bs} {Q : D → Prop}
theorem ck_ty (T : Tx K mg) {d : D} (kn : Kn d) {n : String} (hn : n = "int" ∨ n = "bool" ∨ n = "list" ∨ n = "tuple" ∨ n = "str") (k : Q (.bl (d.inst n))) : CK (CL K nn) B (rIsU K) [d, .ty n] Q := by
  rcases hn with rfl | rfl | rfl | rfl | rfl <;> cases kn
  · exact ck_is (.non) (.ty _) (kit_ty (by decide +kernel : kitB "NoneType" "int" = some false)) k
  · exact ck_is (.bl _) (.ty _) (kit_ty (by decide +kernel : kitB "bool" "int" = some true)) k
  · exact ck_is (.int _) (.ty _) (kit_ty (by decide +kernel : kitB "int" "int" = some true)) k
  · exact ck_is (.str _) (.ty _) (kit_ty (by decide +kernel : kitB "str" "int" = some false)) k
  · exact ck_is (.lst _) (.ty _) (kit_ty (by decide +kernel : kitB "list" "int" = some false)) k
  · exact ck_is (.tup _) (.ty _) (kit_ty (by decide +kernel : kitB "tuple" "int" = some false)) k
  · exact ck_is (C := CL K nn) (.frac _ T.ins_Frac) (.ty _) T.kit_Frac_int k
  · exact ck_is (.mls _) (.ty _) (kit_ty (by decide +kernel : kitB "list" "int" = some false)) k
  · exact ck_is (.non) (.ty _) (kit_ty (by decide +kernel : kitB "NoneType" "bool" = some false)) k
  · exact ck_is (.bl _) (.ty _) (kit_ty (by decide +kernel : kitB "bool" "bool" = some true)) k
  · exact ck_is (.int _) (.ty _) (kit_ty (by decide +kernel : kitB "int" "bool" = some false)) k
  · exact ck_is (.str _) (.ty _) (kit_ty (by decide +kernel : kitB "str" "bool" = some false)) k
  · exact ck_is (.lst _) (.ty _) (kit_ty (by decide +kernel : kitB "list" "bool" = some false)) k
  · exact ck_is (.tup _) (.ty _) (kit_ty (by decide +kernel : kitB "tuple" "bool" = some false)) k
  · exact ck_is (C := CL K nn) (.frac _ T.ins_Frac) (.ty _) T.kit_Frac_bool k
  · exact ck_is (.mls _) (.ty _) (kit_ty (by decide +kernel : kitB "list" "bool" = some false)) k
  · exact ck_is (.non) (.ty _) (kit_ty (by decide +kernel : kitB "NoneType" "list" = some false)) k
  · exact ck_is (.bl _) (.ty _) (kit_ty (by decide +kernel : kitB "bool" "list" = some false)) k
  · exact ck_is (.int _) (.ty _) (kit_ty (by decide +kernel : kitB "int" "list" = some false)) k
  · exact ck_is (.str _) (.ty _) (kit_ty (by decide +kernel : kitB "str" "list" = some false)) k
  · exact ck_is (.lst _) (.ty _) (kit_ty (by decide +kernel : kitB "list" "list" = some true)) k
  · exact ck_is (.tup _) (.ty _) (kit_ty (by decide +kernel : kitB "tuple" "list" = some false)) k
  · exact ck_is (C := CL K nn) (.frac _ T.ins_Frac) (.ty _) T.kit_Frac_list k
  · exact ck_is (.mls _) (.ty _) (kit_ty (by decide +kernel : kitB "list" "list" = some true)) k
  · exact ck_is (.non) (.ty _) (kit_ty (by decide +kernel : kitB "NoneType" "tuple" = some false)) k
  · exact ck_is (.bl _) (.ty _) (kit_ty (by decide +kernel : kitB "bool" "tuple" = some false)) k
  · exact ck_is (.int _) (.ty _) (kit_ty (by decide +kernel : kitB "int" "tuple" = some false)) k
  · exact ck_is (.str _) (.ty _) (kit_ty (by decide +kernel : kitB "str" "tuple" = some false)) k
  · exact ck_is (.lst _) (.ty _) (kit_ty (by decide +kernel : kitB "list" "tuple" = some false)) k
  · exact ck_is (.tup _) (.ty _) (kit_ty (by decide +kernel : kitB "tuple" "tuple" = some true)) k
  · exact ck_is (C := CL K nn) (.frac _ T.ins_Frac) (.ty _) T.kit_Frac_tuple k
  · exact ck_is (.mls _) (.ty _) (kit_ty (by decide +kernel : kitB "list" "tuple" = some false)) k
  · exact ck_is (.non) (.ty _) (kit_ty (by decide +kernel : kitB "NoneType" "str" = some false)) k
  · exact ck_is (.bl _) (.ty _) (kit_ty (by decide +kernel : kitB "bool" "str" = some false)) k
  · exact ck_is (.int _) (.ty _) (kit_ty (by decide +kernel : kitB "int" "str" = some false)) k
  · exact ck_is (.str _) (.ty _) (kit_ty (by decide +kernel : kitB "str" "str" = some true)) k
  · exact ck_is (.lst _) (.ty _) (kit_ty (by decide +kernel : kitB "list" "str" = some false)) k
  · exact ck_is (.tup _) (.ty _) (kit_ty (by decide +kernel : kitB "tuple" "str" = some false)) k
  · exact ck_is (C := CL K nn) (.frac _ T.ins_Frac) (.ty _) T.kit_Frac_str k
  · exact ck_is (.mls _) (.ty _) (kit_ty (by decide +kernel : kitB "list" "str" = some false)) k
theorem ck_fr (T : Tx K mg) {d : D} (kn : Kn d) (k : Q (.bl d.isFrac)) : CK (CL K nn) B (rIsU K) [d, .cls (He.ga K "Frac")] Q := by
  cases kn
  · exact ck_is (.non) (.cls _) T.tik_Frac_NoneType k
  · exact ck_is (.bl _) (.cls _) T.tik_Frac_bool k
  · exact ck_is (.int _) (.cls _) T.tik_Frac_int k
  · exact ck_is (.str _) (.cls _) T.tik_Frac_str k
  · exact ck_is (.lst _) (.cls _) T.tik_Frac_list k
  · exact ck_is (.tup _) (.cls _) T.tik_Frac_tuple k
  · exact ck_is (C := CL K nn) (.frac _ T.ins_Frac) (.cls _) T.kic_Frac_Frac k
  · exact ck_is (.mls _) (.cls _) T.tik_Frac_list k
theorem ck_lt (T : Tx K mg) {d : D} (kn : Kn d) (k : Q (.bl d.isSeq)) : CK (CL K nn) B (rIsU K) [d, .tup [.ty "list", .ty "tuple"]] Q := by
  have two : ∀ {t : Value} {b : Bool}, PySem.W.kitOne K t (.type "list") = some b → ∀ {c : Bool}, PySem.W.kitOne K t (.type "tuple") = some c → PySem.W.kitAny K t [.type "list", .type "tuple"] = some (b || c) := fun h1 c h2 =>
    kitAny_cons h1 (fun hb => by subst hb; exact kitAny_cons h2 (fun hc => by subst hc; exact kitAny_nil) (fun hc => by subst hc; rfl)) (fun hb => by subst hb; rfl)
  have cs : Paired ClsD [D.ty "list", D.ty "tuple"] [.type "list", .type "tuple"] := .cons (.ty _) (.cons (.ty _) .nil)
  cases kn
  · exact ck_isT (.non) cs (two (b := false) (c := false) (kit_ty (by decide +kernel)) (kit_ty (by decide +kernel))) k
  · exact ck_isT (.bl _) cs (two (b := false) (c := false) (kit_ty (by decide +kernel)) (kit_ty (by decide +kernel))) k
  · exact ck_isT (.int _) cs (two (b := false) (c := false) (kit_ty (by decide +kernel)) (kit_ty (by decide +kernel))) k
  · exact ck_isT (.str _) cs (two (b := false) (c := false) (kit_ty (by decide +kernel)) (kit_ty (by decide +kernel))) k
  · exact ck_isT (.lst _) cs (two (b := true) (c := false) (kit_ty (by decide +kernel)) (kit_ty (by decide +kernel))) k
  · exact ck_isT (.tup _) cs (two (b := false) (c := true) (kit_ty (by decide +kernel)) (kit_ty (by decide +kernel))) k
  · exact ck_isT (C := CL K nn) (.frac _ T.ins_Frac) cs (two T.kit_Frac_list T.kit_Frac_tuple) k
  · exact ck_isT (.mls _) cs (two (b := true) (c := false) (kit_ty (by decide +kernel)) (kit_ty (by decide +kernel))) k
theorem k_num (T : Tx K mg) {Γ : List Sl} {ta : TE} (h : EK (CL K nn) B Γ ta fun d => ∃ q, d = .frac q ∧ Q (.int q.num)) : EK (CL K nn) B Γ (tFld K ta "num") Q := ek_num (C := CL K nn) T.cl_Frac T.no_Frac_num h
theorem k_den (T : Tx K mg) {Γ : List Sl} {ta : TE} (h : EK (CL K nn) B Γ ta fun d => ∃ q, d = .frac q ∧ Q (.int q.den)) : EK (CL K nn) B Γ (tFld K ta "den") Q := ek_den (C := CL K nn) T.cl_Frac T.no_Frac_den h
theorem k_mk2 {Γ : List Sl} {S : List D → (List (Str × D) → Prop) → Prop} {ta : TA} (h : AK (CL K nn) B Γ ta fun l => S l fun fl => ∃ q : Rat, fl = fracL q ∧ Q (.frac q)) : EK (CL K nn) B Γ (tMake (He.ga K "Frac") (SpFamI (CL K) (He.ga K "Frac") S) [] E0 ta) Q :=
  ek_mkFF (F := CL K) (n := nn) rfl (dds := []) (fun _ => .nil) (by simpa using h)
theorem k_mk1 {Γ : List Sl} {S : List D → (List (Str × D) → Prop) → Prop} {ta : TA} (h : AK (CL K nn) B Γ ta fun l => S (l ++ [.int 1]) fun fl => ∃ q : Rat, fl = fracL q ∧ Q (.frac q)) : EK (CL K nn) B Γ (tMake (He.ga K "Frac") (SpFamI (CL K) (He.ga K "Frac") S) [.int 1] E0 ta) Q :=
  ek_mkFF (F := CL K) (n := nn) rfl (dds := [.int 1]) (fun _ => .cons (.int 1) .nil) h
theorem k_call {Γ : List Sl} {S : List D → (D → Prop) → Prop} {t : TA} (h : AK (CL K nn) B Γ t fun l => S l Q) : EK (CL K nn) B Γ (tCall (SpFam (CL K) S) [] E0 t) Q := ek_callF (F := CL K) (n := nn) h
theorem k_bel {Γ : List Sl} {S : List D → (D → Prop) → Prop} {ta : TE} {t : TA} (h : EK (CL K nn) B Γ ta fun d0 => ∃ q, d0 = .frac q ∧ AK (CL K nn) B Γ t fun l => S (.frac q :: l) Q) : EK (CL K nn) B Γ (tMeth (He.ga K "Frac") "is_below" (SpFam (CL K) S) [] E0 ta t) Q := ek_methFF (F := CL K) (n := nn) rfl (fun q => rfl) h
theorem k_own {S : List D → (D → Prop) → Prop} {p q : Rat} (h : S [.frac p, .frac q] Q) : RK (CL K nn) B (rOwn (He.ga K "Frac") (SpFam (CL K) S)) (.frac p) (.frac q) Q := rk_ownF (F := CL K) (n := nn) rfl h
theorem k_fldS (T : Tx K mg) {Γ : List Sl} {te : TE} {i : Nat} {fl : List (Str × D)} {f : Str} {nx bk ct : List Sl → Prop} {rt : List Sl → D → Prop} (hs : Γ[i]? = some (.ins (He.ga K "Frac") fl)) (hf : f = "num" ∨ f = "den") (hl0 : Nat.blt fl.length 1000 = true) (h : EK (CL K nn) B Γ te fun d => nx (Γ.set i (.ins (He.ga K "Frac") (putD f d fl)))) : SX (CL K nn) B Γ (sFld K (tVar i) te f) nx rt bk ct := by
  have hl : fl.length < 1000 := Nat.le_of_ble_eq_true hl0
  rcases hf with rfl | rfl
  · exact sx_fld hs T.cl_Frac T.no_Frac_num hl h
  · exact sx_fld hs T.cl_Frac T.no_Frac_den hl h
theorem k_callX {E : XK} {KX : Str → List (Str × D) → Prop} {Γ : List Sl} {S : List D → (D → Prop) → (Str → List (Str × D) → Prop) → Prop} {t : TA} (o : XO K (CL K nn) B E KX) (h : AK (CL K nn) B Γ t fun l => S l Q KX) : EK (CL K nn) B Γ (tCall (SpFamX K (CL K) S) [] E t) Q := ek_callX (F := CL K) (n := nn) o h
end
section
local macro_rules | `(tactic| walk_at "e") => `(tactic| first
  | ((with_reducible refine' ek_var ?h1 ?_); (case h1 => exact rfl))
  | (with_reducible refine ek_int ?_)
  | (with_reducible refine ek_bl ?_)
  | (with_reducible refine ek_non ?_)
  | (with_reducible refine ek_str ?_)
  | (with_reducible refine ek_ty ?_)
  | (with_reducible refine ek_cls ?_)
  | (with_reducible refine ek_ix ?_)
  | (with_reducible refine ek_un ?_)
  | (with_reducible refine ek_tup ?_)
  | (with_reducible refine k_call ?_)
  | (with_reducible refine ek_len ?_)
  | (with_reducible refine ek_tuple ?_)
  | (with_reducible refine ek_sum ?_)
  | (with_reducible refine ek_all ?_)
  | (with_reducible refine ek_any ?_)
  | (with_reducible refine ek_chain ?_)
  | (with_reducible refine ek_andV ?_)
  | (with_reducible refine ek_orV ?_)
  | (with_reducible refine ek_notV ?_)
  | (with_reducible refine ek_if ?_)
  | (with_reducible refine ek_ef (ef_lst ?_))
  | (with_reducible refine ek_ef (ef_list ?_))
  | (with_reducible refine ek_ef (ef_cat ?_))
  | (with_reducible refine ek_ef (ef_rep ?_))
  | (with_reducible refine ek_ef (ef_slice ?_))
  | (with_reducible refine ek_ef (ef_rev ?_))
  | (with_reducible refine ek_ef (ef_lstRev ?_))
  | (with_reducible refine ek_ef (ef_map ?_))
  | (with_reducible refine ek_ef (ef_filt ?_))
  | (with_reducible refine ef_lst ?_)
  | (with_reducible refine ef_list ?_)
  | (with_reducible refine ef_cat ?_)
  | (with_reducible refine ef_rep ?_)
  | (with_reducible refine ef_slice ?_)
  | (with_reducible refine ef_rev ?_)
  | (with_reducible refine ef_lstRev ?_)
  | (with_reducible refine ef_map ?_)
  | (with_reducible refine ef_filt ?_)
  | ((with_reducible refine' el_var ?h1 ?_); (case h1 => exact rfl))
  | ((with_reducible refine' el_own ?h1 ?_); (case h1 => exact rfl))
  | (with_reducible refine el_ef (ef_lst ?_))
  | (with_reducible refine el_ef (ef_list ?_))
  | (with_reducible refine el_ef (ef_cat ?_))
  | (with_reducible refine el_ef (ef_rep ?_))
  | (with_reducible refine el_ef (ef_slice ?_))
  | (with_reducible refine el_ef (ef_rev ?_))
  | (with_reducible refine el_ef (ef_lstRev ?_))
  | (with_reducible refine el_ef (ef_map ?_))
  | (with_reducible refine el_ef (ef_filt ?_))
  | (with_reducible refine ek_op ?_)
  | (with_reducible refine ek_cb ?_)
  | (with_reducible refine el_ek ?_)
  | (with_reducible refine tk_test ?_)
  | (with_reducible refine tk_B ?_)
  | (with_reducible refine tk_and ?_)
  | (with_reducible refine tk_or ?_)
  | (with_reducible refine tk_not ?_)
  | (with_reducible refine tk_yes ?_)
  | (with_reducible refine ak_nil ?_)
  | (with_reducible refine ak_cons ?_)
  | (with_reducible refine k_num (‹Tx _ _›) ?_)
  | (with_reducible refine k_den (‹Tx _ _›) ?_)
  | (with_reducible refine k_mk2 ?_)
  | (with_reducible refine k_mk1 ?_)
  | (with_reducible refine k_bel ?_)
  | (with_reducible refine k_own ?_)
  | (with_reducible refine rk_U2 (k_own ?_))
  | (with_reducible refine rk_mul (Sz.mul (by assumption) (by assumption)) ?_)
  | (with_reducible refine rk_U1 (rk_mul (Sz.mul (by assumption) (by assumption)) ?_))
  | (with_reducible refine ek_dget ?_)
  | (with_reducible refine uk_neg ?_)
  | (with_reducible refine ek_disp ?_)
  | (with_reducible refine pk_cons ?_)
  | (with_reducible refine pk_nil ?_)
  | (with_reducible refine rk_mod (by assumption) ?_)
  | (with_reducible refine rk_add ?_)
  | (with_reducible refine rk_sub ?_)
  | (with_reducible refine rk_lt ?_)
  | (with_reducible refine rk_le ?_)
  | (with_reducible refine rk_gt ?_)
  | (with_reducible refine rk_ge ?_)
  | (with_reducible refine rk_eqI ?_)
  | (with_reducible refine rk_neI ?_)
  | (with_reducible refine rk_isN ?_)
  | (with_reducible refine rk_notN ?_)
  | (with_reducible refine rk_U1 (rk_add ?_))
  | (with_reducible refine rk_U1 (rk_sub ?_))
  | (with_reducible refine ck_gcd ?_)
  | (with_reducible refine ck_abs ?_)
  | (with_reducible refine ck_int ?_)
  | (with_reducible refine ik_seq ?_)
  | (with_reducible refine ik_range1 ?_)
  | (with_reducible refine ik_range2 ?_)
  | (with_reducible refine ik_enumA ?_)
  | (with_reducible refine ik_zip ?_)
  | (with_reducible refine ik_rev ?_)
  | ((with_reducible refine' cg_name ?_ ?h1 ?h2); (case h1 => exact rfl); (case h2 => decide))
  | ((with_reducible refine' cg_anyT ?h1 ?_); (case h1 => exact rfl))
  | ((with_reducible refine' cg_anyL ?h1 ?_); (case h1 => exact rfl))
  | ((with_reducible refine' cg_anyK ?h1 ?_); (case h1 => exact rfl))
  | ((with_reducible refine' cgs_cons ?_ ?h1 ?h2); (case h1 => exact rfl); (case h2 => decide))
  | (with_reducible refine cgs_nil ?_)
  | ((with_reducible refine' gk_name ?_ ?h1); (case h1 => exact rfl))
  | ((with_reducible refine' gk_anyT ?h1 ?_); (case h1 => exact rfl))
  | ((with_reducible refine' gk_anyL ?h1 ?_); (case h1 => exact rfl))
  | ((with_reducible refine' gk_anyK ?h1 ?_); (case h1 => exact rfl))
  | ((with_reducible refine' gks_cons ?_ ?h1); (case h1 => exact rfl))
  | ((with_reducible refine' gks_consA (n := 0) ?_ ?h1 ?h2); (case h1 => exact rfl); (case h2 => exact rfl))
  | ((with_reducible refine' gks_consB ?h0 ?_ ?h1 ?h2); (case h0 => exact rfl); (case h1 => exact rfl); (case h2 => exact rfl))
  | (with_reducible refine gks_nil ?_)
  | (with_reducible refine ok_none ?_)
  | (with_reducible refine ok_some ?_))
local macro_rules | `(tactic| walk_at "s") => `(tactic| first
  | (with_reducible refine sx_guard ?_ ?_)
  | (with_reducible refine sx_seq ?_)
  | ((with_reducible refine' sx_retO ?h1 ?_); (case h1 => exact rfl))
  | (with_reducible refine sx_ret ?_)
  | (with_reducible refine sx_if ?_)
  | (with_reducible refine sx_next ?_)
  | (with_reducible refine sx_break ?_)
  | (with_reducible refine sx_cont ?_)
  | ((with_reducible refine' sx_append ?h1 ?_); (case h1 => exact rfl))
  | ((with_reducible refine' sx_setI ?h1 ?_); (case h1 => exact rfl))
  | ((with_reducible refine' sx_set ?h1 ?_); (case h1 => exact rfl))
  | (with_reducible refine sx_asg ?_)
  | ((with_reducible refine' sx_par ?h1 ?h2 ?_); (case h1 => exact rfl); (case h2 => exact rfl))
  | (with_reducible refine sx_drop ?_)
  | ((with_reducible refine' k_fldS (‹Tx _ _›) ?h1 ?h2 ?h3 ?_); (case h1 => exact rfl); (case h2 => decide); (case h3 => exact rfl)))
/-! plain existentials that the rules leave -/
local macro_rules | `(tactic| walk_at "x") => `(tactic| first
  | (with_reducible refine x_bl ?_)
  | (with_reducible refine x_int ?_)
  | (with_reducible refine x_frac ?_)
  | (with_reducible refine x_lst ?_)
  | (with_reducible refine x_tup ?_)
  | (with_reducible refine x_kd ?_)
  | (with_reducible refine x_oneL ?_)
  | (with_reducible refine x_oneT ?_)
  | (with_reducible refine x_one ?_)
  | ((with_reducible refine' x_at ?h1 ?_); (case h1 => exact rfl))
  | ((with_reducible refine' x_dic ?h1 ?_); (case h1 => exact rfl))
  | (with_reducible refine (⟨rfl, ?_⟩ : Kd.l = Kd.l ∧ _))
  | ((with_reducible refine' x_len ?h1 ?_); (case h1 => exact rfl))
  | ((with_reducible refine' br_t ?h1 ?_); (case h1 => exact rfl))
  | ((with_reducible refine' br_f ?h1 ?_); (case h1 => exact rfl)))
local macro_rules | `(tactic| walk_at "f") => `(tactic| first
  | ((with_reducible refine' sx_forW ?h1 ?_); (case h1 => exact rfl))
  | (with_reducible refine sx_forGW ?_))
local macro_rules | `(tactic| walk_at "g") => `(tactic| repeat (first | walk_at "s" | walk_at "f" | walk_at "e" | walk_at "x"))
local macro_rules | `(tactic| walk_at "v") => `(tactic| repeat (first | walk_at "e" | walk_at "x"))
local macro_rules | `(tactic| walk_at "h") => `(tactic| repeat (first | walk_at "s" | walk_at "e" | walk_at "x"))
variable {P : Program} {w : World} {K : PySem.W.Frag} {mg : Str → Option Value} {base : Heap}

def S_is_integer : List D → (D → Prop) → Prop := fun l K => ∃ d, l = [d] ∧ Kn d ∧ K (.bl d.isInt)
theorem ok_is_integer (T : Tx K mg)  : Cal P w K mg base 1 "is_integer" ["value"] (SpFam (CL K) S_is_integer) := by
  refine cal_mkF (N := ["value"]) T.g_is_integer T.d_is_integer sc_is_integer (fun _ _ _ _ _ _ us hl => match us, hl with | [_], _ => rfl) (by intro l Q h; first | (obtain ⟨rfl, _⟩ := h; rfl) | (obtain ⟨_, rfl, _⟩ := h; rfl) | (obtain ⟨_, _, rfl, _⟩ := h; rfl) | (obtain ⟨_, _, _, rfl, _⟩ := h; rfl) | (obtain ⟨_, _, _, _, rfl, _⟩ := h; rfl) | (obtain ⟨_, _, _, _, _, rfl, _⟩ := h; rfl) | (obtain ⟨_, _, _, _, _, _, rfl, _⟩ := h; rfl) | (obtain ⟨_, _, _, _, _, _, _, rfl, _⟩ := h; rfl) | (obtain ⟨_, _, _, _, _, _, _, _, rfl, _⟩ := h; rfl) | (obtain ⟨_, _, _, _, _, _, _, _, _, rfl, _⟩ := h; rfl) | (obtain ⟨_, _, _, _, _, _, _, _, _, _, rfl, _⟩ := h; rfl) | (obtain ⟨_, _, _, _, _, _, _, _, _, _, _, rfl, _⟩ := h; rfl)) (fun f cdv A outer s H E hr => ⟨_, (pss_one (ps_ret (pe_and (pe_callB (cr_isK K rfl) (by rfl) T.b_isinstance (by decide +kernel) (pa_cons (pv 0) (pa_cons (pe_bltn (v := .ty "int") (by rfl) T.b_int (by decide +kernel) rfl) pa_nil))) (pe_one (pe_not (pe_callB (cr_isK K rfl) (by rfl) T.b_isinstance (by decide +kernel) (pa_cons (pv 0) (pa_cons (pe_bltn (v := .ty "bool") (by rfl) T.b_bool (by decide +kernel) rfl) pa_nil)))))))), ?_⟩)
  intro nn B l Q h
  obtain ⟨d, rfl, kn, h⟩ := h
  walk_at "g"
  refine ck_ty T kn (.inl rfl) ?_
  walk_at "x"
  refine ⟨fun hb => ?_, fun hb => ?_⟩
  · walk_at "g"
    refine ck_ty T kn (.inr (.inl rfl)) ?_
    walk_at "g"
    cases kn <;> first | exact h | cases hb
  · cases kn <;> first | exact h | cases hb

def S_is_between : List D → (D → Prop) → Prop := fun l K => ∃ d a b, l = [d, .int a, .int b] ∧ Kn d ∧ K (.bl (btwB a b d))
theorem ok_is_between (T : Tx K mg) (c_is_integer : Cal P w K mg base 1 "is_integer" ["value"] (SpFam (CL K) S_is_integer)) : Cal P w K mg base 2 "is_between" ["value", "least", "most"] (SpFam (CL K) S_is_between) := by
  refine cal_mkF (N := ["value", "least", "most"]) T.g_is_between T.d_is_between sc_is_between (fun _ _ _ _ _ _ us hl => match us, hl with | [_, _, _], _ => rfl) (by intro l Q h; first | (obtain ⟨rfl, _⟩ := h; rfl) | (obtain ⟨_, rfl, _⟩ := h; rfl) | (obtain ⟨_, _, rfl, _⟩ := h; rfl) | (obtain ⟨_, _, _, rfl, _⟩ := h; rfl) | (obtain ⟨_, _, _, _, rfl, _⟩ := h; rfl) | (obtain ⟨_, _, _, _, _, rfl, _⟩ := h; rfl) | (obtain ⟨_, _, _, _, _, _, rfl, _⟩ := h; rfl) | (obtain ⟨_, _, _, _, _, _, _, rfl, _⟩ := h; rfl) | (obtain ⟨_, _, _, _, _, _, _, _, rfl, _⟩ := h; rfl) | (obtain ⟨_, _, _, _, _, _, _, _, _, rfl, _⟩ := h; rfl) | (obtain ⟨_, _, _, _, _, _, _, _, _, _, rfl, _⟩ := h; rfl) | (obtain ⟨_, _, _, _, _, _, _, _, _, _, _, rfl, _⟩ := h; rfl)) (fun f cdv A outer s H E hr => ⟨_, (pss_one (ps_ret (pe_and (pe_calC c_is_integer hr (by decide) (by rfl) (pa_cons (pv 0) pa_nil)) (pe_one (pe_chain op_leI op_leI (pv 1) (pv 0) (pv 2)))))), ?_⟩)
  intro nn B l Q h
  obtain ⟨d, a, b, rfl, kn, h⟩ := h
  walk_at "g"
  refine ⟨_, rfl, kn, ?_⟩
  walk_at "x"
  refine ⟨fun hb => ?_, fun hb => ?_⟩
  · cases kn <;> first | cases hb | skip
    walk_at "g"
    refine ⟨fun hb => ?_, fun hb => ?_⟩
    · have h1 : a ≤ _ := of_decide_eq_true hb
      walk_at "g"
      unfold btwB at h
      simpa [h1] using h
    · have h1 : ¬ a ≤ _ := of_decide_eq_false hb
      unfold btwB at h
      simpa [h1] using h
  · cases kn <;> first | exact h | cases hb

def S_is_sequence : List D → (D → Prop) → Prop := fun l K => ∃ d, l = [d] ∧ Kn d ∧ K (.bl d.isSeq)
theorem ok_is_sequence (T : Tx K mg)  : Cal P w K mg base 1 "is_sequence" ["value"] (SpFam (CL K) S_is_sequence) := by
  refine cal_mkF (N := ["value"]) T.g_is_sequence T.d_is_sequence sc_is_sequence (fun _ _ _ _ _ _ us hl => match us, hl with | [_], _ => rfl) (by intro l Q h; first | (obtain ⟨rfl, _⟩ := h; rfl) | (obtain ⟨_, rfl, _⟩ := h; rfl) | (obtain ⟨_, _, rfl, _⟩ := h; rfl) | (obtain ⟨_, _, _, rfl, _⟩ := h; rfl) | (obtain ⟨_, _, _, _, rfl, _⟩ := h; rfl) | (obtain ⟨_, _, _, _, _, rfl, _⟩ := h; rfl) | (obtain ⟨_, _, _, _, _, _, rfl, _⟩ := h; rfl) | (obtain ⟨_, _, _, _, _, _, _, rfl, _⟩ := h; rfl) | (obtain ⟨_, _, _, _, _, _, _, _, rfl, _⟩ := h; rfl) | (obtain ⟨_, _, _, _, _, _, _, _, _, rfl, _⟩ := h; rfl) | (obtain ⟨_, _, _, _, _, _, _, _, _, _, rfl, _⟩ := h; rfl) | (obtain ⟨_, _, _, _, _, _, _, _, _, _, _, rfl, _⟩ := h; rfl)) (fun f cdv A outer s H E hr => ⟨_, (pss_one (ps_ret (pe_callB (cr_isK K rfl) (by rfl) T.b_isinstance (by decide +kernel) (pa_cons (pv 0) (pa_cons (pe_tup (pa_cons (pe_bltn (v := .ty "list") (by rfl) T.b_list (by decide +kernel) rfl) (pa_cons (pe_bltn (v := .ty "tuple") (by rfl) T.b_tuple (by decide +kernel) rfl) pa_nil))) pa_nil))))), ?_⟩)
  intro nn B l Q h
  obtain ⟨d, rfl, kn, h⟩ := h
  walk_at "g"
  exact ck_lt T kn h

end

end K
end

section
set_option maxRecDepth 100000
set_option maxHeartbeats 4000000
namespace K
open PySem PySem.Spec PyProof.Rows L2 G

def seqOf : D → Option (List D)
  | .lst l => some l
  | .tup l => some l
  | .mls l => some l
  | _ => none
theorem seqOf_kd {k : Kd} {xs : List D} : seqOf (Kd.d k xs) = some xs := by cases k <;> rfl
theorem isSeq_ex : ∀ {d : D}, d.isSeq = true → ∃ k xs, d = Kd.d k xs
  | .lst l, _ => ⟨.l, l, rfl⟩
  | .tup l, _ => ⟨.t, l, rfl⟩
  | .mls l, _ => ⟨.m, l, rfl⟩
/-- data of which all is known -/
inductive KnR : D → Prop where
  | non : KnR .non
  | bl (b : Bool) : KnR (.bl b)
  | int (i : Int) : KnR (.int i)
  | str (s : Str) : KnR (.str s)
  | frac {q : Rat} (h : SzQ q) : KnR (.frac q)
  | lst {l : List D} (h : ∀ x ∈ l, KnR x) (n : l.length ≤ 1000) : KnR (.lst l)
  | tup {l : List D} (h : ∀ x ∈ l, KnR x) (n : l.length ≤ 1000) : KnR (.tup l)
  | mls {l : List D} (h : ∀ x ∈ l, KnR x) (n : l.length ≤ 1000) : KnR (.mls l)
theorem KnR.kn {d : D} (h : KnR d) : Kn d := by cases h <;> constructor
theorem KnR.seq {d : D} {xs : List D} (h : KnR d) (e : seqOf d = some xs) : (∀ x ∈ xs, KnR x) ∧ xs.length ≤ 1000 := by
  cases h <;> first | (cases e; done) | (cases e; exact ⟨‹_›, ‹_›⟩)
theorem KnR.kd {k : Kd} {l : List D} (h : ∀ x ∈ l, KnR x) (n : l.length ≤ 1000) : KnR (Kd.d k l) := by
  cases k
  · exact .lst h n
  · exact .tup h n
  · exact .mls h n
/-- a number that may be a cost or a worth -/
def amtB : D → Bool
  | .int i => decide (-9999 ≤ i ∧ i ≤ 9999)
  | .frac q => decide (-9999 ≤ q.num ∧ q.num ≤ 9999 ∧ q.den ≤ 99)
  | _ => false
def valA : D → Rat
  | .int i => (i : Rat)
  | .frac q => q
  | _ => 0
theorem amt_d : ∀ {d : D}, amtB d = true → AmtD d (valA d)
  | .int i, _ => .inl ⟨i, rfl, rfl⟩
  | .frac q, _ => .inr rfl
theorem amt_b : ∀ {d : D} {q : Rat}, AmtD d q → amtB d = decide (-9999 ≤ q.num ∧ q.num ≤ 9999 ∧ q.den ≤ 99) ∧ valA d = q
  | _, q, .inl ⟨i, e, h⟩ => by
    subst e; subst h
    refine ⟨?_, rfl⟩
    unfold amtB
    refine decide_eq_decide.mpr ⟨fun h => ⟨h.1, h.2, ?_⟩, fun h => ⟨h.1, h.2.1⟩⟩
    rw [Rat.den_intCast]; decide
  | _, q, .inr e => by subst e; exact ⟨rfl, rfl⟩
theorem amt_sz {d : D} (h : amtB d = true) : SzQ (valA d) := by
  have a := amt_d h
  have b := (amt_b a).1
  rw [h] at b
  have b := of_decide_eq_true b.symm
  exact ⟨of_small (n := 9999) (by omega) (by decide), of_small (n := 99) (by omega) (by decide)⟩
theorem rat_int {q : Rat} (h : q.den = 1) : q = (q.num : Rat) := by
  refine Rat.ext ?_ ?_
  · rw [Rat.num_intCast]
  · rw [Rat.den_intCast, h]
section
local macro_rules | `(tactic| walk_at "e") => `(tactic| first
  | ((with_reducible refine' ek_var ?h1 ?_); (case h1 => exact rfl))
  | (with_reducible refine ek_int ?_)
  | (with_reducible refine ek_bl ?_)
  | (with_reducible refine ek_non ?_)
  | (with_reducible refine ek_str ?_)
  | (with_reducible refine ek_ty ?_)
  | (with_reducible refine ek_cls ?_)
  | (with_reducible refine ek_ix ?_)
  | (with_reducible refine ek_un ?_)
  | (with_reducible refine ek_tup ?_)
  | (with_reducible refine k_call ?_)
  | (with_reducible refine ek_len ?_)
  | (with_reducible refine ek_tuple ?_)
  | (with_reducible refine ek_sum ?_)
  | (with_reducible refine ek_all ?_)
  | (with_reducible refine ek_any ?_)
  | (with_reducible refine ek_chain ?_)
  | (with_reducible refine ek_andV ?_)
  | (with_reducible refine ek_orV ?_)
  | (with_reducible refine ek_notV ?_)
  | (with_reducible refine ek_if ?_)
  | (with_reducible refine ek_ef (ef_lst ?_))
  | (with_reducible refine ek_ef (ef_list ?_))
  | (with_reducible refine ek_ef (ef_cat ?_))
  | (with_reducible refine ek_ef (ef_rep ?_))
  | (with_reducible refine ek_ef (ef_slice ?_))
  | (with_reducible refine ek_ef (ef_rev ?_))
  | (with_reducible refine ek_ef (ef_lstRev ?_))
  | (with_reducible refine ek_ef (ef_map ?_))
  | (with_reducible refine ek_ef (ef_filt ?_))
  | (with_reducible refine ef_lst ?_)
  | (with_reducible refine ef_list ?_)
  | (with_reducible refine ef_cat ?_)
  | (with_reducible refine ef_rep ?_)
  | (with_reducible refine ef_slice ?_)
  | (with_reducible refine ef_rev ?_)
  | (with_reducible refine ef_lstRev ?_)
  | (with_reducible refine ef_map ?_)
  | (with_reducible refine ef_filt ?_)
  | ((with_reducible refine' el_var ?h1 ?_); (case h1 => exact rfl))
  | ((with_reducible refine' el_own ?h1 ?_); (case h1 => exact rfl))
  | (with_reducible refine el_ef (ef_lst ?_))
  | (with_reducible refine el_ef (ef_list ?_))
  | (with_reducible refine el_ef (ef_cat ?_))
  | (with_reducible refine el_ef (ef_rep ?_))
  | (with_reducible refine el_ef (ef_slice ?_))
  | (with_reducible refine el_ef (ef_rev ?_))
  | (with_reducible refine el_ef (ef_lstRev ?_))
  | (with_reducible refine el_ef (ef_map ?_))
  | (with_reducible refine el_ef (ef_filt ?_))
  | (with_reducible refine ek_op ?_)
  | (with_reducible refine ek_cb ?_)
  | (with_reducible refine el_ek ?_)
  | (with_reducible refine tk_test ?_)
  | (with_reducible refine tk_B ?_)
  | (with_reducible refine tk_and ?_)
  | (with_reducible refine tk_or ?_)
  | (with_reducible refine tk_not ?_)
  | (with_reducible refine tk_yes ?_)
  | (with_reducible refine ak_nil ?_)
  | (with_reducible refine ak_cons ?_)
  | (with_reducible refine k_num (‹Tx _ _›) ?_)
  | (with_reducible refine k_den (‹Tx _ _›) ?_)
  | (with_reducible refine k_mk2 ?_)
  | (with_reducible refine k_mk1 ?_)
  | (with_reducible refine k_bel ?_)
  | (with_reducible refine k_own ?_)
  | (with_reducible refine rk_U2 (k_own ?_))
  | (with_reducible refine rk_mul (Sz.mul (by assumption) (by assumption)) ?_)
  | (with_reducible refine rk_U1 (rk_mul (Sz.mul (by assumption) (by assumption)) ?_))
  | (with_reducible refine ek_dget ?_)
  | (with_reducible refine uk_neg ?_)
  | (with_reducible refine ek_disp ?_)
  | (with_reducible refine pk_cons ?_)
  | (with_reducible refine pk_nil ?_)
  | (with_reducible refine rk_mod (by assumption) ?_)
  | (with_reducible refine rk_add ?_)
  | (with_reducible refine rk_sub ?_)
  | (with_reducible refine rk_lt ?_)
  | (with_reducible refine rk_le ?_)
  | (with_reducible refine rk_gt ?_)
  | (with_reducible refine rk_ge ?_)
  | (with_reducible refine rk_eqI ?_)
  | (with_reducible refine rk_neI ?_)
  | (with_reducible refine rk_isN ?_)
  | (with_reducible refine rk_notN ?_)
  | (with_reducible refine rk_U1 (rk_add ?_))
  | (with_reducible refine rk_U1 (rk_sub ?_))
  | (with_reducible refine ck_gcd ?_)
  | (with_reducible refine ck_abs ?_)
  | (with_reducible refine ck_int ?_)
  | (with_reducible refine ik_seq ?_)
  | (with_reducible refine ik_range1 ?_)
  | (with_reducible refine ik_range2 ?_)
  | (with_reducible refine ik_enumA ?_)
  | (with_reducible refine ik_zip ?_)
  | (with_reducible refine ik_rev ?_)
  | ((with_reducible refine' cg_name ?_ ?h1 ?h2); (case h1 => exact rfl); (case h2 => decide))
  | ((with_reducible refine' cg_anyT ?h1 ?_); (case h1 => exact rfl))
  | ((with_reducible refine' cg_anyL ?h1 ?_); (case h1 => exact rfl))
  | ((with_reducible refine' cg_anyK ?h1 ?_); (case h1 => exact rfl))
  | ((with_reducible refine' cgs_cons ?_ ?h1 ?h2); (case h1 => exact rfl); (case h2 => decide))
  | (with_reducible refine cgs_nil ?_)
  | ((with_reducible refine' gk_name ?_ ?h1); (case h1 => exact rfl))
  | ((with_reducible refine' gk_anyT ?h1 ?_); (case h1 => exact rfl))
  | ((with_reducible refine' gk_anyL ?h1 ?_); (case h1 => exact rfl))
  | ((with_reducible refine' gk_anyK ?h1 ?_); (case h1 => exact rfl))
  | ((with_reducible refine' gks_cons ?_ ?h1); (case h1 => exact rfl))
  | ((with_reducible refine' gks_consA (n := 0) ?_ ?h1 ?h2); (case h1 => exact rfl); (case h2 => exact rfl))
  | ((with_reducible refine' gks_consB ?h0 ?_ ?h1 ?h2); (case h0 => exact rfl); (case h1 => exact rfl); (case h2 => exact rfl))
  | (with_reducible refine gks_nil ?_)
  | (with_reducible refine ok_none ?_)
  | (with_reducible refine ok_some ?_))
local macro_rules | `(tactic| walk_at "s") => `(tactic| first
  | (with_reducible refine sx_guard ?_ ?_)
  | (with_reducible refine sx_seq ?_)
  | ((with_reducible refine' sx_retO ?h1 ?_); (case h1 => exact rfl))
  | (with_reducible refine sx_ret ?_)
  | (with_reducible refine sx_if ?_)
  | (with_reducible refine sx_next ?_)
  | (with_reducible refine sx_break ?_)
  | (with_reducible refine sx_cont ?_)
  | ((with_reducible refine' sx_append ?h1 ?_); (case h1 => exact rfl))
  | ((with_reducible refine' sx_setI ?h1 ?_); (case h1 => exact rfl))
  | ((with_reducible refine' sx_set ?h1 ?_); (case h1 => exact rfl))
  | (with_reducible refine sx_asg ?_)
  | ((with_reducible refine' sx_par ?h1 ?h2 ?_); (case h1 => exact rfl); (case h2 => exact rfl))
  | (with_reducible refine sx_drop ?_)
  | ((with_reducible refine' k_fldS (‹Tx _ _›) ?h1 ?h2 ?h3 ?_); (case h1 => exact rfl); (case h2 => decide); (case h3 => exact rfl)))
/-! plain existentials that the rules leave -/
local macro_rules | `(tactic| walk_at "x") => `(tactic| first
  | (with_reducible refine x_bl ?_)
  | (with_reducible refine x_int ?_)
  | (with_reducible refine x_frac ?_)
  | (with_reducible refine x_lst ?_)
  | (with_reducible refine x_tup ?_)
  | (with_reducible refine x_kd ?_)
  | (with_reducible refine x_oneL ?_)
  | (with_reducible refine x_oneT ?_)
  | (with_reducible refine x_one ?_)
  | ((with_reducible refine' x_at ?h1 ?_); (case h1 => exact rfl))
  | ((with_reducible refine' x_dic ?h1 ?_); (case h1 => exact rfl))
  | (with_reducible refine (⟨rfl, ?_⟩ : Kd.l = Kd.l ∧ _))
  | ((with_reducible refine' x_len ?h1 ?_); (case h1 => exact rfl))
  | ((with_reducible refine' br_t ?h1 ?_); (case h1 => exact rfl))
  | ((with_reducible refine' br_f ?h1 ?_); (case h1 => exact rfl)))
local macro_rules | `(tactic| walk_at "f") => `(tactic| first
  | ((with_reducible refine' sx_forW ?h1 ?_); (case h1 => exact rfl))
  | (with_reducible refine sx_forGW ?_))
local macro_rules | `(tactic| walk_at "g") => `(tactic| repeat (first | walk_at "s" | walk_at "f" | walk_at "e" | walk_at "x"))
local macro_rules | `(tactic| walk_at "v") => `(tactic| repeat (first | walk_at "e" | walk_at "x"))
local macro_rules | `(tactic| walk_at "h") => `(tactic| repeat (first | walk_at "s" | walk_at "e" | walk_at "x"))
variable {P : Program} {w : World} {K : PySem.W.Frag} {mg : Str → Option Value} {base : Heap}

theorem rat_add (p q : Rat) : Rat.divInt (p.num * q.den + q.num * p.den) (p.den * q.den) = p + q := by
  have := Rat.add_def' p q
  rw [this, ← Rat.divInt_ofNat]; push_cast; rfl
theorem rat_sub (p q : Rat) : Rat.divInt (p.num * q.den - q.num * p.den) (p.den * q.den) = p - q := by
  have := Rat.sub_def' p q
  rw [this, ← Rat.divInt_ofNat]; push_cast; rfl
theorem rat_mul (p q : Rat) : Rat.divInt (p.num * q.num) (p.den * q.den) = p * q := by
  have := Rat.mul_def' p q
  rw [this, ← Rat.divInt_ofNat]; push_cast; rfl
theorem den_pos (p : Rat) : (0 : Int) < p.den := by have := p.den_pos; omega
theorem den_mul (p q : Rat) : (0 : Int) < (p.den : Int) * q.den := Int.mul_pos (den_pos p) (den_pos q)
theorem den_big {p q : Rat} (h : Sz p.den) (k : Sz q.den) : ((p.den : Int) * q.den).natAbs < 2 ^ 9000 := Nat.lt_of_lt_of_le (Sz.prod h k) (Nat.pow_le_pow_right (by decide) (by decide))
def S_FracD_initD : List D → (List (Str × D) → Prop) → Prop := fun l K => ∃ n d : Int, l = [.int n, .int d] ∧ 0 < d ∧ d.natAbs < 2 ^ 9000 ∧ K (fracL (Rat.divInt n d))
theorem ok_FracD_initD (T : Tx K mg) (c_is_integer : Cal P w K mg base 1 "is_integer" ["value"] (SpFam (CL K) S_is_integer)) {fd : FuncData} (F : FunD K "__init__" "Frac.__init__" (defArgs s_FracD_initD) (defBody s_FracD_initD) (defScope s_FracD_initD) [.int 1] [] (He.ma K (He.ga K "Frac") "__init__") fd) : FnOk P w K mg base (L2.CX P w) 2 (He.ma K (He.ga K "Frac") "__init__") fd ["self", "num", "den"] (SpFamI (CL K) (He.ga K "Frac") S_FracD_initD) := by
  refine init_mkF (N := ["num", "den", "divisor"]) F sc_FracD_initD (by intro l Q h; first | (obtain ⟨rfl, _⟩ := h; rfl) | (obtain ⟨_, rfl, _⟩ := h; rfl) | (obtain ⟨_, _, rfl, _⟩ := h; rfl) | (obtain ⟨_, _, _, rfl, _⟩ := h; rfl) | (obtain ⟨_, _, _, _, rfl, _⟩ := h; rfl) | (obtain ⟨_, _, _, _, _, rfl, _⟩ := h; rfl) | (obtain ⟨_, _, _, _, _, _, rfl, _⟩ := h; rfl) | (obtain ⟨_, _, _, _, _, _, _, rfl, _⟩ := h; rfl) | (obtain ⟨_, _, _, _, _, _, _, _, rfl, _⟩ := h; rfl) | (obtain ⟨_, _, _, _, _, _, _, _, _, rfl, _⟩ := h; rfl) | (obtain ⟨_, _, _, _, _, _, _, _, _, _, rfl, _⟩ := h; rfl) | (obtain ⟨_, _, _, _, _, _, _, _, _, _, _, rfl, _⟩ := h; rfl)) (fun f cdv A outer s H E hr => ⟨_, (pss_cons (ps_if (PW.pt (pw_or (pt_not (pt_val (pe_calC c_is_integer hr (by decide) (by rfl) (pa_cons (pv 1) pa_nil)))) (pw_or (pt_not (pt_val (pe_calC c_is_integer hr (by decide) (by rfl) (pa_cons (pv 2) pa_nil)))) (pw_or1 (pt_cmpR op_eq (pv 2) pe_int (nomark _)))))) (pss_one ps_never) pss_nil) (pss_cons (ps_set (i := 3) sc_FracD_initD.nd rfl (by first | exact Or.inl rfl | exact Or.inr rfl) (pe_callBfun cr_gcd (by rfl) T.gcd (pa_cons (pv 1) (pa_cons (pv 2) pa_nil)))) (pss_cons (ps_if (pt_cmpR op_ltI (pv 2) pe_int (nomark _)) (pss_one (ps_set (i := 3) sc_FracD_initD.nd rfl (by first | exact Or.inl rfl | exact Or.inr rfl) (pe_un un_neg (pv 3)))) pss_nil) (pss_cons (ps_fldK K rfl (pv 0) (pe_op op_divI (pv 1) (pv 3)) rfl) (pss_one (ps_fldK K rfl (pv 0) (pe_op op_divI (pv 2) (pv 3)) rfl)))))), ?_⟩)
  intro nn B l Q h
  obtain ⟨n, d, rfl, h0, hs, h⟩ := h
  walk_at "g"
  · refine ⟨_, rfl, .int _, ?_⟩
    walk_at "g"
    refine ⟨_, rfl, .int _, ?_⟩
    walk_at "g"
    simp
    omega
  · walk_at "g"
    refine ⟨fun z => absurd (of_decide_eq_true z) (by omega), fun _ => ?_⟩
    walk_at "g"
    refine rk_div (cdiv_gcd h0 hs (by decide) (by decide)) ?_
    walk_at "g"
    refine rk_div (cdiv_gcd h0 hs (by decide) (by decide)) ?_
    walk_at "g"
    refine ⟨_, rfl, ?_⟩
    have e : fracL (Rat.divInt n d) = ([("num", .int (n / ((Nat.gcd n.natAbs d.natAbs : Nat) : Int))), ("den", .int (d / ((Nat.gcd n.natAbs d.natAbs : Nat) : Int)))] : List (Str × D)) := by
      unfold fracL; rw [divInt_num h0, divInt_den h0]
    rw [e] at h
    exact h

def S_Frac_is_below : List D → (D → Prop) → Prop := fun l K => ∃ p q : Rat, l = [.frac p, .frac q] ∧ SzQ p ∧ SzQ q ∧ K (.bl (decide (p < q)))
theorem ok_Frac_is_below (T : Tx K mg)  : ∃ fd, FnOk P w K mg base (L2.CX P w) 1 (He.ma K (He.ga K "Frac") "is_below") fd ["self", "other"] (SpFam (CL K) S_Frac_is_below) ∧ Binds K fd ["self", "other"] [] := by
  refine mth_mkF (N := ["self", "other"]) T.d_Frac_is_below sc_Frac_is_below (fun _ _ _ _ _ _ us hl => match us, hl with | [_, _], _ => rfl) (by intro l Q h; first | (obtain ⟨rfl, _⟩ := h; rfl) | (obtain ⟨_, rfl, _⟩ := h; rfl) | (obtain ⟨_, _, rfl, _⟩ := h; rfl) | (obtain ⟨_, _, _, rfl, _⟩ := h; rfl) | (obtain ⟨_, _, _, _, rfl, _⟩ := h; rfl) | (obtain ⟨_, _, _, _, _, rfl, _⟩ := h; rfl) | (obtain ⟨_, _, _, _, _, _, rfl, _⟩ := h; rfl) | (obtain ⟨_, _, _, _, _, _, _, rfl, _⟩ := h; rfl) | (obtain ⟨_, _, _, _, _, _, _, _, rfl, _⟩ := h; rfl) | (obtain ⟨_, _, _, _, _, _, _, _, _, rfl, _⟩ := h; rfl) | (obtain ⟨_, _, _, _, _, _, _, _, _, _, rfl, _⟩ := h; rfl) | (obtain ⟨_, _, _, _, _, _, _, _, _, _, _, rfl, _⟩ := h; rfl)) (fun f cdv A outer s H E hr => ⟨_, (pss_one (ps_ret (pe_cmpR op_ltI (pe_op op_mulI (pe_fldK K rfl (pv 0) rfl) (pe_fldK K rfl (pv 1) rfl)) (pe_op op_mulI (pe_fldK K rfl (pv 1) rfl) (pe_fldK K rfl (pv 0) rfl)) (nomark _)))), ?_⟩)
  intro nn B l Q h
  obtain ⟨p, q, rfl, ⟨hp, hp'⟩, ⟨hq, hq'⟩, h⟩ := h
  walk_at "g"
  rw [show (decide (p.num * q.den < q.num * p.den)) = decide (p < q) from decide_eq_decide.mpr (by rw [Rat.lt_iff])]
  exact h

def S_as_frac : List D → (D → Prop) → Prop := fun l K => ∃ d q, l = [d] ∧ AmtD d q ∧ K (.frac q)
theorem ok_as_frac (T : Tx K mg) (c_is_integer : Cal P w K mg base 1 "is_integer" ["value"] (SpFam (CL K) S_is_integer)) (m_Frac1 : CalM P w K mg base 2 "Frac" [.int 1] (SpFamI (CL K) (He.ga K "Frac") S_FracD_initD)) : Cal P w K mg base 4 "as_frac" ["value"] (SpFam (CL K) S_as_frac) := by
  refine cal_mkF (N := ["value"]) T.g_as_frac T.d_as_frac sc_as_frac (fun _ _ _ _ _ _ us hl => match us, hl with | [_], _ => rfl) (by intro l Q h; first | (obtain ⟨rfl, _⟩ := h; rfl) | (obtain ⟨_, rfl, _⟩ := h; rfl) | (obtain ⟨_, _, rfl, _⟩ := h; rfl) | (obtain ⟨_, _, _, rfl, _⟩ := h; rfl) | (obtain ⟨_, _, _, _, rfl, _⟩ := h; rfl) | (obtain ⟨_, _, _, _, _, rfl, _⟩ := h; rfl) | (obtain ⟨_, _, _, _, _, _, rfl, _⟩ := h; rfl) | (obtain ⟨_, _, _, _, _, _, _, rfl, _⟩ := h; rfl) | (obtain ⟨_, _, _, _, _, _, _, _, rfl, _⟩ := h; rfl) | (obtain ⟨_, _, _, _, _, _, _, _, _, rfl, _⟩ := h; rfl) | (obtain ⟨_, _, _, _, _, _, _, _, _, _, rfl, _⟩ := h; rfl) | (obtain ⟨_, _, _, _, _, _, _, _, _, _, _, rfl, _⟩ := h; rfl)) (fun f cdv A outer s H E hr => ⟨_, (pss_cons (ps_if (pt_val (pe_callB (cr_isK K rfl) (by rfl) T.b_isinstance (by decide +kernel) (pa_cons (pv 0) (pa_cons (pe_gcls T.g_Frac (by rfl)) pa_nil)))) (pss_one (ps_ret (pv 0))) pss_nil) (pss_cons (ps_if (pt_not (pt_val (pe_calC c_is_integer hr (by decide) (by rfl) (pa_cons (pv 0) pa_nil)))) (pss_one ps_never) pss_nil) (pss_one (ps_ret (pe_mkK K rfl m_Frac1 hr (by decide) (by rfl) (pa_cons (pv 0) pa_nil)))))), ?_⟩)
  intro nn B l Q h
  obtain ⟨d, q, rfl, ha, h⟩ := h
  walk_at "g"
  rcases ha with ⟨i, rfl, rfl⟩ | rfl
  · refine ck_fr T (.int i) ?_
    walk_at "g"
    · exact ⟨_, rfl, .int _, _, rfl, rfl⟩
    · walk_at "g"
      exact ⟨_, _, rfl, by decide, by decide, _, rfl, by rw [show Rat.divInt i 1 = (i : Rat) from Rat.num_divInt_den (i : Rat)]; exact h⟩
  · refine ck_fr T (.frac q) ?_
    walk_at "g"
    exact h

def S_is_amount : List D → (D → Prop) → Prop := fun l K => ∃ d, l = [d] ∧ Kn d ∧ K (.bl (amtB d))
theorem ok_is_amount (T : Tx K mg) (c_is_integer : Cal P w K mg base 1 "is_integer" ["value"] (SpFam (CL K) S_is_integer)) (c_as_frac : Cal P w K mg base 4 "as_frac" ["value"] (SpFam (CL K) S_as_frac)) : Cal P w K mg base 5 "is_amount" ["value"] (SpFam (CL K) S_is_amount) := by
  refine cal_mkF (N := ["value", "frac"]) T.g_is_amount T.d_is_amount sc_is_amount (fun _ _ _ _ _ _ us hl => match us, hl with | [_], _ => rfl) (by intro l Q h; first | (obtain ⟨rfl, _⟩ := h; rfl) | (obtain ⟨_, rfl, _⟩ := h; rfl) | (obtain ⟨_, _, rfl, _⟩ := h; rfl) | (obtain ⟨_, _, _, rfl, _⟩ := h; rfl) | (obtain ⟨_, _, _, _, rfl, _⟩ := h; rfl) | (obtain ⟨_, _, _, _, _, rfl, _⟩ := h; rfl) | (obtain ⟨_, _, _, _, _, _, rfl, _⟩ := h; rfl) | (obtain ⟨_, _, _, _, _, _, _, rfl, _⟩ := h; rfl) | (obtain ⟨_, _, _, _, _, _, _, _, rfl, _⟩ := h; rfl) | (obtain ⟨_, _, _, _, _, _, _, _, _, rfl, _⟩ := h; rfl) | (obtain ⟨_, _, _, _, _, _, _, _, _, _, rfl, _⟩ := h; rfl) | (obtain ⟨_, _, _, _, _, _, _, _, _, _, _, rfl, _⟩ := h; rfl)) (fun f cdv A outer s H E hr => ⟨_, (pss_cons (ps_if (PW.pt (pw_and (pt_not (pt_val (pe_calC c_is_integer hr (by decide) (by rfl) (pa_cons (pv 0) pa_nil)))) (pw_and1 (pt_not (pt_val (pe_callB (cr_isK K rfl) (by rfl) T.b_isinstance (by decide +kernel) (pa_cons (pv 0) (pa_cons (pe_gcls T.g_Frac (by rfl)) pa_nil)))))))) (pss_one (ps_ret pe_bl)) pss_nil) (pss_cons (ps_set (i := 1) sc_is_amount.nd rfl (by first | exact Or.inl rfl | exact Or.inr rfl) (pe_calC c_as_frac hr (by decide) (by rfl) (pa_cons (pv 0) pa_nil))) (pss_one (ps_ret (pe_and (pe_chain op_leI op_leI (pe_un un_neg (pe_gint T.i_MOST_OVER (by rfl))) (pe_fldK K rfl (pv 1) rfl) (pe_gint T.i_MOST_OVER (by rfl))) (pe_one (pe_cmpR op_leI (pe_fldK K rfl (pv 1) rfl) (pe_gint T.i_MOST_UNDER (by rfl)) (nomark _)))))))), ?_⟩)
  intro nn B l Q h
  obtain ⟨d, rfl, kn, h⟩ := h
  cases hd : d.isInt with
  | true =>
    cases kn <;> first | cases hd | skip
    rename_i i
    refine sx_skip ?_ ?_
    · walk_at "g"
      refine ⟨_, rfl, .int i, ?_⟩
      walk_at "g"
      rfl
    walk_at "g"
    refine ⟨_, _, rfl, .inl ⟨i, rfl, rfl⟩, ?_⟩
    walk_at "g"
    rw [Rat.num_intCast] at *
    have h : Q (.bl (decide (-9999 ≤ i ∧ i ≤ 9999))) := h
    refine br_p (fun h1 => ?_) (fun h1 => ?_)
    · walk_at "g"
      refine br_p (fun h2 => ?_) (fun h2 => ?_)
      · walk_at "g"
        rw [Rat.den_intCast]
        rw [decide_eq_true (show -9999 ≤ i ∧ i ≤ 9999 from ⟨h1, h2⟩)] at h
        exact h
      · rw [decide_eq_false (fun z => h2 z.2)] at h
        exact h
    · rw [decide_eq_false (fun z => h1 z.1)] at h
      walk_at "g"
      exact h
  | false =>
    cases hf : d.isFrac with
    | true =>
      obtain ⟨q, rfl⟩ := isFrac_ex hf
      refine sx_skip ?_ ?_
      · walk_at "g"
        refine ⟨_, rfl, kn, ?_⟩
        walk_at "g"
        exact ck_fr T (.frac q) (by walk_at "g"; rfl)
      walk_at "g"
      refine ⟨_, _, rfl, .inr rfl, ?_⟩
      walk_at "g"
      have h : Q (.bl (decide (-9999 ≤ q.num ∧ q.num ≤ 9999 ∧ q.den ≤ 99))) := h
      refine br_p (fun h1 => ?_) (fun h1 => ?_)
      · walk_at "g"
        refine br_p (fun h2 => ?_) (fun h2 => ?_)
        · walk_at "g"
          rw [show decide (((q.den : Nat) : Int) ≤ 99) = decide (-9999 ≤ q.num ∧ q.num ≤ 9999 ∧ q.den ≤ 99) from decide_eq_decide.mpr ⟨fun z => ⟨h1, h2, by omega⟩, fun z => by omega⟩]
          exact h
        · rw [decide_eq_false (fun z => h2 z.2.1)] at h
          exact h
      · rw [decide_eq_false (fun z => h1 z.1)] at h
        walk_at "g"
        exact h
    | false =>
      walk_at "g"
      refine ⟨_, rfl, kn, ?_⟩
      rw [hd]
      walk_at "g"
      refine ck_fr T kn ?_
      rw [hf]
      walk_at "g"
      have e : amtB d = false := by cases kn <;> first | rfl | exact nomatch (show true = false from hd) | exact nomatch (show true = false from hf)
      rw [e] at h
      exact h

def S_FracD_eqD : List D → (D → Prop) → Prop := S_eqF
theorem ok_FracD_eqD (T : Tx K mg)  : ∃ fd, FnOk P w K mg base (L2.CX P w) 1 (He.ma K (He.ga K "Frac") "__eq__") fd ["self", "other"] (SpFam (CL K) S_FracD_eqD) ∧ Binds K fd ["self", "other"] [] := by
  refine mth_mkF (N := ["self", "other"]) T.d_FracD_eqD sc_FracD_eqD (fun _ _ _ _ _ _ us hl => match us, hl with | [_, _], _ => rfl) (by intro l Q h; first | (obtain ⟨rfl, _⟩ := h; rfl) | (obtain ⟨_, rfl, _⟩ := h; rfl) | (obtain ⟨_, _, rfl, _⟩ := h; rfl) | (obtain ⟨_, _, _, rfl, _⟩ := h; rfl) | (obtain ⟨_, _, _, _, rfl, _⟩ := h; rfl) | (obtain ⟨_, _, _, _, _, rfl, _⟩ := h; rfl) | (obtain ⟨_, _, _, _, _, _, rfl, _⟩ := h; rfl) | (obtain ⟨_, _, _, _, _, _, _, rfl, _⟩ := h; rfl) | (obtain ⟨_, _, _, _, _, _, _, _, rfl, _⟩ := h; rfl) | (obtain ⟨_, _, _, _, _, _, _, _, _, rfl, _⟩ := h; rfl) | (obtain ⟨_, _, _, _, _, _, _, _, _, _, rfl, _⟩ := h; rfl) | (obtain ⟨_, _, _, _, _, _, _, _, _, _, _, rfl, _⟩ := h; rfl)) (fun f cdv A outer s H E hr => ⟨_, (pss_one (ps_ret (pe_and (pe_callB (cr_isK K rfl) (by rfl) T.b_isinstance (by decide +kernel) (pa_cons (pv 1) (pa_cons (pe_gcls T.g_Frac (by rfl)) pa_nil))) (pe_and (pe_cmpR op_eq (pe_fldK K rfl (pv 0) rfl) (pe_fldK K rfl (pv 1) rfl) (nomark _)) (pe_one (pe_cmpR op_eq (pe_fldK K rfl (pv 0) rfl) (pe_fldK K rfl (pv 1) rfl) (nomark _))))))), ?_⟩)
  intro nn B l Q h
  obtain ⟨p, q, rfl, h⟩ := h
  walk_at "g"
  refine ck_fr T (.frac q) ?_
  walk_at "g"
  refine br_p (fun h1 => ?_) (fun h1 => ?_)
  · walk_at "g"
    have e : decide (((p.den : Nat) : Int) = ((q.den : Nat) : Int)) = decide (p = q) := by
      refine decide_eq_decide.mpr ⟨fun z => Rat.ext h1 (by exact_mod_cast z), fun z => by rw [z]⟩
    rw [e]
    exact h
  · walk_at "g"
    rw [decide_eq_false (show ¬ p = q from fun z => h1 (by rw [z]))] at h
    exact h

theorem er_ok_InvalidProject (T : Tx K mg) : CalEr P w K mg base "InvalidProject" (spE1 (He.ga K "InvalidProject") "state") := by
  obtain ⟨fd, F⟩ := T.d_InvalidProjectD_initD
  exact ⟨T.g_InvalidProject, T.er_InvalidProject.o, T.er_InvalidProject.ini, T.er_InvalidProject.fn, fd, _, ini1 F sc_InvalidProjectD_initD T.er_InvalidProject.o (T.er_InvalidProject.at_ "state" (by decide)) (fun cdv A outer s H E => ps_ost (pv 0) (pv 1)), F.bindsN (fun _ _ _ _ _ _ us hl => match us, hl with | [_, _], _ => rfl)⟩

theorem er_ok_WrongSize (T : Tx K mg) : CalEr P w K mg base "WrongSize" (spE1 (He.ga K "WrongSize") "many") := by
  obtain ⟨fd, F⟩ := T.d_WrongSizeD_initD
  exact ⟨T.g_WrongSize, T.er_WrongSize.o, T.er_WrongSize.ini, T.er_WrongSize.fn, fd, _, ini1 F sc_WrongSizeD_initD T.er_WrongSize.o (T.er_WrongSize.at_ "many" (by decide)) (fun cdv A outer s H E => ps_ost (pv 0) (pv 1)), F.bindsN (fun _ _ _ _ _ _ us hl => match us, hl with | [_, _], _ => rfl)⟩

end

end K
end

section
set_option maxRecDepth 100000
set_option maxHeartbeats 4000000
namespace K
open PySem PySem.Spec PyProof.Rows L2 G

theorem zipIdx_get {α : Type} {xs : List α} {j : Nat} {p : α × Nat} (h : xs.zipIdx[j]? = some p) : xs[j]? = some p.1 ∧ p.2 = j := by
  rw [List.getElem?_zipIdx] at h
  cases hx : xs[j]? with
  | none => rw [hx] at h; cases h
  | some x =>
    rw [hx] at h
    simp at h
    subst h
    exact ⟨rfl, rfl⟩
theorem rng2 {i j : Int} {n : Nat} (hj : j = i + (n : Nat)) : rangeD i (j - i).toNat = (List.range n).map fun (k : Nat) => .int (i + (k : Int)) := by
  rw [show (j - i).toNat = n by omega]; rfl
theorem rng1 {n : Nat} : rangeD 0 ((n : Nat) : Int).toNat = (List.range n).map fun (k : Nat) => .int (k : Int) := by
  rw [show ((n : Nat) : Int).toNat = n by omega]
  unfold rangeD; congr 1; funext k; rw [Int.zero_add]
theorem rng_get {n j x : Nat} (h : (List.range n)[j]? = some x) : x = j ∧ j < n := by
  have h1 := List.getElem?_eq_some_iff.mp h
  obtain ⟨h1, h2⟩ := h1
  rw [List.length_range] at h1
  rw [List.getElem_range] at h2
  exact ⟨h2.symm, h1⟩
/-- a pair (weight, worth), prizes, a box, as the program asks for them -/
def shownB (d : D) : Bool := match seqOf d with
  | some [w, x] => btwB 1 99 w && (amtB x && decide (0 ≤ (valA x).num))
  | _ => false
def worthA (d : D) : Rat := match seqOf d with
  | some [_, x] => valA x
  | _ => 0
def weightA (d : D) : D := match seqOf d with
  | some (w :: _) => w
  | _ => .non
def ascB (ws : List Rat) : Bool := (List.range (ws.length - 1)).all fun k => decide (ws.getD k 0 < ws.getD (k + 1) 0)
def prizesB (d : D) : Bool := match seqOf d with
  | some xs => decide (1 ≤ xs.length) && (decide (xs.length ≤ 4) && (xs.all shownB && ascB (xs.map worthA)))
  | none => false
def boxB (d : D) : Bool := match seqOf d with
  | some [c, p] => amtB c && (decide (0 ≤ (valA c).num) && prizesB p)
  | _ => false
theorem kn_kd {k : Kd} {l : List D} : Kn (Kd.d k l) := by cases k <;> constructor
theorem isSeq_kd {k : Kd} {l : List D} : (Kd.d k l).isSeq = true := by cases k <;> rfl
theorem seq_no {d : D} (h : d.isSeq = false) : seqOf d = none := by cases d <;> first | rfl | exact nomatch (show true = false from h)
theorem shown_ex {d : D} (h : shownB d = true) : ∃ k i x, d = Kd.d k [.int i, x] ∧ amtB x = true ∧ 0 ≤ (valA x).num ∧ 1 ≤ i ∧ i ≤ 99 := by
  cases hs : d.isSeq with
  | false => unfold shownB at h; rw [seq_no hs] at h; cases h
  | true =>
    obtain ⟨k, xs, rfl⟩ := isSeq_ex hs
    unfold shownB at h
    rw [seqOf_kd] at h
    match xs, h with
    | [], h => cases h
    | [_], h => cases h
    | _ :: _ :: _ :: _, h => cases h
    | [w, x], h =>
      simp only [Bool.and_eq_true, decide_eq_true_eq] at h
      obtain ⟨h1, h2, h3⟩ := h
      cases w <;> first | (exfalso; simp [btwB] at h1; done) | skip
      simp only [btwB, decide_eq_true_eq] at h1
      exact ⟨k, _, x, rfl, h2, h3, h1.1, h1.2⟩
theorem KnR.two {k : Kd} {a b : D} (h : KnR (Kd.d k [a, b])) : KnR a ∧ KnR b := by
  have := (h.seq seqOf_kd).1
  exact ⟨this a (by simp), this b (by simp)⟩
section
local macro_rules | `(tactic| walk_at "e") => `(tactic| first
  | ((with_reducible refine' ek_var ?h1 ?_); (case h1 => exact rfl))
  | (with_reducible refine ek_int ?_)
  | (with_reducible refine ek_bl ?_)
  | (with_reducible refine ek_non ?_)
  | (with_reducible refine ek_str ?_)
  | (with_reducible refine ek_ty ?_)
  | (with_reducible refine ek_cls ?_)
  | (with_reducible refine ek_ix ?_)
  | (with_reducible refine ek_un ?_)
  | (with_reducible refine ek_tup ?_)
  | (with_reducible refine k_call ?_)
  | (with_reducible refine ek_len ?_)
  | (with_reducible refine ek_tuple ?_)
  | (with_reducible refine ek_sum ?_)
  | (with_reducible refine ek_all ?_)
  | (with_reducible refine ek_any ?_)
  | (with_reducible refine ek_chain ?_)
  | (with_reducible refine ek_andV ?_)
  | (with_reducible refine ek_orV ?_)
  | (with_reducible refine ek_notV ?_)
  | (with_reducible refine ek_if ?_)
  | (with_reducible refine ek_ef (ef_lst ?_))
  | (with_reducible refine ek_ef (ef_list ?_))
  | (with_reducible refine ek_ef (ef_cat ?_))
  | (with_reducible refine ek_ef (ef_rep ?_))
  | (with_reducible refine ek_ef (ef_slice ?_))
  | (with_reducible refine ek_ef (ef_rev ?_))
  | (with_reducible refine ek_ef (ef_lstRev ?_))
  | (with_reducible refine ek_ef (ef_map ?_))
  | (with_reducible refine ek_ef (ef_filt ?_))
  | (with_reducible refine ef_lst ?_)
  | (with_reducible refine ef_list ?_)
  | (with_reducible refine ef_cat ?_)
  | (with_reducible refine ef_rep ?_)
  | (with_reducible refine ef_slice ?_)
  | (with_reducible refine ef_rev ?_)
  | (with_reducible refine ef_lstRev ?_)
  | (with_reducible refine ef_map ?_)
  | (with_reducible refine ef_filt ?_)
  | ((with_reducible refine' el_var ?h1 ?_); (case h1 => exact rfl))
  | ((with_reducible refine' el_own ?h1 ?_); (case h1 => exact rfl))
  | (with_reducible refine el_ef (ef_lst ?_))
  | (with_reducible refine el_ef (ef_list ?_))
  | (with_reducible refine el_ef (ef_cat ?_))
  | (with_reducible refine el_ef (ef_rep ?_))
  | (with_reducible refine el_ef (ef_slice ?_))
  | (with_reducible refine el_ef (ef_rev ?_))
  | (with_reducible refine el_ef (ef_lstRev ?_))
  | (with_reducible refine el_ef (ef_map ?_))
  | (with_reducible refine el_ef (ef_filt ?_))
  | (with_reducible refine ek_op ?_)
  | (with_reducible refine ek_cb ?_)
  | (with_reducible refine el_ek ?_)
  | (with_reducible refine tk_test ?_)
  | (with_reducible refine tk_B ?_)
  | (with_reducible refine tk_and ?_)
  | (with_reducible refine tk_or ?_)
  | (with_reducible refine tk_not ?_)
  | (with_reducible refine tk_yes ?_)
  | (with_reducible refine ak_nil ?_)
  | (with_reducible refine ak_cons ?_)
  | (with_reducible refine k_num (‹Tx _ _›) ?_)
  | (with_reducible refine k_den (‹Tx _ _›) ?_)
  | (with_reducible refine k_mk2 ?_)
  | (with_reducible refine k_mk1 ?_)
  | (with_reducible refine k_bel ?_)
  | (with_reducible refine k_own ?_)
  | (with_reducible refine rk_U2 (k_own ?_))
  | (with_reducible refine rk_mul (Sz.mul (by assumption) (by assumption)) ?_)
  | (with_reducible refine rk_U1 (rk_mul (Sz.mul (by assumption) (by assumption)) ?_))
  | (with_reducible refine ek_dget ?_)
  | (with_reducible refine uk_neg ?_)
  | (with_reducible refine ek_disp ?_)
  | (with_reducible refine pk_cons ?_)
  | (with_reducible refine pk_nil ?_)
  | (with_reducible refine rk_mod (by assumption) ?_)
  | (with_reducible refine rk_add ?_)
  | (with_reducible refine rk_sub ?_)
  | (with_reducible refine rk_lt ?_)
  | (with_reducible refine rk_le ?_)
  | (with_reducible refine rk_gt ?_)
  | (with_reducible refine rk_ge ?_)
  | (with_reducible refine rk_eqI ?_)
  | (with_reducible refine rk_neI ?_)
  | (with_reducible refine rk_isN ?_)
  | (with_reducible refine rk_notN ?_)
  | (with_reducible refine rk_U1 (rk_add ?_))
  | (with_reducible refine rk_U1 (rk_sub ?_))
  | (with_reducible refine ck_gcd ?_)
  | (with_reducible refine ck_abs ?_)
  | (with_reducible refine ck_int ?_)
  | (with_reducible refine ik_seq ?_)
  | (with_reducible refine ik_range1 ?_)
  | (with_reducible refine ik_range2 ?_)
  | (with_reducible refine ik_enumA ?_)
  | (with_reducible refine ik_zip ?_)
  | (with_reducible refine ik_rev ?_)
  | ((with_reducible refine' cg_name ?_ ?h1 ?h2); (case h1 => exact rfl); (case h2 => decide))
  | ((with_reducible refine' cg_anyT ?h1 ?_); (case h1 => exact rfl))
  | ((with_reducible refine' cg_anyL ?h1 ?_); (case h1 => exact rfl))
  | ((with_reducible refine' cg_anyK ?h1 ?_); (case h1 => exact rfl))
  | ((with_reducible refine' cgs_cons ?_ ?h1 ?h2); (case h1 => exact rfl); (case h2 => decide))
  | (with_reducible refine cgs_nil ?_)
  | ((with_reducible refine' gk_name ?_ ?h1); (case h1 => exact rfl))
  | ((with_reducible refine' gk_anyT ?h1 ?_); (case h1 => exact rfl))
  | ((with_reducible refine' gk_anyL ?h1 ?_); (case h1 => exact rfl))
  | ((with_reducible refine' gk_anyK ?h1 ?_); (case h1 => exact rfl))
  | ((with_reducible refine' gks_cons ?_ ?h1); (case h1 => exact rfl))
  | ((with_reducible refine' gks_consA (n := 0) ?_ ?h1 ?h2); (case h1 => exact rfl); (case h2 => exact rfl))
  | ((with_reducible refine' gks_consB ?h0 ?_ ?h1 ?h2); (case h0 => exact rfl); (case h1 => exact rfl); (case h2 => exact rfl))
  | (with_reducible refine gks_nil ?_)
  | (with_reducible refine ok_none ?_)
  | (with_reducible refine ok_some ?_))
local macro_rules | `(tactic| walk_at "s") => `(tactic| first
  | (with_reducible refine sx_guard ?_ ?_)
  | (with_reducible refine sx_seq ?_)
  | ((with_reducible refine' sx_retO ?h1 ?_); (case h1 => exact rfl))
  | (with_reducible refine sx_ret ?_)
  | (with_reducible refine sx_if ?_)
  | (with_reducible refine sx_next ?_)
  | (with_reducible refine sx_break ?_)
  | (with_reducible refine sx_cont ?_)
  | ((with_reducible refine' sx_append ?h1 ?_); (case h1 => exact rfl))
  | ((with_reducible refine' sx_setI ?h1 ?_); (case h1 => exact rfl))
  | ((with_reducible refine' sx_set ?h1 ?_); (case h1 => exact rfl))
  | (with_reducible refine sx_asg ?_)
  | ((with_reducible refine' sx_par ?h1 ?h2 ?_); (case h1 => exact rfl); (case h2 => exact rfl))
  | (with_reducible refine sx_drop ?_)
  | ((with_reducible refine' k_fldS (‹Tx _ _›) ?h1 ?h2 ?h3 ?_); (case h1 => exact rfl); (case h2 => decide); (case h3 => exact rfl)))
/-! plain existentials that the rules leave -/
local macro_rules | `(tactic| walk_at "x") => `(tactic| first
  | (with_reducible refine x_bl ?_)
  | (with_reducible refine x_int ?_)
  | (with_reducible refine x_frac ?_)
  | (with_reducible refine x_lst ?_)
  | (with_reducible refine x_tup ?_)
  | (with_reducible refine x_kd ?_)
  | (with_reducible refine x_oneL ?_)
  | (with_reducible refine x_oneT ?_)
  | (with_reducible refine x_one ?_)
  | ((with_reducible refine' x_at ?h1 ?_); (case h1 => exact rfl))
  | ((with_reducible refine' x_dic ?h1 ?_); (case h1 => exact rfl))
  | (with_reducible refine (⟨rfl, ?_⟩ : Kd.l = Kd.l ∧ _))
  | ((with_reducible refine' x_len ?h1 ?_); (case h1 => exact rfl))
  | ((with_reducible refine' br_t ?h1 ?_); (case h1 => exact rfl))
  | ((with_reducible refine' br_f ?h1 ?_); (case h1 => exact rfl)))
local macro_rules | `(tactic| walk_at "f") => `(tactic| first
  | ((with_reducible refine' sx_forW ?h1 ?_); (case h1 => exact rfl))
  | (with_reducible refine sx_forGW ?_))
local macro_rules | `(tactic| walk_at "g") => `(tactic| repeat (first | walk_at "s" | walk_at "f" | walk_at "e" | walk_at "x"))
local macro_rules | `(tactic| walk_at "v") => `(tactic| repeat (first | walk_at "e" | walk_at "x"))
local macro_rules | `(tactic| walk_at "h") => `(tactic| repeat (first | walk_at "s" | walk_at "e" | walk_at "x"))
variable {P : Program} {w : World} {K : PySem.W.Frag} {mg : Str → Option Value} {base : Heap}

def S_is_shown : List D → (D → Prop) → Prop := fun l K => ∃ d, l = [d] ∧ KnR d ∧ K (.bl (shownB d))
theorem ok_is_shown (T : Tx K mg) (c_is_sequence : Cal P w K mg base 1 "is_sequence" ["value"] (SpFam (CL K) S_is_sequence)) (c_is_between : Cal P w K mg base 2 "is_between" ["value", "least", "most"] (SpFam (CL K) S_is_between)) (c_is_amount : Cal P w K mg base 5 "is_amount" ["value"] (SpFam (CL K) S_is_amount)) (c_as_frac : Cal P w K mg base 4 "as_frac" ["value"] (SpFam (CL K) S_as_frac)) : Cal P w K mg base 6 "is_shown" ["value"] (SpFam (CL K) S_is_shown) := by
  refine cal_mkF (N := ["value"]) T.g_is_shown T.d_is_shown sc_is_shown (fun _ _ _ _ _ _ us hl => match us, hl with | [_], _ => rfl) (by intro l Q h; first | (obtain ⟨rfl, _⟩ := h; rfl) | (obtain ⟨_, rfl, _⟩ := h; rfl) | (obtain ⟨_, _, rfl, _⟩ := h; rfl) | (obtain ⟨_, _, _, rfl, _⟩ := h; rfl) | (obtain ⟨_, _, _, _, rfl, _⟩ := h; rfl) | (obtain ⟨_, _, _, _, _, rfl, _⟩ := h; rfl) | (obtain ⟨_, _, _, _, _, _, rfl, _⟩ := h; rfl) | (obtain ⟨_, _, _, _, _, _, _, rfl, _⟩ := h; rfl) | (obtain ⟨_, _, _, _, _, _, _, _, rfl, _⟩ := h; rfl) | (obtain ⟨_, _, _, _, _, _, _, _, _, rfl, _⟩ := h; rfl) | (obtain ⟨_, _, _, _, _, _, _, _, _, _, rfl, _⟩ := h; rfl) | (obtain ⟨_, _, _, _, _, _, _, _, _, _, _, rfl, _⟩ := h; rfl)) (fun f cdv A outer s H E hr => ⟨_, (pss_cons (ps_if (PW.pt (pw_or (pt_not (pt_val (pe_calC c_is_sequence hr (by decide) (by rfl) (pa_cons (pv 0) pa_nil)))) (pw_or (pt_cmpR op_ne (pe_callB (cr_lenK K rfl) (by rfl) T.b_len PySem.boot_len (pa_cons (pv 0) pa_nil)) pe_int (nomark _)) (pw_or1 (pt_not (pt_val (pe_calC c_is_between hr (by decide) (by rfl) (pa_cons (pe_ix (ix_seqK K rfl) (pv 0) pe_int (fun _ _ => rfl)) (pa_cons pe_int (pa_cons (pe_gint T.i_MOST_SHOWN_WEIGHT (by rfl)) pa_nil)))))))))) (pss_one (ps_ret pe_bl)) pss_nil) (pss_one (ps_ret (pe_and (pe_calC c_is_amount hr (by decide) (by rfl) (pa_cons (pe_ix (ix_seqK K rfl) (pv 0) pe_int (fun _ _ => rfl)) pa_nil)) (pe_one (pe_cmpR op_geI (pe_fldK K rfl (pe_calC c_as_frac hr (by decide) (by rfl) (pa_cons (pe_ix (ix_seqK K rfl) (pv 0) pe_int (fun _ _ => rfl)) pa_nil)) rfl) pe_int (nomark _))))))), ?_⟩)
  intro nn B l Q h
  obtain ⟨d, rfl, kn, h⟩ := h
  cases hs : d.isSeq with
  | false =>
    walk_at "g"
    refine ⟨_, rfl, kn.kn, ?_⟩
    rw [hs]
    walk_at "g"
    unfold shownB at h
    rw [seq_no hs] at h
    exact h
  | true =>
    obtain ⟨k, xs, rfl⟩ := isSeq_ex hs
    obtain ⟨kx, kl⟩ := kn.seq seqOf_kd
    unfold shownB at h
    rw [seqOf_kd] at h
    refine sx_seq ?_
    refine sx_if ?_
    walk_at "g"
    refine ⟨_, rfl, kn_kd, ?_⟩
    rw [isSeq_kd]
    walk_at "g"
    refine br_n (fun h1 => ?_) (fun h1 => ?_)
    · walk_at "g"
      match xs, h, h1 with
      | [], h, h1 => exact h
      | [_], h, h1 => exact h
      | _ :: _ :: _ :: _, h, h1 => exact h
      | [_, _], h, h1 => exact absurd rfl h1
    · match xs, kx, h, h1 with
      | [w, x], kx, h, h1 =>
        have kw := kx w (by simp)
        have kv := kx x (by simp)
        walk_at "g"
        refine ⟨_, _, _, rfl, kw.kn, ?_⟩
        walk_at "g"
        dsimp only at h
        cases hw : btwB 1 99 w with
        | true =>
          rw [hw, Bool.true_and] at h
          walk_at "g"
          refine ⟨_, rfl, kv.kn, ?_⟩
          walk_at "g"
          refine ⟨fun h2 => ?_, fun h2 => ?_⟩
          · rw [h2, Bool.true_and] at h
            walk_at "g"
            refine ⟨_, _, rfl, amt_d h2, ?_⟩
            walk_at "g"
            exact h
          · rw [h2] at h
            exact h
        | false =>
          rw [hw] at h
          walk_at "g"
          exact h
      | [], _, h, h1 => exact absurd h1 (by simp)
      | [_], _, h, h1 => exact absurd h1 (by simp)
      | _ :: _ :: _ :: _, _, h, h1 => simp at h1; omega

def S_are_prizes : List D → (D → Prop) → Prop := fun l K => ∃ d, l = [d] ∧ KnR d ∧ K (.bl (prizesB d))
theorem ok_are_prizes (T : Tx K mg) (c_is_sequence : Cal P w K mg base 1 "is_sequence" ["value"] (SpFam (CL K) S_is_sequence)) (c_is_shown : Cal P w K mg base 6 "is_shown" ["value"] (SpFam (CL K) S_is_shown)) (c_as_frac : Cal P w K mg base 4 "as_frac" ["value"] (SpFam (CL K) S_as_frac)) (c_Frac_is_below : CalT P w K mg base 1 (He.ga K "Frac") "is_below" (SpFam (CL K) S_Frac_is_below)) : Cal P w K mg base 7 "are_prizes" ["value"] (SpFam (CL K) S_are_prizes) := by
  refine cal_mkF (N := ["value", "worths", "_", "worth", "k", "one"]) T.g_are_prizes T.d_are_prizes sc_are_prizes (fun _ _ _ _ _ _ us hl => match us, hl with | [_], _ => rfl) (by intro l Q h; first | (obtain ⟨rfl, _⟩ := h; rfl) | (obtain ⟨_, rfl, _⟩ := h; rfl) | (obtain ⟨_, _, rfl, _⟩ := h; rfl) | (obtain ⟨_, _, _, rfl, _⟩ := h; rfl) | (obtain ⟨_, _, _, _, rfl, _⟩ := h; rfl) | (obtain ⟨_, _, _, _, _, rfl, _⟩ := h; rfl) | (obtain ⟨_, _, _, _, _, _, rfl, _⟩ := h; rfl) | (obtain ⟨_, _, _, _, _, _, _, rfl, _⟩ := h; rfl) | (obtain ⟨_, _, _, _, _, _, _, _, rfl, _⟩ := h; rfl) | (obtain ⟨_, _, _, _, _, _, _, _, _, rfl, _⟩ := h; rfl) | (obtain ⟨_, _, _, _, _, _, _, _, _, _, rfl, _⟩ := h; rfl) | (obtain ⟨_, _, _, _, _, _, _, _, _, _, _, rfl, _⟩ := h; rfl)) (fun f cdv A outer s H E hr => ⟨_, (pss_cons (ps_if (PW.pt (pw_or (pt_not (pt_val (pe_calC c_is_sequence hr (by decide) (by rfl) (pa_cons (pv 0) pa_nil)))) (pw_or (pt_not (pt_chain op_leI op_leI pe_int (pe_callB (cr_lenK K rfl) (by rfl) T.b_len PySem.boot_len (pa_cons (pv 0) pa_nil)) (pe_gint T.i_MOST_PRIZES (by rfl)))) (pw_or1 (pt_not (pt_val (pe_callB (cr_allK K rfl rfl) (by rfl) T.b_all (by decide +kernel) (pa_cons (pe_lc (own := [("one", 5)]) (g := gName 5) (tt := tYes) rfl sc_are_prizes.nd (pi_seqK K rfl (pv 0)) (blkOk_by (own := [("one", 5)]) (N := ["value", "worths", "_", "worth", "k", "one"]) (sc := defScope s_are_prizes) (by decide +kernel)) (fun _ _ _ _ _ => (pg_name (i := 5) sc_are_prizes.nd rfl (by first | exact Or.inl rfl | exact Or.inr rfl))) (fun _ _ _ _ _ => pts_nil) (fun _ _ _ _ _ => (pe_calC c_is_shown hr (by decide) (by rfl) (pa_cons (pv 5) pa_nil)))) pa_nil)))))))) (pss_one (ps_ret pe_bl)) pss_nil) (pss_cons (ps_set (i := 1) sc_are_prizes.nd rfl (by first | exact Or.inl rfl | exact Or.inr rfl) (pe_lc (own := [("_", 2), ("worth", 3)]) (g := gAny K 2 (gCons (gName 2) (gCons (gName 3) gNil))) (tt := tYes) rfl sc_are_prizes.nd (pi_seqK K rfl (pv 0)) (blkOk_by (own := [("_", 2), ("worth", 3)]) (N := ["value", "worths", "_", "worth", "k", "one"]) (sc := defScope s_are_prizes) (by decide +kernel)) (fun _ _ _ _ _ => (pg_anyK K rfl rfl (pgs_cons (pg_name (i := 2) sc_are_prizes.nd rfl (by first | exact Or.inl rfl | exact Or.inr rfl)) (pgs_cons (pg_name (i := 3) sc_are_prizes.nd rfl (by first | exact Or.inl rfl | exact Or.inr rfl)) pgs_nil)))) (fun _ _ _ _ _ => pts_nil) (fun _ _ _ _ _ => (pe_calC c_as_frac hr (by decide) (by rfl) (pa_cons (pv 3) pa_nil))))) (pss_one (ps_ret (pe_callB (cr_allK K rfl rfl) (by rfl) T.b_all (by decide +kernel) (pa_cons (pe_lc (own := [("k", 4)]) (g := gName 4) (tt := tYes) rfl sc_are_prizes.nd (pi_range1 (by rfl) T.b_range (pa_cons (pe_op op_subI (pe_callB (cr_lenK K rfl) (by rfl) T.b_len PySem.boot_len (pa_cons (pv 1) pa_nil)) pe_int) pa_nil)) (blkOk_by (own := [("k", 4)]) (N := ["value", "worths", "_", "worth", "k", "one"]) (sc := defScope s_are_prizes) (by decide +kernel)) (fun _ _ _ _ _ => (pg_name (i := 4) sc_are_prizes.nd rfl (by first | exact Or.inl rfl | exact Or.inr rfl))) (fun _ _ _ _ _ => pts_nil) (fun _ _ _ _ _ => (pe_mtC c_Frac_is_below hr (by decide) (pe_ix (ix_seqK K rfl) (pv 1) (pv 4) (fun _ _ => rfl)) (pa_cons (pe_ix (ix_seqK K rfl) (pv 1) (pe_op op_addI (pv 4) pe_int) (fun _ _ => rfl)) pa_nil)))) pa_nil)))))), ?_⟩)
  intro nn B l Q h
  obtain ⟨d, rfl, kn, h⟩ := h
  cases hs : d.isSeq with
  | false =>
    walk_at "g"
    refine ⟨_, rfl, kn.kn, ?_⟩
    rw [hs]
    walk_at "g"
    unfold prizesB at h
    rw [seq_no hs] at h
    exact h
  | true =>
    obtain ⟨k, xs, rfl⟩ := isSeq_ex hs
    obtain ⟨kx, kl⟩ := kn.seq seqOf_kd
    unfold prizesB at h
    rw [seqOf_kd] at h
    dsimp only at h
    refine sx_seq ?_
    refine sx_if ?_
    walk_at "g"
    refine ⟨_, rfl, kn_kd, ?_⟩
    rw [isSeq_kd]
    walk_at "g"
    refine br_p (fun h1 => ?_) (fun h1 => ?_)
    · walk_at "g"
      rw [decide_eq_true (show 1 ≤ xs.length by omega), Bool.true_and] at h
      refine br_n (fun h2 => ?_) (fun h2 => ?_)
      rotate_left
      · rw [decide_eq_true (show xs.length ≤ 4 by omega), Bool.true_and] at h
        walk_at "g"
        refine ⟨D, xs, id, fun x => .bl (shownB x), by simp, Nat.le_of_lt (small1000 (by omega)), fun W1 x hx => ?_, ?_⟩
        · walk_at "g"
          exact ⟨_, rfl, kx x hx, rfl⟩
        refine ⟨rfl, xs.map shownB, by rw [List.map_map]; rfl, ?_⟩
        walk_at "g"
        rw [show (xs.map shownB).all id = xs.all shownB by rw [List.all_map]; rfl]
        cases ha : xs.all shownB with
        | false =>
          rw [ha] at h
          walk_at "g"
          exact h
        | true =>
          rw [ha, Bool.true_and] at h
          have hx := List.all_eq_true.mp ha
          walk_at "g"
          refine ⟨D, xs, id, fun x => .frac (worthA x), by simp, Nat.le_of_lt (small1000 (by omega)), fun W1 x hm => ?_, ?_⟩
          · obtain ⟨k2, i, y, rfl, a1, a2, _, _⟩ := shown_ex (hx x hm)
            dsimp only [id]
            walk_at "g"
            refine ⟨_, _, rfl, amt_d a1, ?_⟩
            unfold worthA
            rw [seqOf_kd]
          walk_at "g"
          refine ⟨(xs.length - 1 : Nat), by rw [List.length_map]; congr 2; omega, by omega, by omega, ?_⟩
          refine ⟨Nat, List.range (xs.length - 1), _, fun k => .bl (decide ((xs.map worthA).getD k 0 < (xs.map worthA).getD (k + 1) 0)), rng1, Nat.le_of_lt (small1000 (by simp; omega)), fun W1 j hj => ?_, ?_⟩
          · have hj := List.mem_range.mp hj
            have at1 : ∀ i : Nat, i < xs.length → (xs.map fun x => D.frac (worthA x))[i]? = some (.frac ((xs.map worthA).getD i 0)) := fun i hi => by
              rw [List.getElem?_map, List.getD_eq_getElem?_getD, List.getElem?_map]
              simp [hi]
            have sz1 : ∀ i : Nat, i < xs.length → SzQ ((xs.map worthA).getD i 0) := fun i hi => by
              have : (xs.map worthA).getD i 0 = worthA xs[i] := by
                rw [List.getD_eq_getElem?_getD, List.getElem?_map]
                simp [hi]
              rw [this]
              obtain ⟨k2, i2, y, e, a1, a2, _, _⟩ := shown_ex (hx xs[i] (List.getElem_mem hi))
              rw [e]
              unfold worthA
              rw [seqOf_kd]
              exact amt_sz a1
            walk_at "g"
            refine x_at (atI_nat (at1 j (by omega))) ?_
            refine x_frac ?_
            walk_at "g"
            refine x_at (x := .frac ((xs.map worthA).getD (j + 1) 0)) (by
              rw [show ((j : Int) + 1) = ((j + 1 : Nat) : Int) by omega]
              exact atI_nat (at1 (j + 1) (by omega))) ?_
            walk_at "g"
            exact ⟨_, _, rfl, sz1 j (by omega), sz1 (j + 1) (by omega), rfl⟩
          refine ⟨rfl, (List.range (xs.length - 1)).map fun k => decide ((xs.map worthA).getD k 0 < (xs.map worthA).getD (k + 1) 0), by rw [List.map_map]; rfl, ?_⟩
          rw [List.all_map]
          unfold ascB at h
          rw [List.length_map] at h
          exact h
      · rw [decide_eq_false (show ¬ xs.length ≤ 4 by omega)] at h
        walk_at "g"
        exact h
    · rw [decide_eq_false (show ¬ 1 ≤ xs.length by omega)] at h
      walk_at "g"
      exact h

def S_is_box : List D → (D → Prop) → Prop := fun l K => ∃ d, l = [d] ∧ KnR d ∧ K (.bl (boxB d))
theorem ok_is_box (T : Tx K mg) (c_is_sequence : Cal P w K mg base 1 "is_sequence" ["value"] (SpFam (CL K) S_is_sequence)) (c_is_amount : Cal P w K mg base 5 "is_amount" ["value"] (SpFam (CL K) S_is_amount)) (c_as_frac : Cal P w K mg base 4 "as_frac" ["value"] (SpFam (CL K) S_as_frac)) (c_are_prizes : Cal P w K mg base 7 "are_prizes" ["value"] (SpFam (CL K) S_are_prizes)) : Cal P w K mg base 8 "is_box" ["value"] (SpFam (CL K) S_is_box) := by
  refine cal_mkF (N := ["value"]) T.g_is_box T.d_is_box sc_is_box (fun _ _ _ _ _ _ us hl => match us, hl with | [_], _ => rfl) (by intro l Q h; first | (obtain ⟨rfl, _⟩ := h; rfl) | (obtain ⟨_, rfl, _⟩ := h; rfl) | (obtain ⟨_, _, rfl, _⟩ := h; rfl) | (obtain ⟨_, _, _, rfl, _⟩ := h; rfl) | (obtain ⟨_, _, _, _, rfl, _⟩ := h; rfl) | (obtain ⟨_, _, _, _, _, rfl, _⟩ := h; rfl) | (obtain ⟨_, _, _, _, _, _, rfl, _⟩ := h; rfl) | (obtain ⟨_, _, _, _, _, _, _, rfl, _⟩ := h; rfl) | (obtain ⟨_, _, _, _, _, _, _, _, rfl, _⟩ := h; rfl) | (obtain ⟨_, _, _, _, _, _, _, _, _, rfl, _⟩ := h; rfl) | (obtain ⟨_, _, _, _, _, _, _, _, _, _, rfl, _⟩ := h; rfl) | (obtain ⟨_, _, _, _, _, _, _, _, _, _, _, rfl, _⟩ := h; rfl)) (fun f cdv A outer s H E hr => ⟨_, (pss_cons (ps_if (PW.pt (pw_or (pt_not (pt_val (pe_calC c_is_sequence hr (by decide) (by rfl) (pa_cons (pv 0) pa_nil)))) (pw_or (pt_cmpR op_ne (pe_callB (cr_lenK K rfl) (by rfl) T.b_len PySem.boot_len (pa_cons (pv 0) pa_nil)) pe_int (nomark _)) (pw_or1 (pt_not (pt_val (pe_calC c_is_amount hr (by decide) (by rfl) (pa_cons (pe_ix (ix_seqK K rfl) (pv 0) pe_int (fun _ _ => rfl)) pa_nil)))))))) (pss_one (ps_ret pe_bl)) pss_nil) (pss_one (ps_ret (pe_and (pe_cmpR op_geI (pe_fldK K rfl (pe_calC c_as_frac hr (by decide) (by rfl) (pa_cons (pe_ix (ix_seqK K rfl) (pv 0) pe_int (fun _ _ => rfl)) pa_nil)) rfl) pe_int (nomark _)) (pe_one (pe_calC c_are_prizes hr (by decide) (by rfl) (pa_cons (pe_ix (ix_seqK K rfl) (pv 0) pe_int (fun _ _ => rfl)) pa_nil))))))), ?_⟩)
  intro nn B l Q h
  obtain ⟨d, rfl, kn, h⟩ := h
  cases hs : d.isSeq with
  | false =>
    walk_at "g"
    refine ⟨_, rfl, kn.kn, ?_⟩
    rw [hs]
    walk_at "g"
    unfold boxB at h
    rw [seq_no hs] at h
    exact h
  | true =>
    obtain ⟨k, xs, rfl⟩ := isSeq_ex hs
    obtain ⟨kx, kl⟩ := kn.seq seqOf_kd
    unfold boxB at h
    rw [seqOf_kd] at h
    refine sx_seq ?_
    refine sx_if ?_
    walk_at "g"
    refine ⟨_, rfl, kn_kd, ?_⟩
    rw [isSeq_kd]
    walk_at "g"
    refine br_n (fun h1 => ?_) (fun h1 => ?_)
    · walk_at "g"
      match xs, h, h1 with
      | [], h, h1 => exact h
      | [_], h, h1 => exact h
      | _ :: _ :: _ :: _, h, h1 => exact h
      | [_, _], h, h1 => exact absurd rfl h1
    · match xs, kx, h, h1 with
      | [c, x], kx, h, h1 =>
        have kc := kx c (by simp)
        have kv := kx x (by simp)
        dsimp only at h
        walk_at "g"
        refine ⟨_, rfl, kc.kn, ?_⟩
        walk_at "g"
        cases ha : amtB c with
        | false =>
          rw [ha] at h
          walk_at "g"
          exact h
        | true =>
          rw [ha, Bool.true_and] at h
          walk_at "g"
          refine ⟨_, _, rfl, amt_d ha, ?_⟩
          walk_at "g"
          refine br_p (fun h2 => ?_) (fun h2 => ?_)
          · rw [decide_eq_true h2, Bool.true_and] at h
            walk_at "g"
            exact ⟨_, rfl, kv, h⟩
          · rw [decide_eq_false h2] at h
            exact h
      | [], _, h, h1 => exact absurd h1 (by simp)
      | [_], _, h, h1 => exact absurd h1 (by simp)
      | _ :: _ :: _ :: _, _, h, h1 => simp at h1; omega

end

end K
end

section
set_option maxRecDepth 100000
set_option maxHeartbeats 4000000
namespace K
open PySem PySem.Spec PyProof.Rows L2 G

def seqL (d : D) : List D := (seqOf d).getD []
def pairT (d : D) : D := .tup [weightA d, .frac (worthA d)]
def rowT (d : D) : D := match seqOf d with
  | some [c, p] => .tup [.frac (valA c), .tup ((seqL p).map pairT)]
  | _ => .non
theorem box_ex {d : D} (h : boxB d = true) : ∃ k c k2 xs, d = Kd.d k [c, Kd.d k2 xs] ∧ amtB c = true ∧ 0 ≤ (valA c).num ∧ 1 ≤ xs.length ∧ xs.length ≤ 4 ∧ (∀ x ∈ xs, shownB x = true) ∧ ascB (xs.map worthA) = true := by
  cases hs : d.isSeq with
  | false => unfold boxB at h; rw [seq_no hs] at h; cases h
  | true =>
    obtain ⟨k, xs, rfl⟩ := isSeq_ex hs
    unfold boxB at h
    rw [seqOf_kd] at h
    match xs, h with
    | [], h => cases h
    | [_], h => cases h
    | _ :: _ :: _ :: _, h => cases h
    | [c, x], h =>
      simp only [Bool.and_eq_true, decide_eq_true_eq] at h
      obtain ⟨h1, h2, h3⟩ := h
      cases hs : x.isSeq with
      | false => unfold prizesB at h3; rw [seq_no hs] at h3; cases h3
      | true =>
        obtain ⟨k2, ys, rfl⟩ := isSeq_ex hs
        unfold prizesB at h3
        rw [seqOf_kd] at h3
        simp only [Bool.and_eq_true, decide_eq_true_eq, List.all_eq_true] at h3
        exact ⟨k, c, k2, ys, rfl, h1, h2, h3.1, h3.2.1, h3.2.2.1, h3.2.2.2⟩
/-- a box: its cost, its prizes -/
abbrev Bx := Rat × List (Int × Rat)
def pairR (p : Int × Rat) : D := .tup [.int p.1, .frac p.2]
def boxR (b : Bx) : D := .tup [.frac b.1, .tup (b.2.map pairR)]
theorem boxR_inj {a b : Bx} (h : boxR a = boxR b) : a = b := by
  unfold boxR at h
  injection h with h
  injection h with h1 h2
  injection h2 with h2 _
  injection h1 with h1
  injection h2 with h2
  have : a.2 = b.2 := by
    have key : ∀ {l m : List (Int × Rat)}, l.map pairR = m.map pairR → l = m := by
      intro l
      induction l with
      | nil => intro m h; cases m with
        | nil => rfl
        | cons _ _ => cases h
      | cons x l ih =>
        intro m h
        cases m with
        | nil => cases h
        | cons y m =>
          rw [List.map_cons, List.map_cons] at h
          injection h with h3 h4
          unfold pairR at h3
          injection h3 with h3
          injection h3 with h5 h6
          injection h6 with h6 _
          injection h5 with h5
          injection h6 with h6
          rw [ih h4, Prod.ext h5 h6]
    exact key h2
  exact Prod.ext h1 this
theorem boxRs_inj : ∀ {l m : List Bx}, l.map boxR = m.map boxR → l = m
  | [], [], _ => rfl
  | [], _ :: _, h => by cases h
  | _ :: _, [], h => by cases h
  | a :: l, b :: m, h => by
    rw [List.map_cons, List.map_cons] at h
    injection h with h1 h2
    rw [boxR_inj h1, boxRs_inj h2]
theorem sim_map {n : Nat} {α : Type} {f : α → D} (h : ∀ a b, Sim n (f a) (f b)) (l m : List α) : Sim (n + 1) (.tup (l.map f)) (.tup (m.map f)) := .tup fun i x y hx hy => by
  rw [List.getElem?_map] at hx hy
  cases e : l[i]? with
  | none => rw [e] at hx; cases hx
  | some a =>
    cases e2 : m[i]? with
    | none => rw [e2] at hy; cases hy
    | some b =>
      rw [e] at hx; rw [e2] at hy
      cases hx; cases hy
      exact h a b
theorem td_map {n : Nat} {α : Type} {f : α → D} (h : ∀ a, TD n (f a)) (l : List α) : TD (n + 1) (.tup (l.map f)) := .tup fun x hx => by
  obtain ⟨a, _, rfl⟩ := List.mem_map.mp hx
  exact h a
theorem sim_two {n : Nat} {a b c d : D} (h1 : Sim n a c) (h2 : Sim n b d) : Sim (n + 1) (.tup [a, b]) (.tup [c, d]) := .tup fun i x y hx hy => by
  match i, hx, hy with
  | 0, hx, hy => simp at hx hy; subst hx; subst hy; exact h1
  | 1, hx, hy => simp at hx hy; subst hx; subst hy; exact h2
  | i + 2, hx, hy => simp at hx
theorem td_two {n : Nat} {a b : D} (h1 : TD n a) (h2 : TD n b) : TD (n + 1) (.tup [a, b]) := .tup fun x hx => by
  simp at hx
  rcases hx with rfl | rfl
  · exact h1
  · exact h2
theorem sim_boxes (l m : List Bx) : Sim 4 (.tup (l.map boxR)) (.tup (m.map boxR)) := sim_map (n := 3) (f := boxR) (fun a b => sim_two (n := 2) (.frac a.1 b.1) (sim_map (n := 1) (f := pairR) (fun p q => sim_two (n := 0) (.int p.1 q.1) (.frac p.2 q.2)) a.2 b.2)) l m
theorem td_boxes (l : List Bx) : TD 4 (.tup (l.map boxR)) := td_map (n := 3) (f := boxR) (fun a => td_two (n := 2) (.frac a.1) (td_map (n := 1) (f := pairR) (fun p => td_two (n := 0) (.int p.1) (.frac p.2)) a.2)) l
def _root_.G.D.isObj : D → Bool
  | .obj _ _ => true
  | _ => false
def boxesD (rs : List D) : D := .obj 0 [("rows", .tup rs)]
section
local macro_rules | `(tactic| walk_at "e") => `(tactic| first
  | ((with_reducible refine' ek_var ?h1 ?_); (case h1 => exact rfl))
  | (with_reducible refine ek_int ?_)
  | (with_reducible refine ek_bl ?_)
  | (with_reducible refine ek_non ?_)
  | (with_reducible refine ek_str ?_)
  | (with_reducible refine ek_ty ?_)
  | (with_reducible refine ek_cls ?_)
  | (with_reducible refine ek_ix ?_)
  | (with_reducible refine ek_un ?_)
  | (with_reducible refine ek_tup ?_)
  | (with_reducible refine k_call ?_)
  | (with_reducible refine ek_len ?_)
  | (with_reducible refine ek_tuple ?_)
  | (with_reducible refine ek_sum ?_)
  | (with_reducible refine ek_all ?_)
  | (with_reducible refine ek_any ?_)
  | (with_reducible refine ek_chain ?_)
  | (with_reducible refine ek_andV ?_)
  | (with_reducible refine ek_orV ?_)
  | (with_reducible refine ek_notV ?_)
  | (with_reducible refine ek_if ?_)
  | (with_reducible refine ek_ef (ef_lst ?_))
  | (with_reducible refine ek_ef (ef_list ?_))
  | (with_reducible refine ek_ef (ef_cat ?_))
  | (with_reducible refine ek_ef (ef_rep ?_))
  | (with_reducible refine ek_ef (ef_slice ?_))
  | (with_reducible refine ek_ef (ef_rev ?_))
  | (with_reducible refine ek_ef (ef_lstRev ?_))
  | (with_reducible refine ek_ef (ef_map ?_))
  | (with_reducible refine ek_ef (ef_filt ?_))
  | (with_reducible refine ef_lst ?_)
  | (with_reducible refine ef_list ?_)
  | (with_reducible refine ef_cat ?_)
  | (with_reducible refine ef_rep ?_)
  | (with_reducible refine ef_slice ?_)
  | (with_reducible refine ef_rev ?_)
  | (with_reducible refine ef_lstRev ?_)
  | (with_reducible refine ef_map ?_)
  | (with_reducible refine ef_filt ?_)
  | ((with_reducible refine' el_var ?h1 ?_); (case h1 => exact rfl))
  | ((with_reducible refine' el_own ?h1 ?_); (case h1 => exact rfl))
  | (with_reducible refine el_ef (ef_lst ?_))
  | (with_reducible refine el_ef (ef_list ?_))
  | (with_reducible refine el_ef (ef_cat ?_))
  | (with_reducible refine el_ef (ef_rep ?_))
  | (with_reducible refine el_ef (ef_slice ?_))
  | (with_reducible refine el_ef (ef_rev ?_))
  | (with_reducible refine el_ef (ef_lstRev ?_))
  | (with_reducible refine el_ef (ef_map ?_))
  | (with_reducible refine el_ef (ef_filt ?_))
  | (with_reducible refine ek_op ?_)
  | (with_reducible refine ek_cb ?_)
  | (with_reducible refine el_ek ?_)
  | (with_reducible refine tk_test ?_)
  | (with_reducible refine tk_B ?_)
  | (with_reducible refine tk_and ?_)
  | (with_reducible refine tk_or ?_)
  | (with_reducible refine tk_not ?_)
  | (with_reducible refine tk_yes ?_)
  | (with_reducible refine ak_nil ?_)
  | (with_reducible refine ak_cons ?_)
  | (with_reducible refine k_num (‹Tx _ _›) ?_)
  | (with_reducible refine k_den (‹Tx _ _›) ?_)
  | (with_reducible refine k_mk2 ?_)
  | (with_reducible refine k_mk1 ?_)
  | (with_reducible refine k_bel ?_)
  | (with_reducible refine k_own ?_)
  | (with_reducible refine rk_U2 (k_own ?_))
  | (with_reducible refine rk_mul (Sz.mul (by assumption) (by assumption)) ?_)
  | (with_reducible refine rk_U1 (rk_mul (Sz.mul (by assumption) (by assumption)) ?_))
  | (with_reducible refine ek_dget ?_)
  | (with_reducible refine uk_neg ?_)
  | (with_reducible refine ek_disp ?_)
  | (with_reducible refine pk_cons ?_)
  | (with_reducible refine pk_nil ?_)
  | (with_reducible refine rk_mod (by assumption) ?_)
  | (with_reducible refine rk_add ?_)
  | (with_reducible refine rk_sub ?_)
  | (with_reducible refine rk_lt ?_)
  | (with_reducible refine rk_le ?_)
  | (with_reducible refine rk_gt ?_)
  | (with_reducible refine rk_ge ?_)
  | (with_reducible refine rk_eqI ?_)
  | (with_reducible refine rk_neI ?_)
  | (with_reducible refine rk_isN ?_)
  | (with_reducible refine rk_notN ?_)
  | (with_reducible refine rk_U1 (rk_add ?_))
  | (with_reducible refine rk_U1 (rk_sub ?_))
  | (with_reducible refine ck_gcd ?_)
  | (with_reducible refine ck_abs ?_)
  | (with_reducible refine ck_int ?_)
  | (with_reducible refine ik_seq ?_)
  | (with_reducible refine ik_range1 ?_)
  | (with_reducible refine ik_range2 ?_)
  | (with_reducible refine ik_enumA ?_)
  | (with_reducible refine ik_zip ?_)
  | (with_reducible refine ik_rev ?_)
  | ((with_reducible refine' cg_name ?_ ?h1 ?h2); (case h1 => exact rfl); (case h2 => decide))
  | ((with_reducible refine' cg_anyT ?h1 ?_); (case h1 => exact rfl))
  | ((with_reducible refine' cg_anyL ?h1 ?_); (case h1 => exact rfl))
  | ((with_reducible refine' cg_anyK ?h1 ?_); (case h1 => exact rfl))
  | ((with_reducible refine' cgs_cons ?_ ?h1 ?h2); (case h1 => exact rfl); (case h2 => decide))
  | (with_reducible refine cgs_nil ?_)
  | ((with_reducible refine' gk_name ?_ ?h1); (case h1 => exact rfl))
  | ((with_reducible refine' gk_anyT ?h1 ?_); (case h1 => exact rfl))
  | ((with_reducible refine' gk_anyL ?h1 ?_); (case h1 => exact rfl))
  | ((with_reducible refine' gk_anyK ?h1 ?_); (case h1 => exact rfl))
  | ((with_reducible refine' gks_cons ?_ ?h1); (case h1 => exact rfl))
  | ((with_reducible refine' gks_consA (n := 0) ?_ ?h1 ?h2); (case h1 => exact rfl); (case h2 => exact rfl))
  | ((with_reducible refine' gks_consB ?h0 ?_ ?h1 ?h2); (case h0 => exact rfl); (case h1 => exact rfl); (case h2 => exact rfl))
  | (with_reducible refine gks_nil ?_)
  | (with_reducible refine ok_none ?_)
  | (with_reducible refine ok_some ?_))
local macro_rules | `(tactic| walk_at "s") => `(tactic| first
  | (with_reducible refine sx_guard ?_ ?_)
  | (with_reducible refine sx_seq ?_)
  | ((with_reducible refine' sx_retO ?h1 ?_); (case h1 => exact rfl))
  | (with_reducible refine sx_ret ?_)
  | (with_reducible refine sx_if ?_)
  | (with_reducible refine sx_next ?_)
  | (with_reducible refine sx_break ?_)
  | (with_reducible refine sx_cont ?_)
  | ((with_reducible refine' sx_append ?h1 ?_); (case h1 => exact rfl))
  | ((with_reducible refine' sx_setI ?h1 ?_); (case h1 => exact rfl))
  | ((with_reducible refine' sx_set ?h1 ?_); (case h1 => exact rfl))
  | (with_reducible refine sx_asg ?_)
  | ((with_reducible refine' sx_par ?h1 ?h2 ?_); (case h1 => exact rfl); (case h2 => exact rfl))
  | (with_reducible refine sx_drop ?_)
  | ((with_reducible refine' k_fldS (‹Tx _ _›) ?h1 ?h2 ?h3 ?_); (case h1 => exact rfl); (case h2 => decide); (case h3 => exact rfl)))
/-! plain existentials that the rules leave -/
local macro_rules | `(tactic| walk_at "x") => `(tactic| first
  | (with_reducible refine x_bl ?_)
  | (with_reducible refine x_int ?_)
  | (with_reducible refine x_frac ?_)
  | (with_reducible refine x_lst ?_)
  | (with_reducible refine x_tup ?_)
  | (with_reducible refine x_kd ?_)
  | (with_reducible refine x_oneL ?_)
  | (with_reducible refine x_oneT ?_)
  | (with_reducible refine x_one ?_)
  | ((with_reducible refine' x_at ?h1 ?_); (case h1 => exact rfl))
  | ((with_reducible refine' x_dic ?h1 ?_); (case h1 => exact rfl))
  | (with_reducible refine (⟨rfl, ?_⟩ : Kd.l = Kd.l ∧ _))
  | ((with_reducible refine' x_len ?h1 ?_); (case h1 => exact rfl))
  | ((with_reducible refine' br_t ?h1 ?_); (case h1 => exact rfl))
  | ((with_reducible refine' br_f ?h1 ?_); (case h1 => exact rfl)))
local macro_rules | `(tactic| walk_at "f") => `(tactic| first
  | ((with_reducible refine' sx_forW ?h1 ?_); (case h1 => exact rfl))
  | (with_reducible refine sx_forGW ?_))
local macro_rules | `(tactic| walk_at "g") => `(tactic| repeat (first | walk_at "s" | walk_at "f" | walk_at "e" | walk_at "x"))
local macro_rules | `(tactic| walk_at "v") => `(tactic| repeat (first | walk_at "e" | walk_at "x"))
local macro_rules | `(tactic| walk_at "h") => `(tactic| repeat (first | walk_at "s" | walk_at "e" | walk_at "x"))
variable {P : Program} {w : World} {K : PySem.W.Frag} {mg : Str → Option Value} {base : Heap}

theorem k_mkB {E : XK} {KX : Str → List (Str × D) → Prop} {nn : Hp} {B : Bs} {Q : D → Prop} {Γ : List Sl} {S : List D → (List (Str × D) → Prop) → (Str → List (Str × D) → Prop) → Prop} {ta : TA} (o : XO K (CL K nn) B E KX) (h : AK (CL K nn) B Γ ta fun l => S l (fun fl => Q (.obj 0 fl)) KX) : EK (CL K nn) B Γ (tMake (He.ga K "Boxes") (SpFamIX K (CL K) (He.ga K "Boxes") S) [] E ta) Q :=
  ek_mkOX (F := CL K) (n := nn) (c := 0) rfl o h
theorem k_rows (T : Tx K mg) {nn : Hp} {B : Bs} {Q : D → Prop} {Γ : List Sl} {ta : TE} (h : EK (CL K nn) B Γ ta fun d => ∃ rs, d = boxesD rs ∧ Q (.tup rs)) : EK (CL K nn) B Γ (tFld K ta "rows") Q :=
  ek_fld (C := CL K nn) (h.mono fun d ⟨rs, e, k⟩ => ⟨0, _, _, e, T.cl_Boxes, T.no_Boxes_rows, rfl, k⟩)
theorem k_fldB (T : Tx K mg) {nn : Hp} {B : Bs} {Γ : List Sl} {te : TE} {i : Nat} {fl : List (Str × D)} {nx bk ct : List Sl → Prop} {rt : List Sl → D → Prop} (hs : Γ[i]? = some (.ins (He.ga K "Boxes") fl)) (hl0 : Nat.blt fl.length 1000 = true) (h : EK (CL K nn) B Γ te fun d => nx (Γ.set i (.ins (He.ga K "Boxes") (putD "rows" d fl)))) : SX (CL K nn) B Γ (sFld K (tVar i) te "rows") nx rt bk ct :=
  sx_fld hs T.cl_Boxes T.no_Boxes_rows (Nat.le_of_ble_eq_true hl0) h
def S_BoxesD_initD : List D → (List (Str × D) → Prop) → (Str → List (Str × D) → Prop) → Prop := fun l K KX => ∃ d, l = [d] ∧ KnR d ∧ (seqOf d = none → KX "InvalidProject" [("state", .non)]) ∧ ∀ xs, seqOf d = some xs → (¬ (1 ≤ xs.length ∧ xs.length ≤ 4) → KX "WrongSize" [("many", .int (xs.length : Nat))]) ∧ (1 ≤ xs.length → xs.length ≤ 4 → (∀ i x, (∀ j y, j < i → xs[j]? = some y → boxB y = true) → xs[i]? = some x → boxB x = false → KX "InvalidProject" [("state", .int (i : Nat))]) ∧ ((∀ x ∈ xs, boxB x = true) → K [("rows", .tup (xs.map rowT))]))
theorem ok_BoxesD_initD (T : Tx K mg) (c_is_sequence : Cal P w K mg base 1 "is_sequence" ["value"] (SpFam (CL K) S_is_sequence)) (r_InvalidProject : CalEr P w K mg base "InvalidProject" (spE1 (He.ga K "InvalidProject") "state")) (r_WrongSize : CalEr P w K mg base "WrongSize" (spE1 (He.ga K "WrongSize") "many")) (c_is_box : Cal P w K mg base 8 "is_box" ["value"] (SpFam (CL K) S_is_box)) (c_as_frac : Cal P w K mg base 4 "as_frac" ["value"] (SpFam (CL K) S_as_frac)) {fd : FuncData} (F : FunD K "__init__" "Boxes.__init__" (defArgs s_BoxesD_initD) (defBody s_BoxesD_initD) (defScope s_BoxesD_initD) [] [] (He.ma K (He.ga K "Boxes") "__init__") fd) : FnOk P w K mg base (L2.CX P w) 9 (He.ma K (He.ga K "Boxes") "__init__") fd ["self", "rows"] (SpFamIX K (CL K) (He.ga K "Boxes") S_BoxesD_initD) := by
  refine init_mkX (N := ["rows", "kept", "at", "row", "prizes", "weight", "worth"]) F sc_BoxesD_initD (by intro l Q QX h; first | (obtain ⟨rfl, _⟩ := h; rfl) | (obtain ⟨_, rfl, _⟩ := h; rfl) | (obtain ⟨_, _, rfl, _⟩ := h; rfl) | (obtain ⟨_, _, _, rfl, _⟩ := h; rfl) | (obtain ⟨_, _, _, _, rfl, _⟩ := h; rfl) | (obtain ⟨_, _, _, _, _, rfl, _⟩ := h; rfl) | (obtain ⟨_, _, _, _, _, _, rfl, _⟩ := h; rfl) | (obtain ⟨_, _, _, _, _, _, _, rfl, _⟩ := h; rfl) | (obtain ⟨_, _, _, _, _, _, _, _, rfl, _⟩ := h; rfl) | (obtain ⟨_, _, _, _, _, _, _, _, _, rfl, _⟩ := h; rfl) | (obtain ⟨_, _, _, _, _, _, _, _, _, _, rfl, _⟩ := h; rfl) | (obtain ⟨_, _, _, _, _, _, _, _, _, _, _, rfl, _⟩ := h; rfl)) (fun f cdv A outer s H E hr => ⟨_, (pss_cons (ps_if (pt_not (pt_val (pe_calC c_is_sequence hr (by decide) (by rfl) (pa_cons (pv 1) pa_nil)))) (pss_one (ps_raiseE rfl (takes_of rfl rfl rfl rfl) (pmk_er K rfl r_InvalidProject hr (by decide) (by rfl) (pa_cons pe_non pa_nil)))) pss_nil) (pss_cons (ps_if (pt_not (pt_chain op_leI op_leI pe_int (pe_callB (cr_lenK K rfl) (by rfl) T.b_len PySem.boot_len (pa_cons (pv 1) pa_nil)) (pe_gint T.i_MOST_BOXES (by rfl)))) (pss_one (ps_raiseE rfl (takes_of rfl rfl rfl rfl) (pmk_er K rfl r_WrongSize hr (by decide) (by rfl) (pa_cons (pe_callB (cr_lenK K rfl) (by rfl) T.b_len PySem.boot_len (pa_cons (pv 1) pa_nil)) pa_nil)))) pss_nil) (pss_cons (ps_set (i := 2) sc_BoxesD_initD.nd rfl (by first | exact Or.inl rfl | exact Or.inr rfl) (pe_lst pa_nil)) (pss_cons (ps_for (passes_of rfl) rfl (GEn.pi_enumA K rfl (by rfl) T.b_enumerate (pa_cons (pv 1) pa_nil)) (pg_anyK K rfl rfl (pgs_cons (pg_name (i := 3) sc_BoxesD_initD.nd rfl (by first | exact Or.inl rfl | exact Or.inr rfl)) (pgs_cons (pg_name (i := 4) sc_BoxesD_initD.nd rfl (by first | exact Or.inl rfl | exact Or.inr rfl)) pgs_nil))) (pss_cons (ps_if (pt_not (pt_val (pe_calC c_is_box hr (by decide) (by rfl) (pa_cons (pv 4) pa_nil)))) (pss_one (ps_raiseE rfl (takes_of rfl rfl rfl rfl) (pmk_er K rfl r_InvalidProject hr (by decide) (by rfl) (pa_cons (pv 3) pa_nil)))) pss_nil) (pss_cons (ps_set (i := 5) sc_BoxesD_initD.nd rfl (by first | exact Or.inl rfl | exact Or.inr rfl) (pe_callTy (cr_tupK K rfl) (by rfl) T.b_tuple (by decide +kernel) (pa_cons (pe_lc (own := [("weight", 6), ("worth", 7)]) (g := gAny K 2 (gCons (gName 6) (gCons (gName 7) gNil))) (tt := tYes) rfl sc_BoxesD_initD.nd (pi_seqK K rfl (pe_ix (ix_seqK K rfl) (pv 4) pe_int (fun _ _ => rfl))) (blkOk_by (own := [("weight", 6), ("worth", 7)]) (N := ["self", "rows", "kept", "at", "row", "prizes", "weight", "worth"]) (sc := defScope s_BoxesD_initD) (by decide +kernel)) (fun _ _ _ _ _ => (pg_anyK K rfl rfl (pgs_cons (pg_name (i := 6) sc_BoxesD_initD.nd rfl (by first | exact Or.inl rfl | exact Or.inr rfl)) (pgs_cons (pg_name (i := 7) sc_BoxesD_initD.nd rfl (by first | exact Or.inl rfl | exact Or.inr rfl)) pgs_nil)))) (fun _ _ _ _ _ => pts_nil) (fun _ _ _ _ _ => (pe_tup (pa_cons (pv 6) (pa_cons (pe_calC c_as_frac hr (by decide) (by rfl) (pa_cons (pv 7) pa_nil)) pa_nil))))) pa_nil))) (pss_one (ps_expr (pe_bm PySem.F.plainAttrs_list PySem.F.slot_list_append PySem.F.type_list_append mt_append (pv 2) (pa_cons (pe_tup (pa_cons (pe_calC c_as_frac hr (by decide) (by rfl) (pa_cons (pe_ix (ix_seqK K rfl) (pv 4) pe_int (fun _ _ => rfl)) pa_nil)) (pa_cons (pv 5) pa_nil))) pa_nil))))))) (pss_one (ps_fldK K rfl (pv 0) (pe_callTy (cr_tupK K rfl) (by rfl) T.b_tuple (by decide +kernel) (pa_cons (pv 2) pa_nil)) rfl)))))), ?_⟩)
  intro nn B l Q QX h o
  obtain ⟨d, rfl, kn, h1, h2⟩ := h
  cases hs : d.isSeq with
  | false =>
    refine sx_seq (sx_if ?_)
    walk_at "g"
    refine ⟨_, rfl, kn.kn, ?_⟩
    rw [hs]
    walk_at "g"
    refine sx_raise1 o ?_
    walk_at "v"
    exact ⟨_, rfl, h1 (seq_no hs)⟩
  | true =>
    obtain ⟨k, xs, rfl⟩ := isSeq_ex hs
    obtain ⟨kx, kl⟩ := kn.seq seqOf_kd
    obtain ⟨h3, h4⟩ := h2 xs seqOf_kd
    refine sx_skip ?_ ?_
    · walk_at "g"
      refine ⟨_, rfl, kn_kd, ?_⟩
      walk_at "g"
      rw [isSeq_kd]
      rfl
    by_cases hl : 1 ≤ xs.length ∧ xs.length ≤ 4
    · obtain ⟨h5, h6⟩ := h4 hl.1 hl.2
      refine sx_skip ?_ ?_
      · walk_at "g"
        refine br_p (fun _ => ?_) (fun z => absurd (by omega) z)
        walk_at "g"
        rw [decide_eq_true (show (xs.length : Int) ≤ 4 by omega)]
        rfl
      refine sx_seq ?_
      refine' sx_setO ?h1 ?_
      case h1 => exact rfl
      walk_at "h"
      refine sx_forGSX ?_
      walk_at "v"
      refine ⟨D × Nat, xs.zipIdx, fun p => .tup [.int (p.2 : Nat), p.1], Unit, fun j _ => [.ins (He.ga K "Boxes") [], .d (Kd.d k xs), .own ((xs.take j).map rowT), .no, .no, .no, .no, .no], fun j _ => ∀ i y, i < j → xs[i]? = some y → boxB y = true, by rw [show xs = xs.map (fun x => x) by simp, enumD_map]; simp, ⟨(), fun i y hi => absurd hi (Nat.not_lt_zero _), Wk.refl⟩, fun W1 j x s hk hx hP => ?_, fun Γ' s hP w => sx_weak w ?_⟩
      · obtain ⟨hx, hj⟩ := zipIdx_get hx
        have hj2 : j < xs.length := (List.getElem?_eq_some_iff.mp hx).1
        have knx := kx x.1 (List.mem_of_getElem? hx)
        have o' := o.keep hk
        walk_at "v"
        refine sx_seq (sx_if ?_)
        walk_at "v"
        refine ⟨_, rfl, knx, ?_⟩
        cases hb : boxB x.1 with
        | false =>
          walk_at "h"
          refine sx_raise1 o' ?_
          walk_at "v"
          refine ⟨_, rfl, ?_⟩
          rw [hj]
          exact h5 j x.1 hP hx hb
        | true =>
          walk_at "h"
          obtain ⟨k1, c, k2, ys, e, a1, a2, a3, a4, a5, a6⟩ := box_ex hb
          rw [e]
          walk_at "h"
          refine ⟨D, ys, id, pairT, by simp, Nat.le_of_lt (small1000 (by omega)), fun W2 y hy => ?_, ?_⟩
          · obtain ⟨k3, i, z, rfl, b1, b2, b3, b4⟩ := shown_ex (a5 y hy)
            dsimp only [id]
            walk_at "h"
            refine ⟨_, _, rfl, amt_d b1, ?_⟩
            walk_at "h"
            unfold pairT weightA worthA
            rw [seqOf_kd]
          walk_at "h"
          refine ⟨_, _, rfl, amt_d a1, ?_⟩
          walk_at "h"
          refine ⟨small1000 (by simp; omega), ?_⟩
          refine ⟨(), fun i y hi hy => ?_, ?_⟩
          · rcases Nat.lt_or_ge i j with z | z
            · exact hP i y z hy
            · have : i = j := by omega
              subst this
              rw [hx] at hy
              cases hy
              exact hb
          · show Wk _ [_, _, .own ((xs.take (j + 1)).map rowT), .no, .no, .no, .no, .no]
            rw [List.take_succ, hx]
            simp only [List.map_append, Option.toList, List.map_cons, List.map_nil]
            have er : rowT x.1 = .tup [.frac (valA c), .tup (ys.map pairT)] := by
              rw [e]
              unfold rowT
              rw [seqOf_kd]
              dsimp only
              unfold seqL
              rw [seqOf_kd]; rfl
            rw [er]
            exact .same (.same (.same (.no (.no (.no (.no (.no .nil)))))))
      · rw [List.length_zipIdx] at hP ⊢
        dsimp only
        rw [List.take_length]
        refine k_fldB T rfl rfl ?_
        walk_at "h"
        refine ⟨_, rfl, h6 fun x hx => ?_⟩
        obtain ⟨i, hi⟩ := List.mem_iff_getElem?.mp hx
        exact hP i x (List.getElem?_eq_some_iff.mp hi).1 hi
    · refine sx_seq (sx_if ?_)
      walk_at "g"
      have fin := h3 hl
      refine br_p (fun z1 => ?_) (fun z1 => ?_)
      · walk_at "g"
        refine br_n (fun z2 => ?_) (fun z2 => absurd ⟨by omega, by omega⟩ hl)
        walk_at "g"
        refine sx_raise1 o ?_
        walk_at "v"
        exact ⟨_, rfl, fin⟩
      · walk_at "g"
        refine sx_raise1 o ?_
        walk_at "v"
        exact ⟨_, rfl, fin⟩

def S_BoxesD_lenD : List D → (D → Prop) → Prop := fun l K => ∃ rs : List D, l = [boxesD rs] ∧ K (.int (rs.length : Nat))
theorem ok_BoxesD_lenD (T : Tx K mg)  : ∃ fd, FnOk P w K mg base (L2.CX P w) 1 (He.ma K (He.ga K "Boxes") "__len__") fd ["self"] (SpFam (CL K) S_BoxesD_lenD) ∧ Binds K fd ["self"] [] := by
  refine mth_mkF (N := ["self"]) T.d_BoxesD_lenD sc_BoxesD_lenD (fun _ _ _ _ _ _ us hl => match us, hl with | [_], _ => rfl) (by intro l Q h; first | (obtain ⟨rfl, _⟩ := h; rfl) | (obtain ⟨_, rfl, _⟩ := h; rfl) | (obtain ⟨_, _, rfl, _⟩ := h; rfl) | (obtain ⟨_, _, _, rfl, _⟩ := h; rfl) | (obtain ⟨_, _, _, _, rfl, _⟩ := h; rfl) | (obtain ⟨_, _, _, _, _, rfl, _⟩ := h; rfl) | (obtain ⟨_, _, _, _, _, _, rfl, _⟩ := h; rfl) | (obtain ⟨_, _, _, _, _, _, _, rfl, _⟩ := h; rfl) | (obtain ⟨_, _, _, _, _, _, _, _, rfl, _⟩ := h; rfl) | (obtain ⟨_, _, _, _, _, _, _, _, _, rfl, _⟩ := h; rfl) | (obtain ⟨_, _, _, _, _, _, _, _, _, _, rfl, _⟩ := h; rfl) | (obtain ⟨_, _, _, _, _, _, _, _, _, _, _, rfl, _⟩ := h; rfl)) (fun f cdv A outer s H E hr => ⟨_, (pss_one (ps_ret (pe_callB (cr_lenK K rfl) (by rfl) T.b_len PySem.boot_len (pa_cons (pe_fldK K rfl (pv 0) rfl) pa_nil)))), ?_⟩)
  intro nn B l Q h
  obtain ⟨rs, rfl, h⟩ := h
  refine sx_ret ?_
  refine ek_len ?_
  refine el_ek ?_
  refine k_rows T ?_
  walk_at "v"
  exact ⟨_, rfl, .t, _, rfl, h⟩

theorem ck_bx (T : Tx K mg) {nn : Hp} {B : Bs} {Q : D → Prop} {d : D} (kn : OtD 0 d) (k : Q (.bl d.isObj)) : CK (CL K nn) B (rIsU K) [d, .cls (He.ga K "Boxes")] Q := by
  cases kn
  · exact ck_is (.non) (.cls _) T.tik_Boxes_NoneType k
  · exact ck_is (.bl _) (.cls _) T.tik_Boxes_bool k
  · exact ck_is (.int _) (.cls _) T.tik_Boxes_int k
  · exact ck_is (.str _) (.cls _) T.tik_Boxes_str k
  · exact ck_is (.tup _) (.cls _) T.tik_Boxes_tuple k
  · exact ck_is (.lst _) (.cls _) T.tik_Boxes_list k
  · exact ck_is (C := CL K nn) (.obj 0 _ T.ins_Boxes) (.cls _) T.kic_Boxes_Boxes k
def S_BoxesD_eqD : List D → (D → Prop) → Prop := fun l K => ∃ (bs : List Bx) (d : D), l = [boxesD (bs.map boxR), d] ∧ OtD 0 d ∧ (((∀ fl, d ≠ .obj 0 fl) ∧ K (.bl false)) ∨ ∃ cs, d = boxesD (cs.map boxR) ∧ ∀ b : Bool, (b = true ↔ bs = cs) → K (.bl b))
theorem ok_BoxesD_eqD (T : Tx K mg) (e_Frac : CalS P w K mg base 1 (He.ga K "Frac") "__eq__" (SpFam (CL K) S_FracD_eqD)) : ∃ fd, FnOk P w K mg base (L2.CX P w) 6 (He.ma K (He.ga K "Boxes") "__eq__") fd ["self", "other"] (SpFam (CL K) S_BoxesD_eqD) ∧ Binds K fd ["self", "other"] [] := by
  refine mth_mkF (N := ["self", "other"]) T.d_BoxesD_eqD sc_BoxesD_eqD (fun _ _ _ _ _ _ us hl => match us, hl with | [_, _], _ => rfl) (by intro l Q h; first | (obtain ⟨rfl, _⟩ := h; rfl) | (obtain ⟨_, rfl, _⟩ := h; rfl) | (obtain ⟨_, _, rfl, _⟩ := h; rfl) | (obtain ⟨_, _, _, rfl, _⟩ := h; rfl) | (obtain ⟨_, _, _, _, rfl, _⟩ := h; rfl) | (obtain ⟨_, _, _, _, _, rfl, _⟩ := h; rfl) | (obtain ⟨_, _, _, _, _, _, rfl, _⟩ := h; rfl) | (obtain ⟨_, _, _, _, _, _, _, rfl, _⟩ := h; rfl) | (obtain ⟨_, _, _, _, _, _, _, _, rfl, _⟩ := h; rfl) | (obtain ⟨_, _, _, _, _, _, _, _, _, rfl, _⟩ := h; rfl) | (obtain ⟨_, _, _, _, _, _, _, _, _, _, rfl, _⟩ := h; rfl) | (obtain ⟨_, _, _, _, _, _, _, _, _, _, _, rfl, _⟩ := h; rfl)) (fun f cdv A outer s H E hr => ⟨_, (pss_one (ps_ret (pe_and (pe_callB (cr_isK K rfl) (by rfl) T.b_isinstance (by decide +kernel) (pa_cons (pv 1) (pa_cons (pe_gcls T.g_Boxes (by rfl)) pa_nil))) (pe_one (pe_cmpR (e_Frac.eqT (fam K) (fun _ => rfl) 3 K rfl hr (by decide)) (pe_fldK K rfl (pv 0) rfl) (pe_fldK K rfl (pv 1) rfl) (nomark _)))))), ?_⟩)
  intro nn B l Q h
  obtain ⟨bs, d, rfl, od, h⟩ := h
  walk_at "g"
  refine ck_bx T od ?_
  rcases h with ⟨h1, h2⟩ | ⟨cs, rfl, h2⟩
  · have hd : d.isObj = false := by
      cases od <;> first | rfl | exact absurd rfl (h1 _)
    rw [hd]
    walk_at "v"
    exact h2
  · rw [show (boxesD (cs.map boxR)).isObj = true from rfl]
    walk_at "v"
    refine k_rows T ?_
    walk_at "v"
    refine ⟨_, rfl, ?_⟩
    refine k_rows T ?_
    walk_at "v"
    refine ⟨_, rfl, ?_⟩
    exact rk_eqT rfl (sim_boxes bs cs) (td_boxes bs) (td_boxes cs) fun b hb => h2 b (hb.trans ⟨fun z => boxRs_inj z, fun z => by rw [z]⟩)

end

end K
end

section
set_option maxRecDepth 100000
set_option maxHeartbeats 4000000
namespace K
open PySem PySem.Spec PyProof.Rows L2 G

/-! values with the heap as it stands -/
def VB (σ : L2.St) (H : Hp) (te : TE) (v : V) : Prop := ∀ Q : VK, Q v H → te σ H Q
def TB (σ : L2.St) (H : Hp) (tt : TT) (b : Bool) : Prop := ∀ Q : Bool → Hp → Prop, Q b H → tt σ H Q
section
variable {σ : L2.St} {H : Hp} {te ta tb td tv : TE} {tt tu : TT} {t u : TS} {D' : Ends} {K : PySem.W.Frag}
theorem vb_var {i : Nat} {v : V} (h : σ[i]? = some (some v)) : VB σ H (tVar i) v := fun Q q => ⟨v, h, q⟩
theorem vb_c {v : V} : VB σ H (tC v) v := fun Q q => q
theorem vb_getX {a : Addr} {kvs : List (Key × V)} {x : Str} {v : V} (h : VB σ H td (.ref a)) (hk : H a = some (.dK kvs)) (hv : valV kvs (.inr x) = some v) : VB σ H (tDGet td (tC (.str x))) v := fun Q q => h _ ⟨a, v, rfl, by rw [← hv]; exact DGet.k (k := .inr x) hk, q⟩
theorem vb_add {i j : Int} (h : VB σ H ta (.int i)) (h' : VB σ H tb (.int j)) : VB σ H (tOp rAddI ta tb) (.int (i + j)) := fun Q q => h _ (h' _ ⟨i, j, rfl, rfl, q⟩)
theorem vb_mul {i j : Int} (c : CMul i j) (h : VB σ H ta (.int i)) (h' : VB σ H tb (.int j)) : VB σ H (tOp (rI CMul fun i j => V.int (i * j)) ta tb) (.int (i * j)) := fun Q q => h _ (h' _ ⟨i, j, rfl, rfl, c, q⟩)
theorem vb_mulI {i j : Int} (c : CMulW i j) (h : VB σ H ta (.int i)) (h' : VB σ H tb (.int j)) : VB σ H (tOp rMulI ta tb) (.int (i * j)) := fun Q q => h _ (h' _ ⟨i, j, rfl, rfl, c, q⟩)
theorem vb_at {a : Addr} {vs : List V} {i : Int} {v : V} (h : VB σ H ta (.ref a)) (ha : H a = some (.lst vs)) (hv : atI vs i = some v) : VB σ H (tOp (rIx K) ta (tC (.int i))) v := fun Q q => h _ (.inl ⟨a, vs, i, v, rfl, rfl, SqL.of ha, hv, q⟩)
theorem vb_pow {i j : Int} (c : CPow i j) (h : VB σ H ta (.int i)) (h' : VB σ H tb (.int j)) : VB σ H (tOp (rI CPow fun i j => V.int (i ^ j.toNat)) ta tb) (.int (i ^ j.toNat)) := fun Q q => h _ (h' _ ⟨i, j, rfl, rfl, c, q⟩)
theorem vb_mod {i j : Int} (c : 0 < j) (h : VB σ H ta (.int i)) (h' : VB σ H tb (.int j)) : VB σ H (tOp rModI ta tb) (.int (i % j)) := fun Q q => h _ (h' _ ⟨i, j, rfl, rfl, c, q⟩)
theorem vb_div {i j : Int} (c : CDivW i j) (h : VB σ H ta (.int i)) (h' : VB σ H tb (.int j)) : VB σ H (tOp rDivI ta tb) (.int (i / j)) := fun Q q => h _ (h' _ ⟨i, j, rfl, rfl, c, q⟩)
theorem vb_ge {i j : Int} (h : VB σ H ta (.int i)) (h' : VB σ H tb (.int j)) : VB σ H (tOp rGeI ta tb) (.bl (decide (j ≤ i))) := fun Q q => h _ (h' _ ⟨i, j, rfl, rfl, q⟩)
theorem vb_gt {i j : Int} (h : VB σ H ta (.int i)) (h' : VB σ H tb (.int j)) : VB σ H (tOp rGtI ta tb) (.bl (decide (j < i))) := fun Q q => h _ (h' _ ⟨i, j, rfl, rfl, q⟩)
theorem vb_lt {i j : Int} (h : VB σ H ta (.int i)) (h' : VB σ H tb (.int j)) : VB σ H (tOp rLtI ta tb) (.bl (decide (i < j))) := fun Q q => h _ (h' _ ⟨i, j, rfl, rfl, q⟩)
theorem vb_eq {i j : Int} (h : VB σ H ta (.int i)) (h' : VB σ H tb (.int j)) : VB σ H (tOp rEq ta tb) (.bl (decide (i = j))) := fun Q q => h _ (h' _ ⟨rfl, by
  rw [show decide (V.int i = V.int j) = decide (i = j) from decide_eq_decide.mpr ⟨fun h => by injection h, fun h => by rw [h]⟩]
  exact q⟩)
theorem vb_int {i : Int} (h : VB σ H ta (.int i)) : VB σ H (tCB rInt1 (tCons ta tNil)) (.int i) := fun Q q => h _ (.inl ⟨i, rfl, q⟩)
theorem vb_len {c : Addr} {vs : List V} (h : VB σ H ta (.ref c)) (hc : H c = some (.lst vs)) : VB σ H (tCB (rLenU K) (tCons ta tNil)) (.int (vs.length : Nat)) := fun Q q => h _ ⟨_, vs.length, rfl, .inl ⟨vs, SqL.of hc, rfl⟩, q⟩
theorem vb_ix {c : Addr} {vs : List V} {i : Int} {v : V} (h : VB σ H ta (.ref c)) (h' : VB σ H tb (.int i)) (hc : H c = some (.lst vs)) (hv : atI vs i = some v) : VB σ H (tOp (rIx K) ta tb) v := fun Q q => h _ (h' _ (.inl ⟨c, vs, i, v, rfl, rfl, SqL.of hc, hv, q⟩))
theorem tb_test {b : Bool} (h : VB σ H te (.bl b)) : TB σ H (tTest te) b := fun Q q => h _ ⟨b, rfl, q⟩
theorem tb_and {b c : Bool} (h : TB σ H tt b) (h' : TB σ H tu c) : TB σ H (tAnd tt tu) (b && c) := fun Q q => h _ (by
  cases b with
  | true => rw [if_pos rfl]; exact h' _ q
  | false => rw [if_neg Bool.false_ne_true]; exact q)
theorem rs_if {b : Bool} (h : TB σ H tt b) (k1 : b = true → t D' σ H) (k2 : b = false → u D' σ H) : tIfS tt t u D' σ H := h _ (by
  cases b with
  | true => rw [if_pos rfl]; exact k1 rfl
  | false => rw [if_neg Bool.false_ne_true]; exact k2 rfl)
theorem rs_cut (M : L2.St → Hp → Prop) (h1 : ∀ D1 : Ends, (∀ σ H, M σ H → D1.nx σ H) → D1.rt = D'.rt → t D1 σ H) (h2 : ∀ σ H, M σ H → u D' σ H) : tSeq t u D' σ H := h1 { D' with nx := u D' } h2 rfl
theorem rs_seq (h : t { D' with nx := u D' } σ H) : tSeq t u D' σ H := h
theorem rs_next (h : D'.nx σ H) : tNext D' σ H := h
theorem rs_asg {i : Nat} {v : V} (h : VB σ H te v) (k : D'.nx (σ.set i (some v)) H) : tAsg te (gName i) D' σ H := h _ k
theorem rs_ret {v : V} (h : VB σ H te v) (k : D'.rt v H) : tRet te D' σ H := h _ k
theorem rs_setL {a : Addr} {vs : List V} {ti : TE} {k : Int} {j : Nat} {v : V} (hv : VB σ H tv v) (hd : VB σ H td (.ref a)) (hi : VB σ H ti (.int k)) (ha : H a = some (.lst vs)) (hj : ixN vs.length k = some j) (q : D'.nx σ (upd H a (.lst (vs.set j v)))) : tAsg tv (gSub td ti rSetL) D' σ H :=
  hv _ (hd _ (hi _ ⟨a, vs, k, j, rfl, rfl, ha, hj, q⟩))
theorem rs_put {a : Addr} {kvs kvs' : List (Key × V)} {x : Str} {v : V} (hd : VB σ H td (.ref a)) (hv : VB σ H tv v) (hk : H a = some (.dK kvs)) (hl : kvs.length < sizeLine) (he : putK kvs (.inr x) v = kvs') (k : D'.nx σ (upd H a (.dK kvs'))) : sDPut td (tC (.str x)) tv D' σ H :=
  hv _ (hd _ ⟨a, _, rfl, .inl ⟨kvs, .inr x, hk, rfl, hl, rfl⟩, he ▸ k⟩)
end
theorem _root_.G.LenOk.eq {σ : L2.St} {Γ : List Sl} (h : LenOk σ Γ) (hn : Γ.all (fun s => !s.isR) = true) : σ.length = Γ.length := by
  rcases Nat.lt_or_ge σ.length Γ.length with z | z
  · exfalso
    have g : Γ[σ.length]? = some Γ[σ.length] := by simp [z]
    have := (h.c _ _ g).mp (Nat.le_refl _)
    have := List.all_eq_true.mp hn _ (List.mem_of_getElem? g)
    simp_all
  · exact Nat.le_antisymm h.le z
theorem env_blank {C : Cl} {B : Bs} {W H H1 : Hp} {σ : L2.St} {Γ : List Sl} (e : EnvOk C B W H σ Γ) (stp : Stp C B.P B.S B.W0 B.H0 W H1) (pl : PlOk C B.P W H1) : EnvOk C B W H1 [] [] :=
  ⟨stp, e.kp, pl, e.p0, ⟨Nat.le_refl _, fun i s h => by simp at h⟩, fun _ => 0, fun i j s t h => by simp at h, fun i s h => by simp at h, fun i s h => by simp at h, fun i j cs ds h => by simp at h, fun i cs h => by simp at h, fun i cs p h => by simp at h, fun i cs p j s h => by simp at h⟩
def poolL (c : Addr) (at_ big mix : Int) : List V := [.ref c, .int at_, .int big, .int mix]
theorem el_raw {C : Cl} {B : Bs} {Γ : List Sl} {te : TE} {KK : PySem.W.Frag} {K : List D → Prop} (h : EK C B Γ te fun d => ∃ l, d = .raw l ∧ K l) : EF C B Γ (tCB (rListU KK) (tCons te tNil)) K := fun W H σ e Q q =>
  h W H σ e _ fun d v W1 H1 s1 r1 ⟨l, e0, k⟩ => by
    subst e0
    cases r1 with
    | @raw a o vs _ ha r =>
      refine ⟨_, _, rfl, .inl (.inl (.inr ⟨_, s1.wh _ _ ha⟩)), fun p hp => ?_⟩
      have s2 := Stp.own (C := C) (P := B.P) (S := noS) (o := .lst vs) s1.wh hp (e.pl.step s1).ne
      have hW : W1 p = none := by
        cases z : W1 p with
        | none => rfl
        | some o => rw [s1.wh _ _ z] at hp; cases hp
      exact q l p _ _ _ (s1.trans s2) (s1.free hp) hW upd_same r k
section
local macro_rules | `(tactic| walk_at "e") => `(tactic| first
  | ((with_reducible refine' ek_var ?h1 ?_); (case h1 => exact rfl))
  | (with_reducible refine ek_int ?_)
  | (with_reducible refine ek_bl ?_)
  | (with_reducible refine ek_non ?_)
  | (with_reducible refine ek_str ?_)
  | (with_reducible refine ek_ty ?_)
  | (with_reducible refine ek_cls ?_)
  | (with_reducible refine ek_ix ?_)
  | (with_reducible refine ek_un ?_)
  | (with_reducible refine ek_tup ?_)
  | (with_reducible refine k_call ?_)
  | (with_reducible refine ek_len ?_)
  | (with_reducible refine ek_tuple ?_)
  | (with_reducible refine ek_sum ?_)
  | (with_reducible refine ek_all ?_)
  | (with_reducible refine ek_any ?_)
  | (with_reducible refine ek_chain ?_)
  | (with_reducible refine ek_andV ?_)
  | (with_reducible refine ek_orV ?_)
  | (with_reducible refine ek_notV ?_)
  | (with_reducible refine ek_if ?_)
  | (with_reducible refine ek_ef (ef_lst ?_))
  | (with_reducible refine ek_ef (ef_list ?_))
  | (with_reducible refine ek_ef (ef_cat ?_))
  | (with_reducible refine ek_ef (ef_rep ?_))
  | (with_reducible refine ek_ef (ef_slice ?_))
  | (with_reducible refine ek_ef (ef_rev ?_))
  | (with_reducible refine ek_ef (ef_lstRev ?_))
  | (with_reducible refine ek_ef (ef_map ?_))
  | (with_reducible refine ek_ef (ef_filt ?_))
  | (with_reducible refine ef_lst ?_)
  | (with_reducible refine ef_list ?_)
  | (with_reducible refine ef_cat ?_)
  | (with_reducible refine ef_rep ?_)
  | (with_reducible refine ef_slice ?_)
  | (with_reducible refine ef_rev ?_)
  | (with_reducible refine ef_lstRev ?_)
  | (with_reducible refine ef_map ?_)
  | (with_reducible refine ef_filt ?_)
  | ((with_reducible refine' el_var ?h1 ?_); (case h1 => exact rfl))
  | ((with_reducible refine' el_own ?h1 ?_); (case h1 => exact rfl))
  | (with_reducible refine el_ef (ef_lst ?_))
  | (with_reducible refine el_ef (ef_list ?_))
  | (with_reducible refine el_ef (ef_cat ?_))
  | (with_reducible refine el_ef (ef_rep ?_))
  | (with_reducible refine el_ef (ef_slice ?_))
  | (with_reducible refine el_ef (ef_rev ?_))
  | (with_reducible refine el_ef (ef_lstRev ?_))
  | (with_reducible refine el_ef (ef_map ?_))
  | (with_reducible refine el_ef (ef_filt ?_))
  | (with_reducible refine ek_op ?_)
  | (with_reducible refine ek_cb ?_)
  | (with_reducible refine el_ek ?_)
  | (with_reducible refine tk_test ?_)
  | (with_reducible refine tk_B ?_)
  | (with_reducible refine tk_and ?_)
  | (with_reducible refine tk_or ?_)
  | (with_reducible refine tk_not ?_)
  | (with_reducible refine tk_yes ?_)
  | (with_reducible refine ak_nil ?_)
  | (with_reducible refine ak_cons ?_)
  | (with_reducible refine k_num (‹Tx _ _›) ?_)
  | (with_reducible refine k_den (‹Tx _ _›) ?_)
  | (with_reducible refine k_mk2 ?_)
  | (with_reducible refine k_mk1 ?_)
  | (with_reducible refine k_bel ?_)
  | (with_reducible refine k_own ?_)
  | (with_reducible refine rk_U2 (k_own ?_))
  | (with_reducible refine rk_mul (Sz.mul (by assumption) (by assumption)) ?_)
  | (with_reducible refine rk_U1 (rk_mul (Sz.mul (by assumption) (by assumption)) ?_))
  | (with_reducible refine ek_dget ?_)
  | (with_reducible refine uk_neg ?_)
  | (with_reducible refine ek_disp ?_)
  | (with_reducible refine pk_cons ?_)
  | (with_reducible refine pk_nil ?_)
  | (with_reducible refine rk_mod (by assumption) ?_)
  | (with_reducible refine rk_add ?_)
  | (with_reducible refine rk_sub ?_)
  | (with_reducible refine rk_lt ?_)
  | (with_reducible refine rk_le ?_)
  | (with_reducible refine rk_gt ?_)
  | (with_reducible refine rk_ge ?_)
  | (with_reducible refine rk_eqI ?_)
  | (with_reducible refine rk_neI ?_)
  | (with_reducible refine rk_isN ?_)
  | (with_reducible refine rk_notN ?_)
  | (with_reducible refine rk_U1 (rk_add ?_))
  | (with_reducible refine rk_U1 (rk_sub ?_))
  | (with_reducible refine ck_gcd ?_)
  | (with_reducible refine ck_abs ?_)
  | (with_reducible refine ck_int ?_)
  | (with_reducible refine ik_seq ?_)
  | (with_reducible refine ik_range1 ?_)
  | (with_reducible refine ik_range2 ?_)
  | (with_reducible refine ik_enumA ?_)
  | (with_reducible refine ik_zip ?_)
  | (with_reducible refine ik_rev ?_)
  | ((with_reducible refine' cg_name ?_ ?h1 ?h2); (case h1 => exact rfl); (case h2 => decide))
  | ((with_reducible refine' cg_anyT ?h1 ?_); (case h1 => exact rfl))
  | ((with_reducible refine' cg_anyL ?h1 ?_); (case h1 => exact rfl))
  | ((with_reducible refine' cg_anyK ?h1 ?_); (case h1 => exact rfl))
  | ((with_reducible refine' cgs_cons ?_ ?h1 ?h2); (case h1 => exact rfl); (case h2 => decide))
  | (with_reducible refine cgs_nil ?_)
  | ((with_reducible refine' gk_name ?_ ?h1); (case h1 => exact rfl))
  | ((with_reducible refine' gk_anyT ?h1 ?_); (case h1 => exact rfl))
  | ((with_reducible refine' gk_anyL ?h1 ?_); (case h1 => exact rfl))
  | ((with_reducible refine' gk_anyK ?h1 ?_); (case h1 => exact rfl))
  | ((with_reducible refine' gks_cons ?_ ?h1); (case h1 => exact rfl))
  | ((with_reducible refine' gks_consA (n := 0) ?_ ?h1 ?h2); (case h1 => exact rfl); (case h2 => exact rfl))
  | ((with_reducible refine' gks_consB ?h0 ?_ ?h1 ?h2); (case h0 => exact rfl); (case h1 => exact rfl); (case h2 => exact rfl))
  | (with_reducible refine gks_nil ?_)
  | (with_reducible refine ok_none ?_)
  | (with_reducible refine ok_some ?_))
local macro_rules | `(tactic| walk_at "s") => `(tactic| first
  | (with_reducible refine sx_guard ?_ ?_)
  | (with_reducible refine sx_seq ?_)
  | ((with_reducible refine' sx_retO ?h1 ?_); (case h1 => exact rfl))
  | (with_reducible refine sx_ret ?_)
  | (with_reducible refine sx_if ?_)
  | (with_reducible refine sx_next ?_)
  | (with_reducible refine sx_break ?_)
  | (with_reducible refine sx_cont ?_)
  | ((with_reducible refine' sx_append ?h1 ?_); (case h1 => exact rfl))
  | ((with_reducible refine' sx_setI ?h1 ?_); (case h1 => exact rfl))
  | ((with_reducible refine' sx_set ?h1 ?_); (case h1 => exact rfl))
  | (with_reducible refine sx_asg ?_)
  | ((with_reducible refine' sx_par ?h1 ?h2 ?_); (case h1 => exact rfl); (case h2 => exact rfl))
  | (with_reducible refine sx_drop ?_)
  | ((with_reducible refine' k_fldS (‹Tx _ _›) ?h1 ?h2 ?h3 ?_); (case h1 => exact rfl); (case h2 => decide); (case h3 => exact rfl)))
/-! plain existentials that the rules leave -/
local macro_rules | `(tactic| walk_at "x") => `(tactic| first
  | (with_reducible refine x_bl ?_)
  | (with_reducible refine x_int ?_)
  | (with_reducible refine x_frac ?_)
  | (with_reducible refine x_lst ?_)
  | (with_reducible refine x_tup ?_)
  | (with_reducible refine x_kd ?_)
  | (with_reducible refine x_oneL ?_)
  | (with_reducible refine x_oneT ?_)
  | (with_reducible refine x_one ?_)
  | ((with_reducible refine' x_at ?h1 ?_); (case h1 => exact rfl))
  | ((with_reducible refine' x_dic ?h1 ?_); (case h1 => exact rfl))
  | (with_reducible refine (⟨rfl, ?_⟩ : Kd.l = Kd.l ∧ _))
  | ((with_reducible refine' x_len ?h1 ?_); (case h1 => exact rfl))
  | ((with_reducible refine' br_t ?h1 ?_); (case h1 => exact rfl))
  | ((with_reducible refine' br_f ?h1 ?_); (case h1 => exact rfl)))
local macro_rules | `(tactic| walk_at "f") => `(tactic| first
  | ((with_reducible refine' sx_forW ?h1 ?_); (case h1 => exact rfl))
  | (with_reducible refine sx_forGW ?_))
local macro_rules | `(tactic| walk_at "g") => `(tactic| repeat (first | walk_at "s" | walk_at "f" | walk_at "e" | walk_at "x"))
local macro_rules | `(tactic| walk_at "v") => `(tactic| repeat (first | walk_at "e" | walk_at "x"))
local macro_rules | `(tactic| walk_at "h") => `(tactic| repeat (first | walk_at "s" | walk_at "e" | walk_at "x"))
variable {P : Program} {w : World} {K : PySem.W.Frag} {mg : Str → Option Value} {base : Heap}

def S__law_pool : List D → (D → Prop) → Prop := fun l K => ∃ xs : List Int, l = [.raw (xs.map .int)] ∧ xs.length ≤ 63 ∧ ∀ mix : Int, 0 ≤ mix → mix < 2 ^ 31 → K (.lst [.lst (xs.map .int), .int 0, .int 0, .int mix])
theorem ok__law_pool (T : Tx K mg)  : Cal P w K mg base 1 "_law_pool" ["script"] (SpFam (CL K) S__law_pool) := by
  refine cal_mkF (N := ["script", "mix", "cell"]) T.g__law_pool T.d__law_pool sc__law_pool (fun _ _ _ _ _ _ us hl => match us, hl with | [_], _ => rfl) (by intro l Q h; first | (obtain ⟨rfl, _⟩ := h; rfl) | (obtain ⟨_, rfl, _⟩ := h; rfl) | (obtain ⟨_, _, rfl, _⟩ := h; rfl) | (obtain ⟨_, _, _, rfl, _⟩ := h; rfl) | (obtain ⟨_, _, _, _, rfl, _⟩ := h; rfl) | (obtain ⟨_, _, _, _, _, rfl, _⟩ := h; rfl) | (obtain ⟨_, _, _, _, _, _, rfl, _⟩ := h; rfl) | (obtain ⟨_, _, _, _, _, _, _, rfl, _⟩ := h; rfl) | (obtain ⟨_, _, _, _, _, _, _, _, rfl, _⟩ := h; rfl) | (obtain ⟨_, _, _, _, _, _, _, _, _, rfl, _⟩ := h; rfl) | (obtain ⟨_, _, _, _, _, _, _, _, _, _, rfl, _⟩ := h; rfl) | (obtain ⟨_, _, _, _, _, _, _, _, _, _, _, rfl, _⟩ := h; rfl)) (fun f cdv A outer s H E hr => ⟨_, (pss_cons (ps_set (i := 1) sc__law_pool.nd rfl (by first | exact Or.inl rfl | exact Or.inr rfl) pe_int) (pss_cons (ps_for PassesOwn.never rfl (pi_seqK K rfl (pv 0)) (pg_name (i := 2) sc__law_pool.nd rfl (by first | exact Or.inl rfl | exact Or.inr rfl)) (pss_one (ps_set (i := 1) sc__law_pool.nd rfl (by first | exact Or.inl rfl | exact Or.inr rfl) (pe_op op_modI (pe_callTy cr_int1 (by rfl) T.b_int (by decide +kernel) (pa_cons (pe_op op_addI (pe_op op_mulI (pv 1) pe_int) (pe_op op_modI (pe_callTy cr_int1 (by rfl) T.b_int (by decide +kernel) (pa_cons (pv 2) pa_nil)) pe_int)) pa_nil)) pe_int)))) (pss_one (ps_ret (pe_lst (pa_cons (pe_callTy (cr_listK K rfl) (by rfl) T.b_list (by decide +kernel) (pa_cons (pv 0) pa_nil)) (pa_cons pe_int (pa_cons pe_int (pa_cons (pv 1) pa_nil))))))))), ?_⟩)
  intro nn B l Q h
  obtain ⟨xs, rfl, hl, h⟩ := h
  walk_at "h"
  refine sx_forGS (ik_raw ?_)
  walk_at "v"
  refine ⟨_, rfl, ?_⟩
  refine ⟨Int, xs, .int, Int, fun j m => [.d (.raw (xs.map .int)), .d (.int m), .no], fun j m => 0 ≤ m ∧ m < 2 ^ 31, rfl, ⟨7, ⟨by decide, by decide⟩, Wk.refl⟩, fun B' j x s hx hs => ?_, fun Γ' s hs w => sx_weak w ?_⟩
  · obtain ⟨h0, h1⟩ := hs
    walk_at "h"
    refine rk_mul (Sz.mul (of_small (n := 2 ^ 31) (by omega) (by decide)) (of_small (n := 48271) (by decide) (by decide))) ?_
    walk_at "h"
    refine rk_mod (by decide) ?_
    walk_at "h"
    refine rk_mod (by decide) ?_
    walk_at "h"
    refine ⟨(s * 48271 + x % 1000003) % 2147483647, ⟨Int.emod_nonneg _ (by decide), ?_⟩, .same (.same (.no .nil))⟩
    have := Int.emod_lt_of_pos (s * 48271 + x % 1000003) (show (0 : Int) < 2147483647 by decide)
    omega
  · dsimp only
    refine sx_ret (ek_ef (ef_lst (ak_cons (ek_ef (el_raw ?_)))))
    walk_at "h"
    refine ⟨_, rfl, ?_⟩
    walk_at "h"
    exact h s hs.1 hs.2

def S__law_take : List D → (D → Prop) → Prop := fun l K => ∃ m : Int, l = [.pool, .int m] ∧ 0 < m ∧ m ≤ 100000 ∧ ∀ r : Int, 0 ≤ r → r < m → K (.int r)
theorem ok__law_take (T : Tx K mg)  : Cal P w K mg base 1 "_law_take" ["pool", "many"] (SpFam (CL K) S__law_take) := by
  refine cal_mkF (N := ["pool", "many", "cell", "told"]) T.g__law_take T.d__law_take sc__law_take (fun _ _ _ _ _ _ us hl => match us, hl with | [_, _], _ => rfl) (by intro l Q h; first | (obtain ⟨rfl, _⟩ := h; rfl) | (obtain ⟨_, rfl, _⟩ := h; rfl) | (obtain ⟨_, _, rfl, _⟩ := h; rfl) | (obtain ⟨_, _, _, rfl, _⟩ := h; rfl) | (obtain ⟨_, _, _, _, rfl, _⟩ := h; rfl) | (obtain ⟨_, _, _, _, _, rfl, _⟩ := h; rfl) | (obtain ⟨_, _, _, _, _, _, rfl, _⟩ := h; rfl) | (obtain ⟨_, _, _, _, _, _, _, rfl, _⟩ := h; rfl) | (obtain ⟨_, _, _, _, _, _, _, _, rfl, _⟩ := h; rfl) | (obtain ⟨_, _, _, _, _, _, _, _, _, rfl, _⟩ := h; rfl) | (obtain ⟨_, _, _, _, _, _, _, _, _, _, rfl, _⟩ := h; rfl) | (obtain ⟨_, _, _, _, _, _, _, _, _, _, _, rfl, _⟩ := h; rfl)) (fun f cdv A outer s H E hr => ⟨_, (pss_cons (ps_if (PW.pt (pw_and (pt_cmpR op_eq (pe_ix (ix_seqK K rfl) (pv 0) pe_int (fun _ _ => rfl)) pe_int (nomark _)) (pw_and1 (pt_cmpR op_ltI (pe_ix (ix_seqK K rfl) (pv 0) pe_int (fun _ _ => rfl)) (pe_callB (cr_lenK K rfl) (by rfl) T.b_len PySem.boot_len (pa_cons (pe_ix (ix_seqK K rfl) (pv 0) pe_int (fun _ _ => rfl)) pa_nil)) (nomark _))))) (pss_cons (ps_set (i := 2) sc__law_take.nd rfl (by first | exact Or.inl rfl | exact Or.inr rfl) (pe_callTy cr_int1 (by rfl) T.b_int (by decide +kernel) (pa_cons (pe_ix (ix_seqK K rfl) (pe_ix (ix_seqK K rfl) (pv 0) pe_int (fun _ _ => rfl)) (pe_ix (ix_seqK K rfl) (pv 0) pe_int (fun _ _ => rfl)) (fun _ _ => rfl)) pa_nil))) (pss_cons (ps_asg (pe_op op_addI (pe_ix (ix_seqK K rfl) (pv 0) pe_int (fun _ _ => rfl)) pe_int) (pg_sub (pv 0) pe_int set_list)) (pss_one (ps_if (pt_cmpR op_geI (pv 2) pe_int (nomark _)) (pss_one (ps_asg (pv 2) (pg_sub (pv 0) pe_int set_list))) (pss_one (ps_asg (pe_op op_modI (pe_callTy cr_int1 (by rfl) T.b_int (by decide +kernel) (pa_cons (pe_op op_addI (pe_op op_mulI (pe_ix (ix_seqK K rfl) (pv 0) pe_int (fun _ _ => rfl)) pe_int) (pe_op op_modI (pe_callTy cr_int1 (by rfl) T.b_int (by decide +kernel) (pa_cons (pv 2) pa_nil)) pe_int)) pa_nil)) pe_int) (pg_sub (pv 0) pe_int set_list))))))) pss_nil) (pss_cons (ps_if (pt_cmpR op_gtI (pe_ix (ix_seqK K rfl) (pv 0) pe_int (fun _ _ => rfl)) pe_int (nomark _)) (pss_cons (ps_set (i := 3) sc__law_take.nd rfl (by first | exact Or.inl rfl | exact Or.inr rfl) (pe_op op_modI (pe_callTy cr_int1 (by rfl) T.b_int (by decide +kernel) (pa_cons (pe_ix (ix_seqK K rfl) (pv 0) pe_int (fun _ _ => rfl)) pa_nil)) (pv 1))) (pss_cons (ps_asg (pe_op op_divI (pe_ix (ix_seqK K rfl) (pv 0) pe_int (fun _ _ => rfl)) (pv 1)) (pg_sub (pv 0) pe_int set_list)) (pss_one (ps_ret (pv 3))))) pss_nil) (pss_cons (ps_asg (pe_op op_modI (pe_callTy cr_int1 (by rfl) T.b_int (by decide +kernel) (pa_cons (pe_op op_addI (pe_op op_mulI (pe_ix (ix_seqK K rfl) (pv 0) pe_int (fun _ _ => rfl)) pe_int) pe_int) pa_nil)) pe_int) (pg_sub (pv 0) pe_int set_list)) (pss_one (ps_ret (pe_op op_modI (pe_callTy cr_int1 (by rfl) T.b_int (by decide +kernel) (pa_cons (pe_op op_divI (pe_op op_modI (pe_callTy cr_int1 (by rfl) T.b_int (by decide +kernel) (pa_cons (pe_op op_mulI (pe_ix (ix_seqK K rfl) (pv 0) pe_int (fun _ _ => rfl)) pe_int) pa_nil)) pe_int) pe_int) pa_nil)) (pv 1))))))), ?_⟩)
  intro nn B l Q h
  obtain ⟨m, rfl, m0, m1, h⟩ := h
  intro W H σ e D' s
  obtain ⟨v0, hs0, r0⟩ := e.at_ (i := 0) (x := .pool) rfl
  obtain ⟨v1, hs1, r1⟩ := e.at_ (i := 1) (x := .int m) rfl
  cases r1
  cases r0 with
  | @pool a hP =>
  have hlen : σ.length = 4 := e.len.eq rfl
  obtain ⟨hWa, c, cells, at_, big, mix, hHa, hWc, b1, b2, b3, b4, b5⟩ := e.pl.po a hP
  have hca : c ≠ a := fun z => by rw [z, hWa] at hWc; cases hWc
  have hHc : H c = some (.lst (cells.map V.int)) := e.wh _ _ hWc
  have fin : ∀ (H1 : Hp) (a1 : Nat) (g x r : Int), H1 a = some (.lst (poolL c a1 g x)) → (∀ y, y ≠ a → H1 y = H y) → a1 ≤ cells.length → 0 ≤ g → 0 ≤ x → x < 2 ^ 31 → 0 ≤ r → r < m → D'.rt (.int r) H1 := by
    intro H1 a1 g x r f1 f2 f3 f4 f5 f6 f8 f9
    have bg : poolK W (H1 a) := ⟨c, cells, a1, g, x, f1, hWc, f3, b2, f4, f5, f6⟩
    refine s.rt [] (.int r) (.int r) W H1 [] (env_blank e ⟨e.stp.ww, fun y o z => ?_, fun y o z z1 z2 => ?_, fun y o z => ?_, e.stp.old, fun y z _ => ?_⟩ ⟨fun y z => ?_, fun y o z => ?_⟩) (.int r) (h r f8 f9)
    · rw [f2 y (fun w => by subst w; rw [hWa] at z; cases z)]; exact e.wh y o z
    · rw [f2 y (fun w => by subst w; exact z1 hP)]; exact e.stp.hh y o z z1 z2
    · by_cases w : y = a
      · subst w; exact ⟨_, f1⟩
      · rw [f2 y w]; exact e.stp.dom y o z
    · rw [hP] at z; cases z; exact bg
    · rw [hP] at z; cases z; exact ⟨hWa, bg⟩
    · obtain ⟨z1, z2, z3⟩ := e.pl.rg y o z
      exact ⟨by rw [f2 y (fun w => by subst w; exact z3 hP)]; exact z1, z2, z3⟩
  refine rs_cut (fun σ1 H1 => σ1[0]? = some (some (.ref a)) ∧ σ1[1]? = some (some (.int m)) ∧ σ1.length = 4 ∧ ∃ (a1 : Nat) (g x : Int), H1 a = some (.lst (poolL c a1 g x)) ∧ (∀ y, y ≠ a → H1 y = H y) ∧ a1 ≤ cells.length ∧ 0 ≤ g ∧ 0 ≤ x ∧ x < 2 ^ 31) (fun D1 hD _ => ?_) ?_
  · refine rs_if (tb_and (tb_test (vb_eq (vb_at (vb_var hs0) hHa rfl) vb_c)) (tb_test (vb_lt (vb_at (vb_var hs0) hHa rfl) (vb_len (vb_at (vb_var hs0) hHa rfl) hHc)))) (fun hb => ?_) (fun _ => ?_)
    · simp only [Bool.and_eq_true, decide_eq_true_eq] at hb
      obtain ⟨_, hb⟩ := hb
      rw [List.length_map] at hb
      have hb : at_ < cells.length := by omega
      have hcell : atI (cells.map V.int) (at_ : Int) = some (.int cells[at_]) := atI_nat (by simp [hb])
      refine rs_seq (rs_asg (vb_int (vb_ix (vb_at (vb_var hs0) hHa rfl) (vb_at (vb_var hs0) hHa rfl) hHc hcell)) ?_)
      have t0 : (σ.set 2 (some (.int cells[at_])))[0]? = some (some (.ref a)) := by rw [List.getElem?_set_ne (by decide)]; exact hs0
      have t1 : (σ.set 2 (some (.int cells[at_])))[1]? = some (some (.int m)) := by rw [List.getElem?_set_ne (by decide)]; exact hs1
      have t2 : (σ.set 2 (some (.int cells[at_])))[2]? = some (some (.int cells[at_])) := by rw [List.getElem?_set_self (by omega)]
      have t3 : (σ.set 2 (some (.int cells[at_]))).length = 4 := by rw [List.length_set]; exact hlen
      refine rs_seq (rs_setL (vb_add (vb_at (vb_var t0) hHa rfl) vb_c) (vb_var t0) vb_c hHa rfl ?_)
      have u1 : (upd H a (.lst (poolL c ((at_ + 1 : Nat) : Int) big mix))) a = some (.lst (poolL c ((at_ + 1 : Nat) : Int) big mix)) := upd_same
      have u2 : ∀ y, y ≠ a → (upd H a (.lst (poolL c ((at_ + 1 : Nat) : Int) big mix))) y = H y := fun y hy => upd_ne hy
      refine rs_if (tb_test (vb_ge (vb_var t2) vb_c)) (fun hge => ?_) (fun hlt => ?_)
      · have hge := of_decide_eq_true hge
        refine rs_setL (vb_var t2) (vb_var t0) vb_c u1 rfl ?_
        exact hD _ _ ⟨t0, t1, t3, at_ + 1, _, _, upd_same, fun y hy => by rw [upd_ne hy]; exact u2 y hy, hb, by omega, b4, b5⟩
      · have mm := Int.emod_nonneg (mix * 69621 + cells[at_] % 998244353) (show (2147483647 : Int) ≠ 0 by decide)
        have ml := Int.emod_lt_of_pos (mix * 69621 + cells[at_] % 998244353) (show (0 : Int) < 2147483647 by decide)
        refine rs_setL (vb_mod (by decide) (vb_int (vb_add (vb_mulI (Sz.mul (of_small (n := 2 ^ 31) (by omega) (by decide)) (of_small (n := 69621) (by decide) (by decide))) (vb_at (vb_var t0) u1 rfl) vb_c) (vb_mod (by decide) (vb_int (vb_var t2)) vb_c))) vb_c) (vb_var t0) vb_c u1 rfl ?_
        exact hD _ _ ⟨t0, t1, t3, at_ + 1, _, _, upd_same, fun y hy => by rw [upd_ne hy]; exact u2 y hy, hb, b3, mm, by omega⟩
    · exact rs_next (hD _ _ ⟨hs0, hs1, hlen, at_, big, mix, hHa, fun _ _ => rfl, b1, b3, b4, b5⟩)
  · rintro σ1 H1 ⟨t0, t1, t3, a1, g, x, f1, f2, f3, f4, f5, f6⟩
    refine rs_cut (fun σ2 H2 => σ2 = σ1 ∧ H2 = H1) (fun D1 hD hR => ?_) ?_
    · refine rs_if (tb_test (vb_gt (vb_at (vb_var t0) f1 rfl) vb_c)) (fun _ => ?_) (fun _ => rs_next (hD _ _ ⟨rfl, rfl⟩))
      refine rs_seq (rs_asg (vb_mod m0 (vb_int (vb_at (vb_var t0) f1 rfl)) (vb_var t1)) ?_)
      have w0 : (σ1.set 3 (some (.int (g % m))))[0]? = some (some (.ref a)) := by rw [List.getElem?_set_ne (by decide)]; exact t0
      have w1 : (σ1.set 3 (some (.int (g % m))))[1]? = some (some (.int m)) := by rw [List.getElem?_set_ne (by decide)]; exact t1
      have w2 : (σ1.set 3 (some (.int (g % m))))[3]? = some (some (.int (g % m))) := by rw [List.getElem?_set_self (by omega)]
      refine rs_seq (rs_setL (vb_div (wide_div (b := 64) m0 (by omega) (by decide) (by decide)) (vb_at (vb_var w0) f1 rfl) (vb_var w1)) (vb_var w0) vb_c f1 rfl ?_)
      refine rs_ret (vb_var w2) ?_
      show D1.rt _ _
      rw [hR]
      exact fin _ a1 (g / m) x (g % m) upd_same (fun y hy => by rw [upd_ne hy]; exact f2 y hy) f3 (Int.ediv_nonneg f4 (by omega)) f5 f6 (Int.emod_nonneg _ (by omega)) (Int.emod_lt_of_pos _ m0)
    · rintro σ2 H2 ⟨rfl, rfl⟩
      have mm := Int.emod_nonneg (x * 48271 + 12345) (show (2147483647 : Int) ≠ 0 by decide)
      have ml := Int.emod_lt_of_pos (x * 48271 + 12345) (show (0 : Int) < 2147483647 by decide)
      refine rs_seq (rs_setL (vb_mod (by decide) (vb_int (vb_add (vb_mulI (Sz.mul (of_small (n := 2 ^ 31) (by omega) (by decide)) (of_small (n := 48271) (by decide) (by decide))) (vb_at (vb_var t0) f1 rfl) vb_c) vb_c)) vb_c) (vb_var t0) vb_c f1 rfl ?_)
      have u2 : (upd H2 a (.lst (poolL c a1 g ((x * 48271 + 12345) % 2147483647)))) a = some (.lst (poolL c a1 g ((x * 48271 + 12345) % 2147483647))) := upd_same
      refine rs_ret (vb_mod m0 (vb_int (vb_div (wide_div (b := 64) (by decide) (by decide) (by decide) (by decide)) (vb_mod (by decide) (vb_int (vb_mulI (Sz.mul (of_small (n := 2 ^ 31) (by omega) (by decide)) (of_small (n := 16807) (by decide) (by decide))) (vb_at (vb_var t0) u2 rfl) vb_c)) vb_c) vb_c)) (vb_var t1)) ?_
      exact fin _ a1 g _ _ upd_same (fun y hy => by rw [upd_ne hy]; exact f2 y hy) f3 f4 mm (by omega) (Int.emod_nonneg _ (by omega)) (Int.emod_lt_of_pos _ m0)

end

end K
end

section
set_option maxRecDepth 100000
set_option maxHeartbeats 4000000
namespace K
open PySem PySem.Spec PyProof.Rows L2 G

/-- a worth, a cost -/
structure WOk (q : Rat) : Prop where
  nn : 0 ≤ q.num
  n1 : q.num ≤ 9999
  d1 : q.den ≤ 99
theorem WOk.sz {q : Rat} (h : WOk q) : SzQ q := ⟨of_small (n := 9999) (by have := h.nn; have := h.n1; omega) (by decide), of_small (n := 99) (by have := h.d1; omega) (by decide)⟩
theorem wok_div {n d : Int} (h0 : 0 ≤ n) (h1 : n ≤ 9999) (h2 : 0 < d) (h3 : d ≤ 99) : WOk (Rat.divInt n d) where
  nn := by rw [divInt_num h2]; exact Int.ediv_nonneg h0 (by omega)
  n1 := by rw [divInt_num h2]; exact Int.le_trans (Int.ediv_le_self _ h0) h1
  d1 := by
    have := divInt_den (n := n) h2
    have h := Int.ediv_le_self (a := d) ((Nat.gcd n.natAbs d.natAbs : Nat) : Int) (by omega)
    omega
theorem wok_int {n : Int} (h0 : 0 ≤ n) (h1 : n ≤ 9999) : WOk (n : Rat) := ⟨by rw [Rat.num_intCast]; exact h0, by rw [Rat.num_intCast]; exact h1, by rw [Rat.den_intCast]; decide⟩
theorem low_int (n : Int) : D.tup [.int n, .int 1] = lowD (n : Rat) := by
  unfold lowD
  rw [Rat.num_intCast, Rat.den_intCast]; rfl
/-- prizes -/
structure PsOk (ps : List (Int × Rat)) : Prop where
  l1 : 1 ≤ ps.length
  l4 : ps.length ≤ 4
  w1 : ∀ p ∈ ps, 1 ≤ p.1
  w2 : ∀ p ∈ ps, p.1 ≤ 99
  ok : ∀ p ∈ ps, WOk p.2
  asc : (ps.map (·.2)).Pairwise (· < ·)
def pairL (p : Int × Rat) : D := .tup [.int p.1, lowD p.2]
abbrev BxT := Rat × List (Int × Rat)
def boxL (b : BxT) : D := .tup [lowD b.1, .lst (b.2.map pairL)]
structure BOk (b : BxT) : Prop where
  c : WOk b.1
  p : PsOk b.2
theorem divInt_three {q : Rat} : Rat.divInt (q.num * 3) ((q.den : Int) * 3) = q := by
  rw [Rat.divInt_mul_right (by decide)]
  exact Rat.num_divInt_den q
/-- how many are below -/
theorem cnt_split {w : Rat} : ∀ {ws : List Rat}, ws.Pairwise (· < ·) → (∀ x ∈ ws.take (ws.countP (fun x => decide (x < w))), x < w) ∧ (∀ x ∈ ws.drop (ws.countP (fun x => decide (x < w))), ¬ x < w)
  | [], _ => ⟨fun _ h => by simp at h, fun _ h => by simp at h⟩
  | a :: ws, h => by
    obtain ⟨h1, h2⟩ := List.pairwise_cons.mp h
    obtain ⟨i1, i2⟩ := cnt_split (w := w) h2
    by_cases hw : a < w
    · rw [List.countP_cons_of_pos (by simpa using hw)]
      refine ⟨fun x hx => ?_, fun x hx => ?_⟩
      · rw [List.take_succ_cons] at hx
        rcases List.mem_cons.mp hx with rfl | hx
        · exact hw
        · exact i1 x hx
      · rw [List.drop_succ_cons] at hx
        exact i2 x hx
    · have z : ws.countP (fun x => decide (x < w)) = 0 := by
        rw [List.countP_eq_zero]
        intro x hx
        have := h1 x hx
        simp only [decide_eq_true_eq]
        exact fun y => hw (by grind)
      rw [List.countP_cons_of_neg (by simpa using hw), z]
      refine ⟨fun x hx => by simp at hx, fun x hx => ?_⟩
      rw [List.drop_zero] at hx
      rcases List.mem_cons.mp hx with rfl | hx
      · exact hw
      · have := h1 x hx
        exact fun y => hw (by grind)
theorem ins_sorted {w : Rat} {ws : List Rat} (h : ws.Pairwise (· < ·)) (hw : w ∉ ws) : (ws.take (ws.countP (fun x => decide (x < w))) ++ [w] ++ ws.drop (ws.countP (fun x => decide (x < w)))).Pairwise (· < ·) := by
  obtain ⟨h1, h2⟩ := cnt_split (w := w) h
  have hp := h
  rw [← List.take_append_drop (ws.countP (fun x => decide (x < w))) ws] at hp
  obtain ⟨p1, p2, p3⟩ := List.pairwise_append.mp hp
  rw [List.append_assoc]
  refine List.pairwise_append.mpr ⟨p1, List.pairwise_cons.mpr ⟨fun x hx => ?_, p2⟩, fun x hx y hy => ?_⟩
  · have a := h2 x hx
    have ne : w ≠ x := fun z => hw (z ▸ List.mem_of_mem_drop hx)
    grind
  · rcases List.mem_cons.mp hy with rfl | hy
    · exact h1 x hx
    · exact p3 x hx y hy
theorem insD_map {f : Rat → D} {ws : List Rat} {n : Nat} {w : Rat} : insD (ws.map f) n (f w) = (ws.take n ++ [w] ++ ws.drop n).map f := by
  unfold insD
  rw [List.map_append, List.map_append, List.map_take, List.map_drop]; rfl
theorem pd_low {q : Rat} {n : Nat} : PD (n + 1) (lowD q) := .tup fun x hx => by
  simp at hx
  rcases hx with rfl | rfl
  · exact .int _
  · exact .int _
theorem eqv_low (p q : Rat) : PyData.eqv (pyD (lowD p)) (pyD (lowD q)) = decide (p = q) := by
  unfold lowD
  rw [Bool.eq_iff_iff, decide_eq_true_iff]
  simp only [pyD, pyL, PyData.eqv, PyData.eqvAll, Bool.and_true, Bool.and_eq_true, beq_iff_eq]
  refine ⟨fun ⟨h1, h2⟩ => Rat.ext h1 (by exact_mod_cast h2), fun h => by rw [h]; exact ⟨rfl, rfl⟩⟩
theorem low_inj {p q : Rat} (h : lowD p = lowD q) : p = q := by
  unfold lowD at h
  injection h with h
  injection h with h1 h2
  injection h2 with h2 _
  injection h1 with h1
  injection h2 with h2
  exact Rat.ext h1 (by exact_mod_cast h2)
section
local macro_rules | `(tactic| walk_at "e") => `(tactic| first
  | ((with_reducible refine' ek_var ?h1 ?_); (case h1 => exact rfl))
  | (with_reducible refine ek_int ?_)
  | (with_reducible refine ek_bl ?_)
  | (with_reducible refine ek_non ?_)
  | (with_reducible refine ek_str ?_)
  | (with_reducible refine ek_ty ?_)
  | (with_reducible refine ek_cls ?_)
  | (with_reducible refine ek_ix ?_)
  | (with_reducible refine ek_un ?_)
  | (with_reducible refine ek_tup ?_)
  | (with_reducible refine k_call ?_)
  | (with_reducible refine ek_len ?_)
  | (with_reducible refine ek_tuple ?_)
  | (with_reducible refine ek_sum ?_)
  | (with_reducible refine ek_all ?_)
  | (with_reducible refine ek_any ?_)
  | (with_reducible refine ek_chain ?_)
  | (with_reducible refine ek_andV ?_)
  | (with_reducible refine ek_orV ?_)
  | (with_reducible refine ek_notV ?_)
  | (with_reducible refine ek_if ?_)
  | (with_reducible refine ek_ef (ef_lst ?_))
  | (with_reducible refine ek_ef (ef_list ?_))
  | (with_reducible refine ek_ef (ef_cat ?_))
  | (with_reducible refine ek_ef (ef_rep ?_))
  | (with_reducible refine ek_ef (ef_slice ?_))
  | (with_reducible refine ek_ef (ef_rev ?_))
  | (with_reducible refine ek_ef (ef_lstRev ?_))
  | (with_reducible refine ek_ef (ef_map ?_))
  | (with_reducible refine ek_ef (ef_filt ?_))
  | (with_reducible refine ef_lst ?_)
  | (with_reducible refine ef_list ?_)
  | (with_reducible refine ef_cat ?_)
  | (with_reducible refine ef_rep ?_)
  | (with_reducible refine ef_slice ?_)
  | (with_reducible refine ef_rev ?_)
  | (with_reducible refine ef_lstRev ?_)
  | (with_reducible refine ef_map ?_)
  | (with_reducible refine ef_filt ?_)
  | ((with_reducible refine' el_var ?h1 ?_); (case h1 => exact rfl))
  | ((with_reducible refine' el_own ?h1 ?_); (case h1 => exact rfl))
  | (with_reducible refine el_ef (ef_lst ?_))
  | (with_reducible refine el_ef (ef_list ?_))
  | (with_reducible refine el_ef (ef_cat ?_))
  | (with_reducible refine el_ef (ef_rep ?_))
  | (with_reducible refine el_ef (ef_slice ?_))
  | (with_reducible refine el_ef (ef_rev ?_))
  | (with_reducible refine el_ef (ef_lstRev ?_))
  | (with_reducible refine el_ef (ef_map ?_))
  | (with_reducible refine el_ef (ef_filt ?_))
  | (with_reducible refine ek_op ?_)
  | (with_reducible refine ek_cb ?_)
  | (with_reducible refine el_ek ?_)
  | (with_reducible refine tk_test ?_)
  | (with_reducible refine tk_B ?_)
  | (with_reducible refine tk_and ?_)
  | (with_reducible refine tk_or ?_)
  | (with_reducible refine tk_not ?_)
  | (with_reducible refine tk_yes ?_)
  | (with_reducible refine ak_nil ?_)
  | (with_reducible refine ak_cons ?_)
  | (with_reducible refine k_num (‹Tx _ _›) ?_)
  | (with_reducible refine k_den (‹Tx _ _›) ?_)
  | (with_reducible refine k_mk2 ?_)
  | (with_reducible refine k_mk1 ?_)
  | (with_reducible refine k_bel ?_)
  | (with_reducible refine k_own ?_)
  | (with_reducible refine rk_U2 (k_own ?_))
  | (with_reducible refine rk_mul (Sz.mul (by assumption) (by assumption)) ?_)
  | (with_reducible refine rk_U1 (rk_mul (Sz.mul (by assumption) (by assumption)) ?_))
  | (with_reducible refine ek_dget ?_)
  | (with_reducible refine uk_neg ?_)
  | (with_reducible refine ek_disp ?_)
  | (with_reducible refine pk_cons ?_)
  | (with_reducible refine pk_nil ?_)
  | (with_reducible refine rk_mod (by assumption) ?_)
  | (with_reducible refine rk_add ?_)
  | (with_reducible refine rk_sub ?_)
  | (with_reducible refine rk_lt ?_)
  | (with_reducible refine rk_le ?_)
  | (with_reducible refine rk_gt ?_)
  | (with_reducible refine rk_ge ?_)
  | (with_reducible refine rk_eqI ?_)
  | (with_reducible refine rk_neI ?_)
  | (with_reducible refine rk_isN ?_)
  | (with_reducible refine rk_notN ?_)
  | (with_reducible refine rk_U1 (rk_add ?_))
  | (with_reducible refine rk_U1 (rk_sub ?_))
  | (with_reducible refine ck_gcd ?_)
  | (with_reducible refine ck_abs ?_)
  | (with_reducible refine ck_int ?_)
  | (with_reducible refine ik_seq ?_)
  | (with_reducible refine ik_range1 ?_)
  | (with_reducible refine ik_range2 ?_)
  | (with_reducible refine ik_enumA ?_)
  | (with_reducible refine ik_zip ?_)
  | (with_reducible refine ik_rev ?_)
  | ((with_reducible refine' cg_name ?_ ?h1 ?h2); (case h1 => exact rfl); (case h2 => decide))
  | ((with_reducible refine' cg_anyT ?h1 ?_); (case h1 => exact rfl))
  | ((with_reducible refine' cg_anyL ?h1 ?_); (case h1 => exact rfl))
  | ((with_reducible refine' cg_anyK ?h1 ?_); (case h1 => exact rfl))
  | ((with_reducible refine' cgs_cons ?_ ?h1 ?h2); (case h1 => exact rfl); (case h2 => decide))
  | (with_reducible refine cgs_nil ?_)
  | ((with_reducible refine' gk_name ?_ ?h1); (case h1 => exact rfl))
  | ((with_reducible refine' gk_anyT ?h1 ?_); (case h1 => exact rfl))
  | ((with_reducible refine' gk_anyL ?h1 ?_); (case h1 => exact rfl))
  | ((with_reducible refine' gk_anyK ?h1 ?_); (case h1 => exact rfl))
  | ((with_reducible refine' gks_cons ?_ ?h1); (case h1 => exact rfl))
  | ((with_reducible refine' gks_consA (n := 0) ?_ ?h1 ?h2); (case h1 => exact rfl); (case h2 => exact rfl))
  | ((with_reducible refine' gks_consB ?h0 ?_ ?h1 ?h2); (case h0 => exact rfl); (case h1 => exact rfl); (case h2 => exact rfl))
  | (with_reducible refine gks_nil ?_)
  | (with_reducible refine ok_none ?_)
  | (with_reducible refine ok_some ?_))
local macro_rules | `(tactic| walk_at "s") => `(tactic| first
  | (with_reducible refine sx_guard ?_ ?_)
  | (with_reducible refine sx_seq ?_)
  | ((with_reducible refine' sx_retO ?h1 ?_); (case h1 => exact rfl))
  | (with_reducible refine sx_ret ?_)
  | (with_reducible refine sx_if ?_)
  | (with_reducible refine sx_next ?_)
  | (with_reducible refine sx_break ?_)
  | (with_reducible refine sx_cont ?_)
  | ((with_reducible refine' sx_append ?h1 ?_); (case h1 => exact rfl))
  | ((with_reducible refine' sx_setI ?h1 ?_); (case h1 => exact rfl))
  | ((with_reducible refine' sx_set ?h1 ?_); (case h1 => exact rfl))
  | (with_reducible refine sx_asg ?_)
  | ((with_reducible refine' sx_par ?h1 ?h2 ?_); (case h1 => exact rfl); (case h2 => exact rfl))
  | (with_reducible refine sx_drop ?_)
  | ((with_reducible refine' k_fldS (‹Tx _ _›) ?h1 ?h2 ?h3 ?_); (case h1 => exact rfl); (case h2 => decide); (case h3 => exact rfl)))
/-! plain existentials that the rules leave -/
local macro_rules | `(tactic| walk_at "x") => `(tactic| first
  | (with_reducible refine x_bl ?_)
  | (with_reducible refine x_int ?_)
  | (with_reducible refine x_frac ?_)
  | (with_reducible refine x_lst ?_)
  | (with_reducible refine x_tup ?_)
  | (with_reducible refine x_kd ?_)
  | (with_reducible refine x_oneL ?_)
  | (with_reducible refine x_oneT ?_)
  | (with_reducible refine x_one ?_)
  | ((with_reducible refine' x_at ?h1 ?_); (case h1 => exact rfl))
  | ((with_reducible refine' x_dic ?h1 ?_); (case h1 => exact rfl))
  | (with_reducible refine (⟨rfl, ?_⟩ : Kd.l = Kd.l ∧ _))
  | ((with_reducible refine' x_len ?h1 ?_); (case h1 => exact rfl))
  | ((with_reducible refine' br_t ?h1 ?_); (case h1 => exact rfl))
  | ((with_reducible refine' br_f ?h1 ?_); (case h1 => exact rfl)))
local macro_rules | `(tactic| walk_at "f") => `(tactic| first
  | ((with_reducible refine' sx_forW ?h1 ?_); (case h1 => exact rfl))
  | (with_reducible refine sx_forGW ?_))
local macro_rules | `(tactic| walk_at "g") => `(tactic| repeat (first | walk_at "s" | walk_at "f" | walk_at "e" | walk_at "x"))
local macro_rules | `(tactic| walk_at "v") => `(tactic| repeat (first | walk_at "e" | walk_at "x"))
local macro_rules | `(tactic| walk_at "h") => `(tactic| repeat (first | walk_at "s" | walk_at "e" | walk_at "x"))
variable {P : Program} {w : World} {K : PySem.W.Frag} {mg : Str → Option Value} {base : Heap}

def S__law_low : List D → (D → Prop) → Prop := fun l K => ∃ n d : Int, l = [.int n, .int d] ∧ 0 < d ∧ d.natAbs < 2 ^ 9000 ∧ K (lowD (Rat.divInt n d))
theorem ok__law_low (T : Tx K mg)  : Cal P w K mg base 1 "_law_low" ["num", "den"] (SpFam (CL K) S__law_low) := by
  refine cal_mkF (N := ["num", "den", "one", "two", "rest"]) T.g__law_low T.d__law_low sc__law_low (fun _ _ _ _ _ _ us hl => match us, hl with | [_, _], _ => rfl) (by intro l Q h; first | (obtain ⟨rfl, _⟩ := h; rfl) | (obtain ⟨_, rfl, _⟩ := h; rfl) | (obtain ⟨_, _, rfl, _⟩ := h; rfl) | (obtain ⟨_, _, _, rfl, _⟩ := h; rfl) | (obtain ⟨_, _, _, _, rfl, _⟩ := h; rfl) | (obtain ⟨_, _, _, _, _, rfl, _⟩ := h; rfl) | (obtain ⟨_, _, _, _, _, _, rfl, _⟩ := h; rfl) | (obtain ⟨_, _, _, _, _, _, _, rfl, _⟩ := h; rfl) | (obtain ⟨_, _, _, _, _, _, _, _, rfl, _⟩ := h; rfl) | (obtain ⟨_, _, _, _, _, _, _, _, _, rfl, _⟩ := h; rfl) | (obtain ⟨_, _, _, _, _, _, _, _, _, _, rfl, _⟩ := h; rfl) | (obtain ⟨_, _, _, _, _, _, _, _, _, _, _, rfl, _⟩ := h; rfl)) (fun f cdv A outer s H E hr => ⟨_, (pss_cons (ps_set (i := 2) sc__law_low.nd rfl (by first | exact Or.inl rfl | exact Or.inr rfl) (pe_callB cr_abs (by rfl) T.b_abs (by decide +kernel) (pa_cons (pv 0) pa_nil))) (pss_cons (ps_set (i := 3) sc__law_low.nd rfl (by first | exact Or.inl rfl | exact Or.inr rfl) (pv 1)) (pss_cons (ps_while PassesOwn.never (pt_cmpR op_gtI (pv 3) pe_int (nomark _)) (pss_cons (ps_set (i := 4) sc__law_low.nd rfl (by first | exact Or.inl rfl | exact Or.inr rfl) (pe_op op_modI (pe_callTy cr_int1 (by rfl) T.b_int (by decide +kernel) (pa_cons (pv 2) pa_nil)) (pv 3))) (pss_cons (ps_set (i := 2) sc__law_low.nd rfl (by first | exact Or.inl rfl | exact Or.inr rfl) (pv 3)) (pss_one (ps_set (i := 3) sc__law_low.nd rfl (by first | exact Or.inl rfl | exact Or.inr rfl) (pv 4)))))) (pss_cons (ps_if (pt_cmpR op_gtI (pv 2) pe_int (nomark _)) (pss_one (ps_ret (pe_tup (pa_cons (pe_op op_divI (pv 0) (pv 2)) (pa_cons (pe_op op_divI (pv 1) (pv 2)) pa_nil))))) pss_nil) (pss_one (ps_ret (pe_tup (pa_cons (pv 0) (pa_cons (pv 1) pa_nil))))))))), ?_⟩)
  intro nn B l Q h
  obtain ⟨n, d, rfl, h0, hs, h⟩ := h
  walk_at "h"
  refine sx_whileW (τ := Int × Int) (fun p => [.d (.int n), .d (.int d), .d (.int p.1), .d (.int p.2), .no]) (fun p => 0 ≤ p.1 ∧ 0 ≤ p.2 ∧ Nat.gcd p.1.natAbs p.2.natAbs = Nat.gcd n.natAbs d.natAbs) (fun p => p.2.toNat) ⟨(if n < 0 then -n else n, d), ⟨?_, by dsimp only; omega, ?_⟩, Wk.refl⟩ ?_
  · dsimp only; split <;> omega
  · dsimp only
    rw [show (if n < 0 then -n else n).natAbs = n.natAbs by split <;> omega]
  · rintro ⟨x, y⟩ ⟨hx, hy, hg⟩
    dsimp only at hx hy hg ⊢
    walk_at "h"
    refine br_p (fun hp => ?_) (fun hn => ?_)
    · have hp : 0 < y := hp
      walk_at "h"
      refine ⟨(y, x % y), ?_, ⟨hy, Int.emod_nonneg _ (by omega), ?_⟩, .same (.same (.same (.same (.no .nil))))⟩
      · have := Int.emod_lt_of_pos x hp
        have := Int.emod_nonneg x (show y ≠ 0 by omega)
        dsimp only
        omega
      · rw [← hg, Int.natAbs_emod_of_nonneg hx, Nat.gcd_comm x.natAbs y.natAbs, Nat.gcd_rec y.natAbs x.natAbs, Nat.gcd_comm]
    · intro Γ' w
      refine sx_weak w ?_
      have hy0 : y = 0 := by omega
      subst hy0
      have hxg : x = ((Nat.gcd n.natAbs d.natAbs : Nat) : Int) := by
        rw [← hg, show Nat.gcd x.natAbs (0 : Int).natAbs = x.natAbs from Nat.gcd_zero_right _, Int.natAbs_of_nonneg hx]
      have e1 := divInt_num (n := n) h0
      have e2 := divInt_den (n := n) h0
      unfold lowD at h
      rw [e1, e2, ← hxg] at h
      walk_at "h"
      refine br_p (fun h1 => ?_) (fun h1 => ?_)
      · walk_at "h"
        refine rk_div (by rw [hxg]; exact cdiv_gcd h0 hs (by decide) (by decide)) ?_
        walk_at "h"
        refine rk_div (by rw [hxg]; exact cdiv_gcd h0 hs (by decide) (by decide)) ?_
        walk_at "h"
        exact h
      · have hx1 : x = 1 := by
          have := gcd_pos (n := n) h0
          omega
        rw [hx1, Int.ediv_one, Int.ediv_one] at h
        walk_at "h"
        exact h

def S__law_below : List D → (D → Prop) → Prop := fun l K => ∃ p q : Rat, l = [lowD p, lowD q] ∧ SzQ p ∧ SzQ q ∧ K (.bl (decide (p < q)))
theorem ok__law_below (T : Tx K mg)  : Cal P w K mg base 1 "_law_below" ["one", "two"] (SpFam (CL K) S__law_below) := by
  refine cal_mkF (N := ["one", "two"]) T.g__law_below T.d__law_below sc__law_below (fun _ _ _ _ _ _ us hl => match us, hl with | [_, _], _ => rfl) (by intro l Q h; first | (obtain ⟨rfl, _⟩ := h; rfl) | (obtain ⟨_, rfl, _⟩ := h; rfl) | (obtain ⟨_, _, rfl, _⟩ := h; rfl) | (obtain ⟨_, _, _, rfl, _⟩ := h; rfl) | (obtain ⟨_, _, _, _, rfl, _⟩ := h; rfl) | (obtain ⟨_, _, _, _, _, rfl, _⟩ := h; rfl) | (obtain ⟨_, _, _, _, _, _, rfl, _⟩ := h; rfl) | (obtain ⟨_, _, _, _, _, _, _, rfl, _⟩ := h; rfl) | (obtain ⟨_, _, _, _, _, _, _, _, rfl, _⟩ := h; rfl) | (obtain ⟨_, _, _, _, _, _, _, _, _, rfl, _⟩ := h; rfl) | (obtain ⟨_, _, _, _, _, _, _, _, _, _, rfl, _⟩ := h; rfl) | (obtain ⟨_, _, _, _, _, _, _, _, _, _, _, rfl, _⟩ := h; rfl)) (fun f cdv A outer s H E hr => ⟨_, (pss_one (ps_ret (pe_cmpR op_ltI (pe_op op_mulI (pe_ix (ix_seqK K rfl) (pv 0) pe_int (fun _ _ => rfl)) (pe_ix (ix_seqK K rfl) (pv 1) pe_int (fun _ _ => rfl))) (pe_op op_mulI (pe_ix (ix_seqK K rfl) (pv 1) pe_int (fun _ _ => rfl)) (pe_ix (ix_seqK K rfl) (pv 0) pe_int (fun _ _ => rfl))) (nomark _)))), ?_⟩)
  intro nn B l Q h
  obtain ⟨p, q, rfl, ⟨hp, hp'⟩, ⟨hq, hq'⟩, h⟩ := h
  unfold lowD
  walk_at "h"
  rw [show (decide (p.num * q.den < q.num * p.den)) = decide (p < q) from decide_eq_decide.mpr (by rw [Rat.lt_iff])]
  exact h

def S__law_is : List D → (D → Prop) → Prop := fun l K => ∃ (d : D) (q : Rat), l = [d, lowD q] ∧ Kn d ∧ ((d.isFrac = false → K (.bl false)) ∧ ∀ p, d = .frac p → K (.bl (decide (p = q))))
theorem ok__law_is (T : Tx K mg)  : Cal P w K mg base 1 "_law_is" ["actual", "due"] (SpFam (CL K) S__law_is) := by
  refine cal_mkF (N := ["actual", "due", "number"]) T.g__law_is T.d__law_is sc__law_is (fun _ _ _ _ _ _ us hl => match us, hl with | [_, _], _ => rfl) (by intro l Q h; first | (obtain ⟨rfl, _⟩ := h; rfl) | (obtain ⟨_, rfl, _⟩ := h; rfl) | (obtain ⟨_, _, rfl, _⟩ := h; rfl) | (obtain ⟨_, _, _, rfl, _⟩ := h; rfl) | (obtain ⟨_, _, _, _, rfl, _⟩ := h; rfl) | (obtain ⟨_, _, _, _, _, rfl, _⟩ := h; rfl) | (obtain ⟨_, _, _, _, _, _, rfl, _⟩ := h; rfl) | (obtain ⟨_, _, _, _, _, _, _, rfl, _⟩ := h; rfl) | (obtain ⟨_, _, _, _, _, _, _, _, rfl, _⟩ := h; rfl) | (obtain ⟨_, _, _, _, _, _, _, _, _, rfl, _⟩ := h; rfl) | (obtain ⟨_, _, _, _, _, _, _, _, _, _, rfl, _⟩ := h; rfl) | (obtain ⟨_, _, _, _, _, _, _, _, _, _, _, rfl, _⟩ := h; rfl)) (fun f cdv A outer s H E hr => ⟨_, (pss_cons (ps_if (pt_not (pt_val (pe_callB (cr_isK K rfl) (by rfl) T.b_isinstance (by decide +kernel) (pa_cons (pv 0) (pa_cons (pe_gcls T.g_Frac (by rfl)) pa_nil))))) (pss_one (ps_ret pe_bl)) pss_nil) (pss_cons (ps_for PassesOwn.never rfl (pi_seqK K rfl (pe_tup (pa_cons (pe_fldK K rfl (pv 0) rfl) (pa_cons (pe_fldK K rfl (pv 0) rfl) pa_nil)))) (pg_name (i := 2) sc__law_is.nd rfl (by first | exact Or.inl rfl | exact Or.inr rfl)) (pss_one (ps_if (PW.pt (pw_or (pt_not (pt_val (pe_callB (cr_isK K rfl) (by rfl) T.b_isinstance (by decide +kernel) (pa_cons (pv 2) (pa_cons (pe_bltn (v := .ty "int") (by rfl) T.b_int (by decide +kernel) rfl) pa_nil))))) (pw_or1 (pt_val (pe_callB (cr_isK K rfl) (by rfl) T.b_isinstance (by decide +kernel) (pa_cons (pv 2) (pa_cons (pe_bltn (v := .ty "bool") (by rfl) T.b_bool (by decide +kernel) rfl) pa_nil))))))) (pss_one (ps_ret pe_bl)) pss_nil))) (pss_one (ps_ret (pe_and (pe_cmpR op_eq (pe_fldK K rfl (pv 0) rfl) (pe_ix (ix_seqK K rfl) (pv 1) pe_int (fun _ _ => rfl)) (nomark _)) (pe_one (pe_cmpR op_eq (pe_fldK K rfl (pv 0) rfl) (pe_ix (ix_seqK K rfl) (pv 1) pe_int (fun _ _ => rfl)) (nomark _)))))))), ?_⟩)
  intro nn B l Q h
  obtain ⟨d, q, rfl, kn, h1, h2⟩ := h
  cases hf : d.isFrac with
  | false =>
    walk_at "h"
    refine ck_fr T kn ?_
    rw [hf]
    walk_at "h"
    exact h1 hf
  | true =>
    obtain ⟨p, rfl⟩ := isFrac_ex hf
    have h := h2 p rfl
    refine sx_skip ?_ ?_
    · walk_at "h"
      refine ck_fr T (.frac p) ?_
      walk_at "h"
      rfl
    refine sx_seq ?_
    refine sx_forGS ?_
    walk_at "v"
    refine ⟨Int, [p.num, (p.den : Int)], .int, Unit, fun j _ => [.d (.frac p), .d (lowD q), .no], fun _ _ => True, rfl, ⟨(), trivial, Wk.refl⟩, fun B' j x s hx hs => ?_, fun Γ' s hs w => sx_weak w ?_⟩
    · walk_at "h"
      refine ck_ty T (.int _) (.inl rfl) ?_
      walk_at "h"
      refine ck_ty T (.int _) (.inr (.inl rfl)) ?_
      walk_at "h"
      exact ⟨(), trivial, .same (.same (.no .nil))⟩
    · unfold lowD
      walk_at "h"
      refine br_p (fun e1 => ?_) (fun e1 => ?_)
      · walk_at "h"
        rw [show decide (((p.den : Nat) : Int) = ((q.den : Nat) : Int)) = decide (p = q) from decide_eq_decide.mpr ⟨fun z => Rat.ext e1 (by exact_mod_cast z), fun z => by rw [z]⟩]
        exact h
      · walk_at "h"
        rw [decide_eq_false (show ¬ p = q from fun z => e1 (by rw [z]))] at h
        exact h

def S__law_hand : List D → (D → Prop) → Prop := fun l K => ∃ q : Rat, l = [.pool, lowD q] ∧ SzQ q ∧ ∀ d, AmtD d q → K d
theorem ok__law_hand (T : Tx K mg) (c__law_take : Cal P w K mg base 1 "_law_take" ["pool", "many"] (SpFam (CL K) S__law_take)) (m_Frac2 : CalM P w K mg base 2 "Frac" [] (SpFamI (CL K) (He.ga K "Frac") S_FracD_initD)) : Cal P w K mg base 4 "_law_hand" ["pool", "pair"] (SpFam (CL K) S__law_hand) := by
  refine cal_mkF (N := ["pool", "pair", "way"]) T.g__law_hand T.d__law_hand sc__law_hand (fun _ _ _ _ _ _ us hl => match us, hl with | [_, _], _ => rfl) (by intro l Q h; first | (obtain ⟨rfl, _⟩ := h; rfl) | (obtain ⟨_, rfl, _⟩ := h; rfl) | (obtain ⟨_, _, rfl, _⟩ := h; rfl) | (obtain ⟨_, _, _, rfl, _⟩ := h; rfl) | (obtain ⟨_, _, _, _, rfl, _⟩ := h; rfl) | (obtain ⟨_, _, _, _, _, rfl, _⟩ := h; rfl) | (obtain ⟨_, _, _, _, _, _, rfl, _⟩ := h; rfl) | (obtain ⟨_, _, _, _, _, _, _, rfl, _⟩ := h; rfl) | (obtain ⟨_, _, _, _, _, _, _, _, rfl, _⟩ := h; rfl) | (obtain ⟨_, _, _, _, _, _, _, _, _, rfl, _⟩ := h; rfl) | (obtain ⟨_, _, _, _, _, _, _, _, _, _, rfl, _⟩ := h; rfl) | (obtain ⟨_, _, _, _, _, _, _, _, _, _, _, rfl, _⟩ := h; rfl)) (fun f cdv A outer s H E hr => ⟨_, (pss_cons (ps_set (i := 2) sc__law_hand.nd rfl (by first | exact Or.inl rfl | exact Or.inr rfl) (pe_calC c__law_take hr (by decide) (by rfl) (pa_cons (pv 0) (pa_cons pe_int pa_nil)))) (pss_cons (ps_if (PW.pt (pw_and (pt_cmpR op_eq (pe_ix (ix_seqK K rfl) (pv 1) pe_int (fun _ _ => rfl)) pe_int (nomark _)) (pw_and1 (pt_cmpR op_gtI (pv 2) pe_int (nomark _))))) (pss_one (ps_ret (pe_ix (ix_seqK K rfl) (pv 1) pe_int (fun _ _ => rfl)))) pss_nil) (pss_cons (ps_if (pt_cmpR op_eq (pv 2) pe_int (nomark _)) (pss_one (ps_ret (pe_mkK K rfl m_Frac2 hr (by decide) (by rfl) (pa_cons (pe_op op_mulI (pe_ix (ix_seqK K rfl) (pv 1) pe_int (fun _ _ => rfl)) pe_int) (pa_cons (pe_op op_mulI (pe_ix (ix_seqK K rfl) (pv 1) pe_int (fun _ _ => rfl)) pe_int) pa_nil))))) pss_nil) (pss_one (ps_ret (pe_mkK K rfl m_Frac2 hr (by decide) (by rfl) (pa_cons (pe_ix (ix_seqK K rfl) (pv 1) pe_int (fun _ _ => rfl)) (pa_cons (pe_ix (ix_seqK K rfl) (pv 1) pe_int (fun _ _ => rfl)) pa_nil)))))))), ?_⟩)
  intro nn B l Q h
  obtain ⟨q, rfl, hq, h⟩ := h
  unfold lowD
  have hd := q.den_pos
  have s3 : Sz (3 : Int) := of_small (n := 3) (by decide) (by decide)
  have d9 : ((q.den : Nat) : Int).natAbs < 2 ^ 9000 := Nat.lt_of_lt_of_le hq.2 (Nat.pow_le_pow_right (by decide) (by decide))
  have d8 : (((q.den : Nat) : Int) * 3).natAbs < 2 ^ 9000 := Nat.lt_of_lt_of_le (Sz.prod hq.2 s3) (Nat.pow_le_pow_right (by decide) (by decide))
  obtain ⟨hn, hdn⟩ := hq
  have fr : ∀ d, d = D.frac (Rat.divInt q.num q.den) → Q d := fun d e => by
    rw [Rat.num_divInt_den] at e
    exact h d (.inr e)
  walk_at "h"
  refine ⟨4, rfl, by decide, by decide, fun a h0 h1 => ?_⟩
  walk_at "h"
  refine br_p (fun h2 => ?_) (fun h2 => ?_)
  · walk_at "h"
    refine br_p (fun h3 => ?_) (fun h3 => ?_)
    · walk_at "h"
      exact h _ (.inl ⟨_, rfl, rat_int (by exact_mod_cast h2)⟩)
    · walk_at "h"
      refine br_p (fun h4 => ?_) (fun h4 => ?_)
      · walk_at "h"
        exact ⟨_, _, rfl, by omega, d8, _, rfl, h _ (.inr (by rw [divInt_three]))⟩
      · walk_at "h"
        exact ⟨_, _, rfl, by omega, d9, _, rfl, fr _ rfl⟩
  · walk_at "h"
    refine br_p (fun h4 => ?_) (fun h4 => ?_)
    · walk_at "h"
      exact ⟨_, _, rfl, by omega, d8, _, rfl, h _ (.inr (by rw [divInt_three]))⟩
    · walk_at "h"
      exact ⟨_, _, rfl, by omega, d9, _, rfl, fr _ rfl⟩

def S__law_worth : List D → (D → Prop) → Prop := fun l K => l = [.pool] ∧ ∀ q : Rat, WOk q → K (lowD q)
theorem ok__law_worth (T : Tx K mg) (c__law_take : Cal P w K mg base 1 "_law_take" ["pool", "many"] (SpFam (CL K) S__law_take)) (c__law_low : Cal P w K mg base 1 "_law_low" ["num", "den"] (SpFam (CL K) S__law_low)) : Cal P w K mg base 2 "_law_worth" ["pool"] (SpFam (CL K) S__law_worth) := by
  refine cal_mkF (N := ["pool", "kind"]) T.g__law_worth T.d__law_worth sc__law_worth (fun _ _ _ _ _ _ us hl => match us, hl with | [_], _ => rfl) (by intro l Q h; first | (obtain ⟨rfl, _⟩ := h; rfl) | (obtain ⟨_, rfl, _⟩ := h; rfl) | (obtain ⟨_, _, rfl, _⟩ := h; rfl) | (obtain ⟨_, _, _, rfl, _⟩ := h; rfl) | (obtain ⟨_, _, _, _, rfl, _⟩ := h; rfl) | (obtain ⟨_, _, _, _, _, rfl, _⟩ := h; rfl) | (obtain ⟨_, _, _, _, _, _, rfl, _⟩ := h; rfl) | (obtain ⟨_, _, _, _, _, _, _, rfl, _⟩ := h; rfl) | (obtain ⟨_, _, _, _, _, _, _, _, rfl, _⟩ := h; rfl) | (obtain ⟨_, _, _, _, _, _, _, _, _, rfl, _⟩ := h; rfl) | (obtain ⟨_, _, _, _, _, _, _, _, _, _, rfl, _⟩ := h; rfl) | (obtain ⟨_, _, _, _, _, _, _, _, _, _, _, rfl, _⟩ := h; rfl)) (fun f cdv A outer s H E hr => ⟨_, (pss_cons (ps_set (i := 1) sc__law_worth.nd rfl (by first | exact Or.inl rfl | exact Or.inr rfl) (pe_calC c__law_take hr (by decide) (by rfl) (pa_cons (pv 0) (pa_cons pe_int pa_nil)))) (pss_cons (ps_if (pt_cmpR op_ltI (pv 1) pe_int (nomark _)) (pss_one (ps_ret (pe_tup (pa_cons (pe_calC c__law_take hr (by decide) (by rfl) (pa_cons (pv 0) (pa_cons pe_int pa_nil))) (pa_cons pe_int pa_nil))))) pss_nil) (pss_cons (ps_if (pt_cmpR op_ltI (pv 1) pe_int (nomark _)) (pss_one (ps_ret (pe_calC c__law_low hr (by decide) (by rfl) (pa_cons (pe_calC c__law_take hr (by decide) (by rfl) (pa_cons (pv 0) (pa_cons pe_int pa_nil))) (pa_cons (pe_op op_addI pe_int (pe_calC c__law_take hr (by decide) (by rfl) (pa_cons (pv 0) (pa_cons pe_int pa_nil)))) pa_nil))))) pss_nil) (pss_cons (ps_if (pt_cmpR op_eq (pv 1) pe_int (nomark _)) (pss_one (ps_ret (pe_calC c__law_low hr (by decide) (by rfl) (pa_cons (pe_calC c__law_take hr (by decide) (by rfl) (pa_cons (pv 0) (pa_cons pe_int pa_nil))) (pa_cons (pe_op op_addI pe_int (pe_calC c__law_take hr (by decide) (by rfl) (pa_cons (pv 0) (pa_cons pe_int pa_nil)))) pa_nil))))) pss_nil) (pss_one (ps_ret (pe_ix (ix_seqK K rfl) (pe_tup (pa_cons (pe_tup (pa_cons pe_int (pa_cons pe_int pa_nil))) (pa_cons (pe_tup (pa_cons pe_int (pa_cons pe_int pa_nil))) (pa_cons (pe_tup (pa_cons pe_int (pa_cons pe_int pa_nil))) (pa_cons (pe_tup (pa_cons pe_int (pa_cons pe_int pa_nil))) pa_nil))))) (pe_calC c__law_take hr (by decide) (by rfl) (pa_cons (pv 0) (pa_cons pe_int pa_nil))) (fun _ _ => rfl)))))))), ?_⟩)
  intro nn B l Q h
  obtain ⟨rfl, h⟩ := h
  walk_at "h"
  refine ⟨8, rfl, by decide, by decide, fun a h0 h1 => ?_⟩
  walk_at "h"
  refine br_p (fun h2 => ?_) (fun h2 => ?_)
  · walk_at "h"
    refine ⟨13, rfl, by decide, by decide, fun b h3 h4 => ?_⟩
    walk_at "h"
    rw [low_int]
    exact h _ (wok_int h3 (by omega))
  walk_at "h"
  refine br_p (fun h3 => ?_) (fun h3 => ?_)
  · walk_at "h"
    refine ⟨60, rfl, by decide, by decide, fun b h4 h5 => ?_⟩
    walk_at "h"
    refine ⟨6, rfl, by decide, by decide, fun c h6 h7 => ?_⟩
    walk_at "h"
    exact ⟨_, _, rfl, by omega, Nat.lt_of_lt_of_le (show (1 + c).natAbs < 2 ^ 4 by omega) (Nat.pow_le_pow_right (by decide) (by decide)), h _ (wok_div h4 (by omega) (by omega) (by omega))⟩
  walk_at "h"
  refine br_p (fun h4 => ?_) (fun h4 => ?_)
  · walk_at "h"
    refine ⟨10000, rfl, by decide, by decide, fun b h5 h6 => ?_⟩
    walk_at "h"
    refine ⟨99, rfl, by decide, by decide, fun c h7 h8 => ?_⟩
    walk_at "h"
    exact ⟨_, _, rfl, by omega, Nat.lt_of_lt_of_le (show (1 + c).natAbs < 2 ^ 7 by omega) (Nat.pow_le_pow_right (by decide) (by decide)), h _ (wok_div h5 (by omega) (by omega) (by omega))⟩
  walk_at "h"
  refine ⟨4, rfl, by decide, by decide, fun b h5 h6 => ?_⟩
  have key : ∀ n d : Int, 0 ≤ n → n ≤ 9999 → 0 < d → d ≤ 99 → Nat.gcd n.natAbs d.natAbs = 1 → Q (.tup [.int n, .int d]) := fun n d a1 a2 a3 a4 a5 => by
    have w := h _ (wok_div a1 a2 a3 a4)
    unfold lowD at w
    rw [divInt_num a3, divInt_den a3, a5] at w
    simpa using w
  have hb : b = 0 ∨ b = 1 ∨ b = 2 ∨ b = 3 := by omega
  rcases hb with rfl | rfl | rfl | rfl
  · exact x_at rfl (key 0 1 (by decide) (by decide) (by decide) (by decide) (by decide))
  · exact x_at rfl (key 9999 1 (by decide) (by decide) (by decide) (by decide) (by decide))
  · exact x_at rfl (key 9999 98 (by decide) (by decide) (by decide) (by decide) (by decide))
  · exact x_at rfl (key 1 99 (by decide) (by decide) (by decide) (by decide) (by decide))

def S__law_cost : List D → (D → Prop) → Prop := fun l K => l = [.pool] ∧ ∀ q : Rat, WOk q → K (lowD q)
theorem ok__law_cost (T : Tx K mg) (c__law_take : Cal P w K mg base 1 "_law_take" ["pool", "many"] (SpFam (CL K) S__law_take)) (c__law_low : Cal P w K mg base 1 "_law_low" ["num", "den"] (SpFam (CL K) S__law_low)) (c__law_worth : Cal P w K mg base 2 "_law_worth" ["pool"] (SpFam (CL K) S__law_worth)) : Cal P w K mg base 3 "_law_cost" ["pool"] (SpFam (CL K) S__law_cost) := by
  refine cal_mkF (N := ["pool", "kind"]) T.g__law_cost T.d__law_cost sc__law_cost (fun _ _ _ _ _ _ us hl => match us, hl with | [_], _ => rfl) (by intro l Q h; first | (obtain ⟨rfl, _⟩ := h; rfl) | (obtain ⟨_, rfl, _⟩ := h; rfl) | (obtain ⟨_, _, rfl, _⟩ := h; rfl) | (obtain ⟨_, _, _, rfl, _⟩ := h; rfl) | (obtain ⟨_, _, _, _, rfl, _⟩ := h; rfl) | (obtain ⟨_, _, _, _, _, rfl, _⟩ := h; rfl) | (obtain ⟨_, _, _, _, _, _, rfl, _⟩ := h; rfl) | (obtain ⟨_, _, _, _, _, _, _, rfl, _⟩ := h; rfl) | (obtain ⟨_, _, _, _, _, _, _, _, rfl, _⟩ := h; rfl) | (obtain ⟨_, _, _, _, _, _, _, _, _, rfl, _⟩ := h; rfl) | (obtain ⟨_, _, _, _, _, _, _, _, _, _, rfl, _⟩ := h; rfl) | (obtain ⟨_, _, _, _, _, _, _, _, _, _, _, rfl, _⟩ := h; rfl)) (fun f cdv A outer s H E hr => ⟨_, (pss_cons (ps_set (i := 1) sc__law_cost.nd rfl (by first | exact Or.inl rfl | exact Or.inr rfl) (pe_calC c__law_take hr (by decide) (by rfl) (pa_cons (pv 0) (pa_cons pe_int pa_nil)))) (pss_cons (ps_if (pt_cmpR op_eq (pv 1) pe_int (nomark _)) (pss_one (ps_ret (pe_tup (pa_cons pe_int (pa_cons pe_int pa_nil))))) pss_nil) (pss_cons (ps_if (pt_cmpR op_ltI (pv 1) pe_int (nomark _)) (pss_one (ps_ret (pe_tup (pa_cons (pe_calC c__law_take hr (by decide) (by rfl) (pa_cons (pv 0) (pa_cons pe_int pa_nil))) (pa_cons pe_int pa_nil))))) pss_nil) (pss_cons (ps_if (pt_cmpR op_eq (pv 1) pe_int (nomark _)) (pss_one (ps_ret (pe_calC c__law_low hr (by decide) (by rfl) (pa_cons (pe_calC c__law_take hr (by decide) (by rfl) (pa_cons (pv 0) (pa_cons pe_int pa_nil))) (pa_cons (pe_op op_addI pe_int (pe_calC c__law_take hr (by decide) (by rfl) (pa_cons (pv 0) (pa_cons pe_int pa_nil)))) pa_nil))))) pss_nil) (pss_one (ps_ret (pe_calC c__law_worth hr (by decide) (by rfl) (pa_cons (pv 0) pa_nil)))))))), ?_⟩)
  intro nn B l Q h
  obtain ⟨rfl, h⟩ := h
  walk_at "h"
  refine ⟨5, rfl, by decide, by decide, fun a h0 h1 => ?_⟩
  walk_at "h"
  refine br_p (fun h2 => ?_) (fun h2 => ?_)
  · walk_at "h"
    rw [low_int]
    exact h _ (wok_int (by decide) (by decide))
  walk_at "h"
  refine br_p (fun h3 => ?_) (fun h3 => ?_)
  · walk_at "h"
    refine ⟨5, rfl, by decide, by decide, fun b h3 h4 => ?_⟩
    walk_at "h"
    rw [low_int]
    exact h _ (wok_int h3 (by omega))
  walk_at "h"
  refine br_p (fun h4 => ?_) (fun h4 => ?_)
  · walk_at "h"
    refine ⟨30, rfl, by decide, by decide, fun b h5 h6 => ?_⟩
    walk_at "h"
    refine ⟨6, rfl, by decide, by decide, fun c h7 h8 => ?_⟩
    walk_at "h"
    exact ⟨_, _, rfl, by omega, Nat.lt_of_lt_of_le (show (1 + c).natAbs < 2 ^ 4 by omega) (Nat.pow_le_pow_right (by decide) (by decide)), h _ (wok_div h5 (by omega) (by omega) (by omega))⟩
  walk_at "h"
  exact ⟨rfl, h⟩

def S__law_weight : List D → (D → Prop) → Prop := fun l K => ∃ m : Int, l = [.pool, .int m] ∧ 4 ≤ m ∧ m ≤ 100000 ∧ ∀ w : Int, 1 ≤ w → w ≤ m → K (.int w)
theorem ok__law_weight (T : Tx K mg) (c__law_take : Cal P w K mg base 1 "_law_take" ["pool", "many"] (SpFam (CL K) S__law_take)) : Cal P w K mg base 2 "_law_weight" ["pool", "most"] (SpFam (CL K) S__law_weight) := by
  refine cal_mkF (N := ["pool", "most"]) T.g__law_weight T.d__law_weight sc__law_weight (fun _ _ _ _ _ _ us hl => match us, hl with | [_, _], _ => rfl) (by intro l Q h; first | (obtain ⟨rfl, _⟩ := h; rfl) | (obtain ⟨_, rfl, _⟩ := h; rfl) | (obtain ⟨_, _, rfl, _⟩ := h; rfl) | (obtain ⟨_, _, _, rfl, _⟩ := h; rfl) | (obtain ⟨_, _, _, _, rfl, _⟩ := h; rfl) | (obtain ⟨_, _, _, _, _, rfl, _⟩ := h; rfl) | (obtain ⟨_, _, _, _, _, _, rfl, _⟩ := h; rfl) | (obtain ⟨_, _, _, _, _, _, _, rfl, _⟩ := h; rfl) | (obtain ⟨_, _, _, _, _, _, _, _, rfl, _⟩ := h; rfl) | (obtain ⟨_, _, _, _, _, _, _, _, _, rfl, _⟩ := h; rfl) | (obtain ⟨_, _, _, _, _, _, _, _, _, _, rfl, _⟩ := h; rfl) | (obtain ⟨_, _, _, _, _, _, _, _, _, _, _, rfl, _⟩ := h; rfl)) (fun f cdv A outer s H E hr => ⟨_, (pss_cons (ps_if (pt_cmpR op_eq (pe_calC c__law_take hr (by decide) (by rfl) (pa_cons (pv 0) (pa_cons pe_int pa_nil))) pe_int (nomark _)) (pss_one (ps_ret (pe_op op_addI pe_int (pe_calC c__law_take hr (by decide) (by rfl) (pa_cons (pv 0) (pa_cons (pv 1) pa_nil)))))) pss_nil) (pss_cons (ps_if (pt_cmpR op_eq (pe_calC c__law_take hr (by decide) (by rfl) (pa_cons (pv 0) (pa_cons pe_int pa_nil))) pe_int (nomark _)) (pss_one (ps_ret (pv 1))) pss_nil) (pss_one (ps_ret (pe_op op_addI pe_int (pe_calC c__law_take hr (by decide) (by rfl) (pa_cons (pv 0) (pa_cons pe_int pa_nil)))))))), ?_⟩)
  intro nn B l Q h
  obtain ⟨m, rfl, h0, h1, h⟩ := h
  walk_at "h"
  refine ⟨4, rfl, by decide, by decide, fun a h2 h3 => ?_⟩
  walk_at "h"
  refine br_p (fun h4 => ?_) (fun h4 => ?_)
  · walk_at "h"
    refine ⟨m, rfl, by omega, by omega, fun b h5 h6 => ?_⟩
    walk_at "h"
    exact h _ (by omega) (by omega)
  walk_at "h"
  refine ⟨20, rfl, by decide, by decide, fun a h2 h3 => ?_⟩
  walk_at "h"
  refine br_p (fun h4 => ?_) (fun h4 => ?_)
  · walk_at "h"
    exact h _ (by omega) (by omega)
  walk_at "h"
  refine ⟨4, rfl, by decide, by decide, fun b h5 h6 => ?_⟩
  walk_at "h"
  exact h _ (by omega) (by omega)

end

end K
end

section
set_option maxRecDepth 100000
set_option maxHeartbeats 4000000
namespace K
open PySem PySem.Spec PyProof.Rows L2 G

theorem resFL_id {cs : List (Addr × List D)} : ∀ l : List D, ResFL cs l l
  | [] => .nil
  | _ :: l => .cons .id (resFL_id l)
theorem zip_snoc {α β : Type} : ∀ {vs : List α} {ws : List β} {v : α} {y : β}, ws[vs.length]? = some y → (vs ++ [v]).zip ws = vs.zip ws ++ [(v, y)]
  | [], [], _, _, h => by simp at h
  | [], w :: ws, v, y, h => by simp at h; subst h; simp
  | u :: vs, [], _, _, h => by simp at h
  | u :: vs, w :: ws, v, y, h => by
    have := zip_snoc (vs := vs) (ws := ws) (v := v) (y := y) (by simpa using h)
    simp [this]
theorem cntP_succ {ws : List Rat} {w x : Rat} {j : Nat} (h : ws[j]? = some x) : (ws.take (j + 1)).countP (fun x => decide (x < w)) = (ws.take j).countP (fun x => decide (x < w)) + (if x < w then 1 else 0) := by
  rw [List.take_succ, h, List.countP_append]
  congr 1
  by_cases hw : x < w
  · simp [hw]
  · simp [hw]
theorem mem_map_low {ws : List Rat} {w : Rat} : ((ws.map lowD).any fun z => PyData.eqv (pyD z) (pyD (lowD w))) = decide (w ∈ ws) := by
  rw [Bool.eq_iff_iff, decide_eq_true_iff, List.any_eq_true]
  constructor
  · rintro ⟨x, hx, he⟩
    obtain ⟨q, hq, rfl⟩ := List.mem_map.mp hx
    rw [eqv_low, decide_eq_true_iff] at he
    exact he ▸ hq
  · intro h
    exact ⟨lowD w, List.mem_map_of_mem h, by rw [eqv_low]; exact decide_eq_true rfl⟩
section
local macro_rules | `(tactic| walk_at "e") => `(tactic| first
  | ((with_reducible refine' ek_var ?h1 ?_); (case h1 => exact rfl))
  | (with_reducible refine ek_int ?_)
  | (with_reducible refine ek_bl ?_)
  | (with_reducible refine ek_non ?_)
  | (with_reducible refine ek_str ?_)
  | (with_reducible refine ek_ty ?_)
  | (with_reducible refine ek_cls ?_)
  | (with_reducible refine ek_ix ?_)
  | (with_reducible refine ek_un ?_)
  | (with_reducible refine ek_tup ?_)
  | (with_reducible refine k_call ?_)
  | (with_reducible refine ek_len ?_)
  | (with_reducible refine ek_tuple ?_)
  | (with_reducible refine ek_sum ?_)
  | (with_reducible refine ek_all ?_)
  | (with_reducible refine ek_any ?_)
  | (with_reducible refine ek_chain ?_)
  | (with_reducible refine ek_andV ?_)
  | (with_reducible refine ek_orV ?_)
  | (with_reducible refine ek_notV ?_)
  | (with_reducible refine ek_if ?_)
  | (with_reducible refine ek_ef (ef_lst ?_))
  | (with_reducible refine ek_ef (ef_list ?_))
  | (with_reducible refine ek_ef (ef_cat ?_))
  | (with_reducible refine ek_ef (ef_rep ?_))
  | (with_reducible refine ek_ef (ef_slice ?_))
  | (with_reducible refine ek_ef (ef_rev ?_))
  | (with_reducible refine ek_ef (ef_lstRev ?_))
  | (with_reducible refine ek_ef (ef_map ?_))
  | (with_reducible refine ek_ef (ef_filt ?_))
  | (with_reducible refine ef_lst ?_)
  | (with_reducible refine ef_list ?_)
  | (with_reducible refine ef_cat ?_)
  | (with_reducible refine ef_rep ?_)
  | (with_reducible refine ef_slice ?_)
  | (with_reducible refine ef_rev ?_)
  | (with_reducible refine ef_lstRev ?_)
  | (with_reducible refine ef_map ?_)
  | (with_reducible refine ef_filt ?_)
  | ((with_reducible refine' el_var ?h1 ?_); (case h1 => exact rfl))
  | ((with_reducible refine' el_own ?h1 ?_); (case h1 => exact rfl))
  | (with_reducible refine el_ef (ef_lst ?_))
  | (with_reducible refine el_ef (ef_list ?_))
  | (with_reducible refine el_ef (ef_cat ?_))
  | (with_reducible refine el_ef (ef_rep ?_))
  | (with_reducible refine el_ef (ef_slice ?_))
  | (with_reducible refine el_ef (ef_rev ?_))
  | (with_reducible refine el_ef (ef_lstRev ?_))
  | (with_reducible refine el_ef (ef_map ?_))
  | (with_reducible refine el_ef (ef_filt ?_))
  | (with_reducible refine ek_op ?_)
  | (with_reducible refine ek_cb ?_)
  | (with_reducible refine el_ek ?_)
  | (with_reducible refine tk_test ?_)
  | (with_reducible refine tk_B ?_)
  | (with_reducible refine tk_and ?_)
  | (with_reducible refine tk_or ?_)
  | (with_reducible refine tk_not ?_)
  | (with_reducible refine tk_yes ?_)
  | (with_reducible refine ak_nil ?_)
  | (with_reducible refine ak_cons ?_)
  | (with_reducible refine k_num (‹Tx _ _›) ?_)
  | (with_reducible refine k_den (‹Tx _ _›) ?_)
  | (with_reducible refine k_mk2 ?_)
  | (with_reducible refine k_mk1 ?_)
  | (with_reducible refine k_bel ?_)
  | (with_reducible refine k_own ?_)
  | (with_reducible refine rk_U2 (k_own ?_))
  | (with_reducible refine rk_mul (Sz.mul (by assumption) (by assumption)) ?_)
  | (with_reducible refine rk_U1 (rk_mul (Sz.mul (by assumption) (by assumption)) ?_))
  | (with_reducible refine ek_dget ?_)
  | (with_reducible refine uk_neg ?_)
  | (with_reducible refine ek_disp ?_)
  | (with_reducible refine pk_cons ?_)
  | (with_reducible refine pk_nil ?_)
  | (with_reducible refine rk_mod (by assumption) ?_)
  | (with_reducible refine rk_add ?_)
  | (with_reducible refine rk_sub ?_)
  | (with_reducible refine rk_lt ?_)
  | (with_reducible refine rk_le ?_)
  | (with_reducible refine rk_gt ?_)
  | (with_reducible refine rk_ge ?_)
  | (with_reducible refine rk_eqI ?_)
  | (with_reducible refine rk_neI ?_)
  | (with_reducible refine rk_isN ?_)
  | (with_reducible refine rk_notN ?_)
  | (with_reducible refine rk_U1 (rk_add ?_))
  | (with_reducible refine rk_U1 (rk_sub ?_))
  | (with_reducible refine ck_gcd ?_)
  | (with_reducible refine ck_abs ?_)
  | (with_reducible refine ck_int ?_)
  | (with_reducible refine ik_seq ?_)
  | (with_reducible refine ik_range1 ?_)
  | (with_reducible refine ik_range2 ?_)
  | (with_reducible refine ik_enumA ?_)
  | (with_reducible refine ik_zip ?_)
  | (with_reducible refine ik_rev ?_)
  | ((with_reducible refine' cg_name ?_ ?h1 ?h2); (case h1 => exact rfl); (case h2 => decide))
  | ((with_reducible refine' cg_anyT ?h1 ?_); (case h1 => exact rfl))
  | ((with_reducible refine' cg_anyL ?h1 ?_); (case h1 => exact rfl))
  | ((with_reducible refine' cg_anyK ?h1 ?_); (case h1 => exact rfl))
  | ((with_reducible refine' cgs_cons ?_ ?h1 ?h2); (case h1 => exact rfl); (case h2 => decide))
  | (with_reducible refine cgs_nil ?_)
  | ((with_reducible refine' gk_name ?_ ?h1); (case h1 => exact rfl))
  | ((with_reducible refine' gk_anyT ?h1 ?_); (case h1 => exact rfl))
  | ((with_reducible refine' gk_anyL ?h1 ?_); (case h1 => exact rfl))
  | ((with_reducible refine' gk_anyK ?h1 ?_); (case h1 => exact rfl))
  | ((with_reducible refine' gks_cons ?_ ?h1); (case h1 => exact rfl))
  | ((with_reducible refine' gks_consA (n := 0) ?_ ?h1 ?h2); (case h1 => exact rfl); (case h2 => exact rfl))
  | ((with_reducible refine' gks_consB ?h0 ?_ ?h1 ?h2); (case h0 => exact rfl); (case h1 => exact rfl); (case h2 => exact rfl))
  | (with_reducible refine gks_nil ?_)
  | (with_reducible refine ok_none ?_)
  | (with_reducible refine ok_some ?_))
local macro_rules | `(tactic| walk_at "s") => `(tactic| first
  | (with_reducible refine sx_guard ?_ ?_)
  | (with_reducible refine sx_seq ?_)
  | ((with_reducible refine' sx_retO ?h1 ?_); (case h1 => exact rfl))
  | (with_reducible refine sx_ret ?_)
  | (with_reducible refine sx_if ?_)
  | (with_reducible refine sx_next ?_)
  | (with_reducible refine sx_break ?_)
  | (with_reducible refine sx_cont ?_)
  | ((with_reducible refine' sx_append ?h1 ?_); (case h1 => exact rfl))
  | ((with_reducible refine' sx_setI ?h1 ?_); (case h1 => exact rfl))
  | ((with_reducible refine' sx_set ?h1 ?_); (case h1 => exact rfl))
  | (with_reducible refine sx_asg ?_)
  | ((with_reducible refine' sx_par ?h1 ?h2 ?_); (case h1 => exact rfl); (case h2 => exact rfl))
  | (with_reducible refine sx_drop ?_)
  | ((with_reducible refine' k_fldS (‹Tx _ _›) ?h1 ?h2 ?h3 ?_); (case h1 => exact rfl); (case h2 => decide); (case h3 => exact rfl)))
/-! plain existentials that the rules leave -/
local macro_rules | `(tactic| walk_at "x") => `(tactic| first
  | (with_reducible refine x_bl ?_)
  | (with_reducible refine x_int ?_)
  | (with_reducible refine x_frac ?_)
  | (with_reducible refine x_lst ?_)
  | (with_reducible refine x_tup ?_)
  | (with_reducible refine x_kd ?_)
  | (with_reducible refine x_oneL ?_)
  | (with_reducible refine x_oneT ?_)
  | (with_reducible refine x_one ?_)
  | ((with_reducible refine' x_at ?h1 ?_); (case h1 => exact rfl))
  | ((with_reducible refine' x_dic ?h1 ?_); (case h1 => exact rfl))
  | (with_reducible refine (⟨rfl, ?_⟩ : Kd.l = Kd.l ∧ _))
  | ((with_reducible refine' x_len ?h1 ?_); (case h1 => exact rfl))
  | ((with_reducible refine' br_t ?h1 ?_); (case h1 => exact rfl))
  | ((with_reducible refine' br_f ?h1 ?_); (case h1 => exact rfl)))
local macro_rules | `(tactic| walk_at "f") => `(tactic| first
  | ((with_reducible refine' sx_forW ?h1 ?_); (case h1 => exact rfl))
  | (with_reducible refine sx_forGW ?_))
local macro_rules | `(tactic| walk_at "g") => `(tactic| repeat (first | walk_at "s" | walk_at "f" | walk_at "e" | walk_at "x"))
local macro_rules | `(tactic| walk_at "v") => `(tactic| repeat (first | walk_at "e" | walk_at "x"))
local macro_rules | `(tactic| walk_at "h") => `(tactic| repeat (first | walk_at "s" | walk_at "e" | walk_at "x"))
variable {P : Program} {w : World} {K : PySem.W.Frag} {mg : Str → Option Value} {base : Heap}

def S__law_prizes : List D → (D → Prop) → Prop := fun l K => ∃ n : Nat, l = [.pool, .int (n : Nat)] ∧ 1 ≤ n ∧ n ≤ 4 ∧ ∀ ps : List (Int × Rat), PsOk ps → K (.lst (ps.map pairL))
theorem ok__law_prizes (T : Tx K mg) (c__law_worth : Cal P w K mg base 2 "_law_worth" ["pool"] (SpFam (CL K) S__law_worth)) (c__law_below : Cal P w K mg base 1 "_law_below" ["one", "two"] (SpFam (CL K) S__law_below)) (c__law_weight : Cal P w K mg base 2 "_law_weight" ["pool", "most"] (SpFam (CL K) S__law_weight)) : Cal P w K mg base 3 "_law_prizes" ["pool", "many"] (SpFam (CL K) S__law_prizes) := by
  refine cal_mkF (N := ["pool", "many", "worths", "k", "told", "worth", "at", "other"]) T.g__law_prizes T.d__law_prizes sc__law_prizes (fun _ _ _ _ _ _ us hl => match us, hl with | [_, _], _ => rfl) (by intro l Q h; first | (obtain ⟨rfl, _⟩ := h; rfl) | (obtain ⟨_, rfl, _⟩ := h; rfl) | (obtain ⟨_, _, rfl, _⟩ := h; rfl) | (obtain ⟨_, _, _, rfl, _⟩ := h; rfl) | (obtain ⟨_, _, _, _, rfl, _⟩ := h; rfl) | (obtain ⟨_, _, _, _, _, rfl, _⟩ := h; rfl) | (obtain ⟨_, _, _, _, _, _, rfl, _⟩ := h; rfl) | (obtain ⟨_, _, _, _, _, _, _, rfl, _⟩ := h; rfl) | (obtain ⟨_, _, _, _, _, _, _, _, rfl, _⟩ := h; rfl) | (obtain ⟨_, _, _, _, _, _, _, _, _, rfl, _⟩ := h; rfl) | (obtain ⟨_, _, _, _, _, _, _, _, _, _, rfl, _⟩ := h; rfl) | (obtain ⟨_, _, _, _, _, _, _, _, _, _, _, rfl, _⟩ := h; rfl)) (fun f cdv A outer s H E hr => ⟨_, (pss_cons (ps_set (i := 2) sc__law_prizes.nd rfl (by first | exact Or.inl rfl | exact Or.inr rfl) (pe_lst pa_nil)) (pss_cons (ps_for PassesOwn.never rfl (pi_range1 (by rfl) T.b_range (pa_cons (pv 1) pa_nil)) (pg_name (i := 3) sc__law_prizes.nd rfl (by first | exact Or.inl rfl | exact Or.inr rfl)) (pss_cons (ps_set (i := 5) sc__law_prizes.nd rfl (by first | exact Or.inl rfl | exact Or.inr rfl) (pe_calC c__law_worth hr (by decide) (by rfl) (pa_cons (pv 0) pa_nil))) (pss_cons (ps_set (i := 6) sc__law_prizes.nd rfl (by first | exact Or.inl rfl | exact Or.inr rfl) pe_int) (pss_cons (ps_for PassesOwn.never rfl (pi_seqK K rfl (pv 2)) (pg_name (i := 7) sc__law_prizes.nd rfl (by first | exact Or.inl rfl | exact Or.inr rfl)) (pss_one (ps_if (pt_val (pe_calC c__law_below hr (by decide) (by rfl) (pa_cons (pv 7) (pa_cons (pv 5) pa_nil)))) (pss_one (ps_set (i := 6) sc__law_prizes.nd rfl (by first | exact Or.inl rfl | exact Or.inr rfl) (pe_op op_addI (pv 6) pe_int))) pss_nil))) (pss_one (ps_if (pt_cmpR (op_notInDK rfl hr) (pv 5) (pv 2) (by rfl)) (pss_one (ps_expr (pe_bm PySem.F.plainAttrs_list PySem.F.slot_list_insert PySem.F.type_list_insert mt_ins (pv 2) (pa_cons (pv 6) (pa_cons (pv 5) pa_nil))))) pss_nil)))))) (pss_cons (ps_set (i := 4) sc__law_prizes.nd rfl (by first | exact Or.inl rfl | exact Or.inr rfl) (pe_lst pa_nil)) (pss_cons (ps_for PassesOwn.never rfl (pi_seqK K rfl (pv 2)) (pg_name (i := 5) sc__law_prizes.nd rfl (by first | exact Or.inl rfl | exact Or.inr rfl)) (pss_one (ps_expr (pe_bm PySem.F.plainAttrs_list PySem.F.slot_list_append PySem.F.type_list_append mt_append (pv 4) (pa_cons (pe_tup (pa_cons (pe_calC c__law_weight hr (by decide) (by rfl) (pa_cons (pv 0) (pa_cons pe_int pa_nil))) (pa_cons (pv 5) pa_nil))) pa_nil))))) (pss_one (ps_ret (pv 4))))))), ?_⟩)
  intro nn B l Q h
  obtain ⟨n, rfl, h1, h2, h⟩ := h
  refine sx_reg rfl ?_
  refine sx_seq ?_
  refine sx_setN (j := 8) (cs := []) rfl rfl (en_ef ?_)
  walk_at "v"
  intro a
  walk_at "h"
  refine sx_forGS ?_
  walk_at "v"
  refine ⟨(n : Nat), rfl, by omega, by omega, ?_⟩
  refine ⟨Nat, List.range n, _, List Rat, fun j ws => [.d .pool, .d (.int (n : Nat)), .d (.adr a), .no, .no, .no, .no, .no, .reg [(a, ws.map lowD)]], fun j ws => ws.Pairwise (· < ·) ∧ (∀ q ∈ ws, WOk q) ∧ ws.length ≤ j ∧ (1 ≤ j → 1 ≤ ws.length), rng1, ⟨[], ⟨List.Pairwise.nil, fun _ h => (nomatch h), Nat.le_refl _, fun z => absurd z (by decide)⟩, Wk.refl⟩, fun B' j x ws hx hs => ?_, fun Γ' ws hs w => sx_weak w ?_⟩
  · obtain ⟨hp, hw, hl, hl1⟩ := hs
    obtain ⟨rfl, hj⟩ := rng_get hx
    walk_at "h"
    refine ⟨rfl, fun q hq => ?_⟩
    walk_at "h"
    refine sx_forR ?_
    walk_at "v"
    refine ⟨a, Rat, ws, lowD, Unit, fun i _ => [.d .pool, .d (.int (n : Nat)), .d (.adr a), .no, .no, .d (lowD q), .d (.int ((ws.take i).countP (fun x => decide (x < q)) : Nat)), .no, .reg [(a, ws.map lowD)]], fun _ _ => True, rfl, fun _ _ => ⟨8, _, rfl, List.mem_cons_self⟩, ⟨(), trivial, .same (.same (.same (.no (.same (.same (.same (.same (.same .nil))))))))⟩, fun i y s hy _ => ?_, fun Γ2 s _ w => sx_weak w ?_⟩
    · walk_at "h"
      refine ⟨_, _, rfl, (hw y (List.mem_of_getElem? hy)).sz, hq.sz, ?_⟩
      walk_at "h"
      refine br_p (fun z => ?_) (fun z => ?_)
      · walk_at "h"
        refine ⟨(), trivial, ?_⟩
        show Wk _ [_, _, _, _, _, _, .d (.int ((ws.take (i + 1)).countP (fun x => decide (x < q)) : Nat)), .no, _]
        rw [cntP_succ hy, if_pos z]
        push_cast
        exact .same (.same (.same (.same (.same (.same (.same (.no (.same .nil))))))))
      · walk_at "h"
        refine ⟨(), trivial, ?_⟩
        show Wk _ [_, _, _, _, _, _, .d (.int ((ws.take (i + 1)).countP (fun x => decide (x < q)) : Nat)), .no, _]
        rw [cntP_succ hy, if_neg z, Nat.add_zero]
        exact .same (.same (.same (.same (.same (.same (.same (.no (.same .nil))))))))
    · dsimp only
      rw [List.take_length]
      have hc : ws.countP (fun x => decide (x < q)) ≤ ws.length := List.countP_le_length
      refine sx_if ?_
      refine tk_test ?_
      refine ek_inR (f := fun b => !b) (j := 8) rfl rfl ?_
      walk_at "v"
      refine ⟨1, pd_low, by decide, ?_⟩
      walk_at "v"
      refine ⟨a, ws.map lowD, 1, rfl, List.mem_cons_self, fun x hx => by obtain ⟨q, _, rfl⟩ := List.mem_map.mp hx; exact pd_low, by decide, ?_⟩
      rw [mem_map_low]
      refine ⟨_, rfl, ?_⟩
      refine br_n (fun z => ?_) (fun z => ?_)
      · refine sx_insC (j := 8) rfl ?_
        walk_at "v"
        refine ⟨a, rfl, ⟨_, List.mem_cons_self⟩, ?_⟩
        walk_at "v"
        refine ⟨_, rfl, by omega, en_ek ?_⟩
        walk_at "v"
        refine ⟨0, _, rfl, small1000 (by rw [List.length_map]; omega), ws.take (ws.countP (fun x => decide (x < q))) ++ [q] ++ ws.drop (ws.countP (fun x => decide (x < q))), ⟨ins_sorted hp z, fun y hy => ?_, ?_, fun _ => ?_⟩, ?_⟩
        · simp only [List.mem_append, List.mem_cons, List.not_mem_nil, or_false] at hy
          rcases hy with (hy | rfl) | hy
          · exact hw y (List.mem_of_mem_take hy)
          · exact hq
          · exact hw y (List.mem_of_mem_drop hy)
        · simp only [List.length_append, List.length_take, List.length_drop, List.length_cons, List.length_nil]
          omega
        · simp only [List.length_append, List.length_take, List.length_drop, List.length_cons, List.length_nil]
          omega
        · rw [← insD_map]
          exact .same (.same (.same (.no (.no (.no (.no (.no (.same .nil))))))))
      · refine sx_next ?_
        refine ⟨ws, ⟨hp, hw, by omega, fun _ => ?_⟩, .same (.same (.same (.no (.no (.no (.no (.no (.same .nil))))))))⟩
        have := List.length_pos_of_mem z
        omega
  · obtain ⟨hp, hw, hl, hl1⟩ := hs
    rw [List.length_range] at hl hl1
    dsimp only
    refine sx_frz (i := 2) (j := 8) rfl rfl (.adr List.mem_cons_self (resFL_id _)) ?_
    refine sx_seq ?_
    refine' sx_setO ?h1 ?_
    case h1 => exact rfl
    walk_at "h"
    refine sx_forGS ?_
    walk_at "v"
    refine ⟨Rat, ws, lowD, List Int, fun j vs => [.d .pool, .no, .d (.lst (ws.map lowD)), .no, .own ((vs.zip ws).map pairL), .no, .no, .no], fun j vs => vs.length = j ∧ ∀ v ∈ vs, 1 ≤ v ∧ v ≤ 99, rfl, ⟨[], ⟨rfl, fun _ h => (nomatch h)⟩, .same (.no (.same (.same (.same (.same (.same (.same (.cut .nil))))))))⟩, fun B2 j y vs hy hv => ?_, fun Γ2 vs hv w => sx_weak w ?_⟩
    · obtain ⟨hv1, hv2⟩ := hv
      have hjl := (List.getElem?_eq_some_iff.mp hy).1
      walk_at "h"
      refine ⟨99, rfl, by decide, by decide, fun v hv0 hv9 => ?_⟩
      walk_at "h"
      refine ⟨small1000 (by simp; omega), vs ++ [v], ⟨by simp [hv1], fun u hu => ?_⟩, ?_⟩
      · rcases List.mem_append.mp hu with hu | hu
        · exact hv2 u hu
        · cases List.mem_singleton.mp hu
          exact ⟨hv0, hv9⟩
      · have ez : ((vs ++ [v]).zip ws).map pairL = (vs.zip ws).map pairL ++ [.tup [.int v, lowD y]] := by
          have e1 : (vs ++ [v]).zip ws = vs.zip ws ++ [(v, y)] := zip_snoc (by rw [hv1]; exact hy)
          rw [e1, List.map_append]; rfl
        show Wk _ [_, .no, _, .no, .own (((vs ++ [v]).zip ws).map pairL), .no, .no, .no]
        rw [ez]
        exact .same (.no (.same (.no (.same (.no (.no (.no .nil)))))))
    · obtain ⟨hv1, hv2⟩ := hv
      dsimp only
      refine sx_freeze 4 rfl ?_
      walk_at "h"
      have m2 : (vs.zip ws).map (·.2) = ws := by
        apply List.ext_getElem?
        intro i
        rw [List.getElem?_map, List.zip_eq_zipWith, List.getElem?_zipWith]
        by_cases hi : i < ws.length
        · rw [List.getElem?_eq_getElem hi, List.getElem?_eq_getElem (show i < vs.length by omega)]; rfl
        · rw [List.getElem?_eq_none (by omega), List.getElem?_eq_none (by omega)]; rfl
      refine h (vs.zip ws) ⟨by simp; omega, by simp; omega, fun p hp' => (hv2 p.1 (List.of_mem_zip hp').1).1, fun p hp' => (hv2 p.1 (List.of_mem_zip hp').1).2, fun p hp' => hw p.2 (List.of_mem_zip hp').2, ?_⟩
      rw [m2]; exact hp

def S__law_boxes : List D → (D → Prop) → Prop := fun l K => ∃ m n : Nat, l = [.pool, .int (m : Nat), .int (n : Nat)] ∧ m ≤ 8 ∧ 1 ≤ n ∧ n ≤ 4 ∧ ∀ bs : List BxT, bs.length = m → (∀ b ∈ bs, BOk b) → K (.lst (bs.map boxL))
theorem ok__law_boxes (T : Tx K mg) (c__law_cost : Cal P w K mg base 3 "_law_cost" ["pool"] (SpFam (CL K) S__law_cost)) (c__law_prizes : Cal P w K mg base 3 "_law_prizes" ["pool", "many"] (SpFam (CL K) S__law_prizes)) (c__law_take : Cal P w K mg base 1 "_law_take" ["pool", "many"] (SpFam (CL K) S__law_take)) : Cal P w K mg base 4 "_law_boxes" ["pool", "many", "most"] (SpFam (CL K) S__law_boxes) := by
  refine cal_mkF (N := ["pool", "many", "most", "told", "k"]) T.g__law_boxes T.d__law_boxes sc__law_boxes (fun _ _ _ _ _ _ us hl => match us, hl with | [_, _, _], _ => rfl) (by intro l Q h; first | (obtain ⟨rfl, _⟩ := h; rfl) | (obtain ⟨_, rfl, _⟩ := h; rfl) | (obtain ⟨_, _, rfl, _⟩ := h; rfl) | (obtain ⟨_, _, _, rfl, _⟩ := h; rfl) | (obtain ⟨_, _, _, _, rfl, _⟩ := h; rfl) | (obtain ⟨_, _, _, _, _, rfl, _⟩ := h; rfl) | (obtain ⟨_, _, _, _, _, _, rfl, _⟩ := h; rfl) | (obtain ⟨_, _, _, _, _, _, _, rfl, _⟩ := h; rfl) | (obtain ⟨_, _, _, _, _, _, _, _, rfl, _⟩ := h; rfl) | (obtain ⟨_, _, _, _, _, _, _, _, _, rfl, _⟩ := h; rfl) | (obtain ⟨_, _, _, _, _, _, _, _, _, _, rfl, _⟩ := h; rfl) | (obtain ⟨_, _, _, _, _, _, _, _, _, _, _, rfl, _⟩ := h; rfl)) (fun f cdv A outer s H E hr => ⟨_, (pss_cons (ps_set (i := 3) sc__law_boxes.nd rfl (by first | exact Or.inl rfl | exact Or.inr rfl) (pe_lst pa_nil)) (pss_cons (ps_for PassesOwn.never rfl (pi_range1 (by rfl) T.b_range (pa_cons (pv 1) pa_nil)) (pg_name (i := 4) sc__law_boxes.nd rfl (by first | exact Or.inl rfl | exact Or.inr rfl)) (pss_one (ps_expr (pe_bm PySem.F.plainAttrs_list PySem.F.slot_list_append PySem.F.type_list_append mt_append (pv 3) (pa_cons (pe_tup (pa_cons (pe_calC c__law_cost hr (by decide) (by rfl) (pa_cons (pv 0) pa_nil)) (pa_cons (pe_calC c__law_prizes hr (by decide) (by rfl) (pa_cons (pv 0) (pa_cons (pe_op op_addI pe_int (pe_calC c__law_take hr (by decide) (by rfl) (pa_cons (pv 0) (pa_cons (pv 2) pa_nil)))) pa_nil))) pa_nil))) pa_nil))))) (pss_one (ps_ret (pv 3))))), ?_⟩)
  intro nn B l Q h
  obtain ⟨m, n, rfl, hm, hn1, hn, h⟩ := h
  refine sx_seq ?_
  refine' sx_setO ?h1 ?_
  case h1 => exact rfl
  walk_at "h"
  refine sx_forGS ?_
  walk_at "v"
  refine ⟨(m : Nat), rfl, by omega, by omega, ?_⟩
  refine ⟨Nat, List.range m, _, List BxT, fun j bs => [.d .pool, .d (.int (m : Nat)), .d (.int (n : Nat)), .own (bs.map boxL), .no], fun j bs => bs.length = j ∧ ∀ b ∈ bs, BOk b, rng1, ⟨[], ⟨rfl, fun _ h => (nomatch h)⟩, Wk.refl⟩, fun B' j x bs hx hs => ?_, fun Γ' bs hs w => sx_weak w ?_⟩
  · obtain ⟨hl, hb⟩ := hs
    obtain ⟨rfl, hj⟩ := rng_get hx
    walk_at "h"
    refine ⟨rfl, fun c hc => ?_⟩
    walk_at "h"
    refine ⟨(n : Nat), rfl, by omega, by omega, fun a h0 h1 => ?_⟩
    walk_at "h"
    obtain ⟨k, hk⟩ : ∃ k : Nat, 1 + a = (k : Int) := ⟨(1 + a).toNat, by omega⟩
    rw [hk]
    refine ⟨k, rfl, by omega, by omega, fun ps hps => ?_⟩
    walk_at "h"
    refine ⟨small1000 (by simp; omega), bs ++ [(c, ps)], ⟨by simp [hl], fun b hb' => ?_⟩, ?_⟩
    · rcases List.mem_append.mp hb' with hb' | hb'
      · exact hb b hb'
      · cases List.mem_singleton.mp hb'
        exact ⟨hc, hps⟩
    · show Wk _ [_, _, _, .own ((bs ++ [(c, ps)]).map boxL), .no]
      rw [List.map_append]
      exact .same (.same (.same (.same (.no .nil))))
  · obtain ⟨hl, hb⟩ := hs
    rw [List.length_range] at hl
    dsimp only
    refine sx_freeze 3 rfl ?_
    walk_at "h"
    exact h bs hl hb

end

end K
end

section
set_option maxRecDepth 100000
set_option maxHeartbeats 4000000
namespace K
open PySem PySem.Spec PyProof.Rows L2 G

theorem x_isp {K : PySem.W.Frag} {a : Addr} {x y : Str} {b : Bool} {Kd : Bool → Prop} (hk : PySem.W.kitOne K (.ref (He.ga K x)) (.ref (He.ga K y)) = some b) (h : Kd b) : ∃ z cv c, [D.adr a, D.cls (He.ga K y)] = [D.adr a, z] ∧ ClsD z cv ∧ PySem.W.kitOne K (.ref (He.ga K x)) cv = some c ∧ Kd c := ⟨_, _, b, rfl, .cls _, hk, h⟩
theorem x_isv {K : PySem.W.Frag} {a : Addr} {x : Str} {n : String} {b : Bool} {Kd : Bool → Prop} (hk : PySem.W.kitOne K (.ref (He.ga K x)) (.type n) = some b) (h : Kd b) : ∃ z cv c, [D.adr a, D.ty n] = [D.adr a, z] ∧ ClsD z cv ∧ PySem.W.kitOne K (.ref (He.ga K x)) cv = some c ∧ Kd c := ⟨_, _, b, rfl, .ty _, hk, h⟩
theorem sx_kindF {K : PySem.W.Frag} {C : Cl} {B : Bs} {Γ : List Sl} {t u : TS} {nx bk ct : List Sl → Prop} {rt : List Sl → D → Prop} {x y : Str} {fns : List Str} {fl : List (Str × D)} {a : Addr} {cls : Value} {d : Option Addr} (er : ErC K x fns) (eo : EOk K C B.P B.kp cls d x fl) (h0 : Γ[0]? = some (.d (.adr a))) (hk : PySem.W.kitOne K (.ref (He.ga K x)) (.ref (He.ga K y)) = some false) (k : SX C B Γ u nx rt bk ct) :
    SX C B Γ (tSeq (tIfS (tB (tCB (rIsP K a cls d) (tCons (tVar 0) (tCons (tC (.ref (He.ga K y))) tNil)))) t tNext) u) nx rt bk ct :=
  sx_skip (tk_B (ek_isP er eo (ak_cons (ek_var h0 (ak_cons (ek_cls (ak_nil ⟨_, _, false, rfl, .cls _, hk, false, rfl, rfl⟩)))))) ) k
theorem sx_kindT {K : PySem.W.Frag} {C : Cl} {B : Bs} {Γ : List Sl} {t u : TS} {nx bk ct : List Sl → Prop} {rt : List Sl → D → Prop} {x y : Str} {fns : List Str} {fl : List (Str × D)} {a : Addr} {cls : Value} {d : Option Addr} (er : ErC K x fns) (eo : EOk K C B.P B.kp cls d x fl) (h0 : Γ[0]? = some (.d (.adr a))) (hk : PySem.W.kitOne K (.ref (He.ga K x)) (.ref (He.ga K y)) = some true) (k : SX C B Γ t (fun Γ' => SX C B Γ' u nx rt bk ct) rt bk ct) :
    SX C B Γ (tSeq (tIfS (tB (tCB (rIsP K a cls d) (tCons (tVar 0) (tCons (tC (.ref (He.ga K y))) tNil)))) t tNext) u) nx rt bk ct :=
  sx_seq (sx_if (tk_B (ek_isP er eo (ak_cons (ek_var h0 (ak_cons (ek_cls (ak_nil ⟨_, _, true, rfl, .cls _, hk, true, rfl, fun _ => k, fun z => nomatch z⟩))))))))
theorem rk_eqS {C : Cl} {B : Bs} {KK : PySem.W.Frag} {K : D → Prop} {s t : Str} {b : Bool} (h1 : PyData.canLay0 (.str s) = true) (h2 : PyData.canLay0 (.str t) = true) (hb : (s == t) = b) (k : K (.bl b)) : RK C B (rEqD KK) (.lst [.str s]) (.lst [.str t]) K :=
  rk_eqD (n := 1) (m := 1) (.lst fun x hx => by cases List.mem_singleton.mp hx; exact .str h1) (.lst fun x hx => by cases List.mem_singleton.mp hx; exact .str h2) (by
    have e : PyData.eqv (pyD (.lst [.str s])) (pyD (.lst [.str t])) = b := by simpa [pyD, pyL, PyData.eqv, PyData.eqvAll] using hb
    rw [e]; exact k)
theorem k_callE {K : PySem.W.Frag} {nn : Hp} {B : Bs} {Q : D → Prop} {Γ : List Sl} {ta : TA} {x : Str} {fl : List (Str × D)} {a : Addr} {cls : Value} {d : Option Addr} {S : Str → List (Str × D) → (D → Prop) → Prop} (eo : EOk K (CL K nn) B.P B.kp cls d x fl) (h : AK (CL K nn) B Γ ta fun l => l = [.adr a] ∧ S x fl Q) : EK (CL K nn) B Γ (tCallE (SpFamE K (CL K) S) a cls d ta) Q := ek_callE (F := CL K) (n := nn) eo h
section
local macro_rules | `(tactic| walk_at "e") => `(tactic| first
  | ((with_reducible refine' ek_var ?h1 ?_); (case h1 => exact rfl))
  | (with_reducible refine ek_int ?_)
  | (with_reducible refine ek_bl ?_)
  | (with_reducible refine ek_non ?_)
  | (with_reducible refine ek_str ?_)
  | (with_reducible refine ek_ty ?_)
  | (with_reducible refine ek_cls ?_)
  | (with_reducible refine ek_ix ?_)
  | (with_reducible refine ek_un ?_)
  | (with_reducible refine ek_tup ?_)
  | (with_reducible refine k_call ?_)
  | (with_reducible refine ek_len ?_)
  | (with_reducible refine ek_tuple ?_)
  | (with_reducible refine ek_sum ?_)
  | (with_reducible refine ek_all ?_)
  | (with_reducible refine ek_any ?_)
  | (with_reducible refine ek_chain ?_)
  | (with_reducible refine ek_andV ?_)
  | (with_reducible refine ek_orV ?_)
  | (with_reducible refine ek_notV ?_)
  | (with_reducible refine ek_if ?_)
  | (with_reducible refine ek_ef (ef_lst ?_))
  | (with_reducible refine ek_ef (ef_list ?_))
  | (with_reducible refine ek_ef (ef_cat ?_))
  | (with_reducible refine ek_ef (ef_rep ?_))
  | (with_reducible refine ek_ef (ef_slice ?_))
  | (with_reducible refine ek_ef (ef_rev ?_))
  | (with_reducible refine ek_ef (ef_lstRev ?_))
  | (with_reducible refine ek_ef (ef_map ?_))
  | (with_reducible refine ek_ef (ef_filt ?_))
  | (with_reducible refine ef_lst ?_)
  | (with_reducible refine ef_list ?_)
  | (with_reducible refine ef_cat ?_)
  | (with_reducible refine ef_rep ?_)
  | (with_reducible refine ef_slice ?_)
  | (with_reducible refine ef_rev ?_)
  | (with_reducible refine ef_lstRev ?_)
  | (with_reducible refine ef_map ?_)
  | (with_reducible refine ef_filt ?_)
  | ((with_reducible refine' el_var ?h1 ?_); (case h1 => exact rfl))
  | ((with_reducible refine' el_own ?h1 ?_); (case h1 => exact rfl))
  | (with_reducible refine el_ef (ef_lst ?_))
  | (with_reducible refine el_ef (ef_list ?_))
  | (with_reducible refine el_ef (ef_cat ?_))
  | (with_reducible refine el_ef (ef_rep ?_))
  | (with_reducible refine el_ef (ef_slice ?_))
  | (with_reducible refine el_ef (ef_rev ?_))
  | (with_reducible refine el_ef (ef_lstRev ?_))
  | (with_reducible refine el_ef (ef_map ?_))
  | (with_reducible refine el_ef (ef_filt ?_))
  | (with_reducible refine ek_op ?_)
  | (with_reducible refine ek_cb ?_)
  | (with_reducible refine el_ek ?_)
  | (with_reducible refine tk_test ?_)
  | (with_reducible refine tk_B ?_)
  | (with_reducible refine tk_and ?_)
  | (with_reducible refine tk_or ?_)
  | (with_reducible refine tk_not ?_)
  | (with_reducible refine tk_yes ?_)
  | (with_reducible refine ak_nil ?_)
  | (with_reducible refine ak_cons ?_)
  | (with_reducible refine k_num (‹Tx _ _›) ?_)
  | (with_reducible refine k_den (‹Tx _ _›) ?_)
  | (with_reducible refine k_mk2 ?_)
  | (with_reducible refine k_mk1 ?_)
  | (with_reducible refine k_bel ?_)
  | (with_reducible refine k_own ?_)
  | (with_reducible refine rk_U2 (k_own ?_))
  | (with_reducible refine rk_mul (Sz.mul (by assumption) (by assumption)) ?_)
  | (with_reducible refine rk_U1 (rk_mul (Sz.mul (by assumption) (by assumption)) ?_))
  | (with_reducible refine ek_dget ?_)
  | (with_reducible refine uk_neg ?_)
  | (with_reducible refine ek_disp ?_)
  | (with_reducible refine pk_cons ?_)
  | (with_reducible refine pk_nil ?_)
  | (with_reducible refine rk_mod (by assumption) ?_)
  | (with_reducible refine rk_add ?_)
  | (with_reducible refine rk_sub ?_)
  | (with_reducible refine rk_lt ?_)
  | (with_reducible refine rk_le ?_)
  | (with_reducible refine rk_gt ?_)
  | (with_reducible refine rk_ge ?_)
  | (with_reducible refine rk_eqI ?_)
  | (with_reducible refine rk_neI ?_)
  | (with_reducible refine rk_isN ?_)
  | (with_reducible refine rk_notN ?_)
  | (with_reducible refine rk_U1 (rk_add ?_))
  | (with_reducible refine rk_U1 (rk_sub ?_))
  | (with_reducible refine ck_gcd ?_)
  | (with_reducible refine ck_abs ?_)
  | (with_reducible refine ck_int ?_)
  | (with_reducible refine ik_seq ?_)
  | (with_reducible refine ik_range1 ?_)
  | (with_reducible refine ik_range2 ?_)
  | (with_reducible refine ik_enumA ?_)
  | (with_reducible refine ik_zip ?_)
  | (with_reducible refine ik_rev ?_)
  | ((with_reducible refine' cg_name ?_ ?h1 ?h2); (case h1 => exact rfl); (case h2 => decide))
  | ((with_reducible refine' cg_anyT ?h1 ?_); (case h1 => exact rfl))
  | ((with_reducible refine' cg_anyL ?h1 ?_); (case h1 => exact rfl))
  | ((with_reducible refine' cg_anyK ?h1 ?_); (case h1 => exact rfl))
  | ((with_reducible refine' cgs_cons ?_ ?h1 ?h2); (case h1 => exact rfl); (case h2 => decide))
  | (with_reducible refine cgs_nil ?_)
  | ((with_reducible refine' gk_name ?_ ?h1); (case h1 => exact rfl))
  | ((with_reducible refine' gk_anyT ?h1 ?_); (case h1 => exact rfl))
  | ((with_reducible refine' gk_anyL ?h1 ?_); (case h1 => exact rfl))
  | ((with_reducible refine' gk_anyK ?h1 ?_); (case h1 => exact rfl))
  | ((with_reducible refine' gks_cons ?_ ?h1); (case h1 => exact rfl))
  | ((with_reducible refine' gks_consA (n := 0) ?_ ?h1 ?h2); (case h1 => exact rfl); (case h2 => exact rfl))
  | ((with_reducible refine' gks_consB ?h0 ?_ ?h1 ?h2); (case h0 => exact rfl); (case h1 => exact rfl); (case h2 => exact rfl))
  | (with_reducible refine gks_nil ?_)
  | (with_reducible refine ok_none ?_)
  | (with_reducible refine ok_some ?_))
local macro_rules | `(tactic| walk_at "s") => `(tactic| first
  | (with_reducible refine sx_guard ?_ ?_)
  | (with_reducible refine sx_seq ?_)
  | ((with_reducible refine' sx_retO ?h1 ?_); (case h1 => exact rfl))
  | (with_reducible refine sx_ret ?_)
  | (with_reducible refine sx_if ?_)
  | (with_reducible refine sx_next ?_)
  | (with_reducible refine sx_break ?_)
  | (with_reducible refine sx_cont ?_)
  | ((with_reducible refine' sx_append ?h1 ?_); (case h1 => exact rfl))
  | ((with_reducible refine' sx_setI ?h1 ?_); (case h1 => exact rfl))
  | ((with_reducible refine' sx_set ?h1 ?_); (case h1 => exact rfl))
  | (with_reducible refine sx_asg ?_)
  | ((with_reducible refine' sx_par ?h1 ?h2 ?_); (case h1 => exact rfl); (case h2 => exact rfl))
  | (with_reducible refine sx_drop ?_)
  | ((with_reducible refine' k_fldS (‹Tx _ _›) ?h1 ?h2 ?h3 ?_); (case h1 => exact rfl); (case h2 => decide); (case h3 => exact rfl)))
/-! plain existentials that the rules leave -/
local macro_rules | `(tactic| walk_at "x") => `(tactic| first
  | (with_reducible refine x_bl ?_)
  | (with_reducible refine x_int ?_)
  | (with_reducible refine x_frac ?_)
  | (with_reducible refine x_lst ?_)
  | (with_reducible refine x_tup ?_)
  | (with_reducible refine x_kd ?_)
  | (with_reducible refine x_oneL ?_)
  | (with_reducible refine x_oneT ?_)
  | (with_reducible refine x_one ?_)
  | ((with_reducible refine' x_at ?h1 ?_); (case h1 => exact rfl))
  | ((with_reducible refine' x_dic ?h1 ?_); (case h1 => exact rfl))
  | (with_reducible refine (⟨rfl, ?_⟩ : Kd.l = Kd.l ∧ _))
  | ((with_reducible refine' x_len ?h1 ?_); (case h1 => exact rfl))
  | ((with_reducible refine' br_t ?h1 ?_); (case h1 => exact rfl))
  | ((with_reducible refine' br_f ?h1 ?_); (case h1 => exact rfl)))
local macro_rules | `(tactic| walk_at "f") => `(tactic| first
  | ((with_reducible refine' sx_forW ?h1 ?_); (case h1 => exact rfl))
  | (with_reducible refine sx_forGW ?_))
local macro_rules | `(tactic| walk_at "g") => `(tactic| repeat (first | walk_at "s" | walk_at "f" | walk_at "e" | walk_at "x"))
local macro_rules | `(tactic| walk_at "v") => `(tactic| repeat (first | walk_at "e" | walk_at "x"))
local macro_rules | `(tactic| walk_at "h") => `(tactic| repeat (first | walk_at "s" | walk_at "e" | walk_at "x"))
variable {P : Program} {w : World} {K : PySem.W.Frag} {mg : Str → Option Value} {base : Heap}

local macro_rules | `(tactic| walk_at "e") => `(tactic| first
  | (with_reducible refine ek_isP ‹_› ‹_› ?_)
  | (with_reducible refine k_callE ‹_› ?_)
  | (with_reducible refine rk_eqS (by decide +kernel) (by decide +kernel) (b := false) (by decide +kernel) ?_)
  | (with_reducible refine rk_eqS (by decide +kernel) (by decide +kernel) (b := true) (by decide +kernel) ?_))
local macro_rules | `(tactic| walk_at "s") => `(tactic| first
  | ((with_reducible refine' sx_kindF ‹_› ‹_› ?h1 ‹_› ?_); (case h1 => exact rfl))
  | ((with_reducible refine' sx_kindT ‹_› ‹_› ?h1 ‹_› ?_); (case h1 => exact rfl)))
local macro_rules | `(tactic| walk_at "x") => `(tactic| first
  | (with_reducible refine x_isp ‹_› ?_)
  | (with_reducible refine x_isv ‹_› ?_))
def S__law_kinds : Str → List (Str × D) → (D → Prop) → Prop := fun x fl K => (x = "InvalidProject" ∧ K (.lst [.str "project"])) ∨ (x = "WrongSize" ∧ K (.lst [.str "size"]))
theorem ok__law_kinds (T : Tx K mg)  : CalE P w K mg base 1 "_law_kinds" ["e"] (SpFamE K (CL K) S__law_kinds) := by
  refine cal_mkE (N := ["e", "told"]) T.g__law_kinds T.d__law_kinds sc__law_kinds (fun _ _ _ _ _ _ us hl => match us, hl with | [_], _ => rfl) (fun f cdv A outer s H E p cls d hz hf hr => ⟨_, (pss_cons (ps_set (i := 1) sc__law_kinds.nd rfl (by first | exact Or.inl rfl | exact Or.inr rfl) (pe_lst pa_nil)) (pss_cons (ps_if (pt_val (pe_callB (cr_isP K rfl List.mem_cons_self hz hf) (by rfl) T.b_isinstance (by decide +kernel) (pa_cons (pv 0) (pa_cons (pe_gcls T.g_InvalidFraction (by rfl)) pa_nil)))) (pss_one (ps_expr (pe_bm PySem.F.plainAttrs_list PySem.F.slot_list_append PySem.F.type_list_append mt_append (pv 1) (pa_cons pe_str pa_nil)))) pss_nil) (pss_cons (ps_if (pt_val (pe_callB (cr_isP K rfl List.mem_cons_self hz hf) (by rfl) T.b_isinstance (by decide +kernel) (pa_cons (pv 0) (pa_cons (pe_gcls T.g_InvalidProject (by rfl)) pa_nil)))) (pss_one (ps_expr (pe_bm PySem.F.plainAttrs_list PySem.F.slot_list_append PySem.F.type_list_append mt_append (pv 1) (pa_cons pe_str pa_nil)))) pss_nil) (pss_cons (ps_if (pt_val (pe_callB (cr_isP K rfl List.mem_cons_self hz hf) (by rfl) T.b_isinstance (by decide +kernel) (pa_cons (pv 0) (pa_cons (pe_gcls T.g_Endless (by rfl)) pa_nil)))) (pss_one (ps_expr (pe_bm PySem.F.plainAttrs_list PySem.F.slot_list_append PySem.F.type_list_append mt_append (pv 1) (pa_cons pe_str pa_nil)))) pss_nil) (pss_cons (ps_if (pt_val (pe_callB (cr_isP K rfl List.mem_cons_self hz hf) (by rfl) T.b_isinstance (by decide +kernel) (pa_cons (pv 0) (pa_cons (pe_gcls T.g_WrongSize (by rfl)) pa_nil)))) (pss_one (ps_expr (pe_bm PySem.F.plainAttrs_list PySem.F.slot_list_append PySem.F.type_list_append mt_append (pv 1) (pa_cons pe_str pa_nil)))) pss_nil) (pss_cons (ps_if (pt_val (pe_callB (cr_isP K rfl List.mem_cons_self hz hf) (by rfl) T.b_isinstance (by decide +kernel) (pa_cons (pv 0) (pa_cons (pe_gcls T.g_InvalidStanding (by rfl)) pa_nil)))) (pss_one (ps_expr (pe_bm PySem.F.plainAttrs_list PySem.F.slot_list_append PySem.F.type_list_append mt_append (pv 1) (pa_cons pe_str pa_nil)))) pss_nil) (pss_cons (ps_if (pt_val (pe_callB (cr_isP K rfl List.mem_cons_self hz hf) (by rfl) T.b_isinstance (by decide +kernel) (pa_cons (pv 0) (pa_cons (pe_gcls T.g_InvalidDeed (by rfl)) pa_nil)))) (pss_one (ps_expr (pe_bm PySem.F.plainAttrs_list PySem.F.slot_list_append PySem.F.type_list_append mt_append (pv 1) (pa_cons pe_str pa_nil)))) pss_nil) (pss_cons (ps_if (pt_val (pe_callB (cr_isP K rfl List.mem_cons_self hz hf) (by rfl) T.b_isinstance (by decide +kernel) (pa_cons (pv 0) (pa_cons (pe_gcls T.g_InvalidPlan (by rfl)) pa_nil)))) (pss_one (ps_expr (pe_bm PySem.F.plainAttrs_list PySem.F.slot_list_append PySem.F.type_list_append mt_append (pv 1) (pa_cons pe_str pa_nil)))) pss_nil) (pss_cons (ps_if (pt_val (pe_callB (cr_isP K rfl List.mem_cons_self hz hf) (by rfl) T.b_isinstance (by decide +kernel) (pa_cons (pv 0) (pa_cons (pe_gcls T.g_NoEnd (by rfl)) pa_nil)))) (pss_one (ps_expr (pe_bm PySem.F.plainAttrs_list PySem.F.slot_list_append PySem.F.type_list_append mt_append (pv 1) (pa_cons pe_str pa_nil)))) pss_nil) (pss_cons (ps_if (pt_val (pe_callB (cr_isP K rfl List.mem_cons_self hz hf) (by rfl) T.b_isinstance (by decide +kernel) (pa_cons (pv 0) (pa_cons (pe_gcls T.g_TooMany (by rfl)) pa_nil)))) (pss_one (ps_expr (pe_bm PySem.F.plainAttrs_list PySem.F.slot_list_append PySem.F.type_list_append mt_append (pv 1) (pa_cons pe_str pa_nil)))) pss_nil) (pss_cons (ps_if (pt_val (pe_callB (cr_isP K rfl List.mem_cons_self hz hf) (by rfl) T.b_isinstance (by decide +kernel) (pa_cons (pv 0) (pa_cons (pe_gcls T.g_InvalidText (by rfl)) pa_nil)))) (pss_one (ps_expr (pe_bm PySem.F.plainAttrs_list PySem.F.slot_list_append PySem.F.type_list_append mt_append (pv 1) (pa_cons pe_str pa_nil)))) pss_nil) (pss_cons (ps_if (pt_val (pe_callB (cr_isP K rfl List.mem_cons_self hz hf) (by rfl) T.b_isinstance (by decide +kernel) (pa_cons (pv 0) (pa_cons (pe_gcls T.g_NothingToUndo (by rfl)) pa_nil)))) (pss_one (ps_expr (pe_bm PySem.F.plainAttrs_list PySem.F.slot_list_append PySem.F.type_list_append mt_append (pv 1) (pa_cons pe_str pa_nil)))) pss_nil) (pss_cons (ps_if (PW.pt (pw_or (pt_val (pe_callB (cr_isP K rfl List.mem_cons_self hz hf) (by rfl) T.b_isinstance (by decide +kernel) (pa_cons (pv 0) (pa_cons (pe_gcls T.g_NoExchange (by rfl)) pa_nil)))) (pw_or (pt_val (pe_callB (cr_isP K rfl List.mem_cons_self hz hf) (by rfl) T.b_isinstance (by decide +kernel) (pa_cons (pv 0) (pa_cons (pe_gcls T.g_InvalidFamily (by rfl)) pa_nil)))) (pw_or1 (pt_val (pe_callB (cr_isP K rfl List.mem_cons_self hz hf) (by rfl) T.b_isinstance (by decide +kernel) (pa_cons (pv 0) (pa_cons (pe_gcls T.g_NotClosed (by rfl)) pa_nil)))))))) (pss_one (ps_expr (pe_bm PySem.F.plainAttrs_list PySem.F.slot_list_append PySem.F.type_list_append mt_append (pv 1) (pa_cons pe_str pa_nil)))) pss_nil) (pss_cons (ps_if (PW.pt (pw_or (pt_val (pe_callB (cr_isP K rfl List.mem_cons_self hz hf) (by rfl) T.b_isinstance (by decide +kernel) (pa_cons (pv 0) (pa_cons (pe_gcls T.g_NotNested (by rfl)) pa_nil)))) (pw_or1 (pt_val (pe_callB (cr_isP K rfl List.mem_cons_self hz hf) (by rfl) T.b_isinstance (by decide +kernel) (pa_cons (pv 0) (pa_cons (pe_gcls T.g_InvalidCertificate (by rfl)) pa_nil))))))) (pss_one (ps_expr (pe_bm PySem.F.plainAttrs_list PySem.F.slot_list_append PySem.F.type_list_append mt_append (pv 1) (pa_cons pe_str pa_nil)))) pss_nil) (pss_cons (ps_if (pt_not (pt_val (pe_callB (cr_isP K rfl List.mem_cons_self hz hf) (by rfl) T.b_isinstance (by decide +kernel) (pa_cons (pv 0) (pa_cons (pe_bltn (v := .ty "ValueError") (by rfl) T.b_ValueError (by decide +kernel) rfl) pa_nil))))) (pss_one (ps_expr (pe_bm PySem.F.plainAttrs_list PySem.F.slot_list_append PySem.F.type_list_append mt_append (pv 1) (pa_cons pe_str pa_nil)))) pss_nil) (pss_one (ps_ret (pv 1)))))))))))))))))), ?_⟩)
  intro nn B x fl Q eo h
  refine sx_seq ?_
  refine' sx_setO ?h1 ?_
  case h1 => exact rfl
  rcases h with ⟨rfl, h⟩ | ⟨rfl, h⟩
  · have er := T.er_InvalidProject
    have k0 := T.kx_InvalidProject_InvalidFraction
    have k1 := T.kx_InvalidProject_InvalidProject
    have k2 := T.kx_InvalidProject_Endless
    have k3 := T.kx_InvalidProject_WrongSize
    have k4 := T.kx_InvalidProject_InvalidStanding
    have k5 := T.kx_InvalidProject_InvalidDeed
    have k6 := T.kx_InvalidProject_InvalidPlan
    have k7 := T.kx_InvalidProject_NoEnd
    have k8 := T.kx_InvalidProject_TooMany
    have k9 := T.kx_InvalidProject_InvalidText
    have k10 := T.kx_InvalidProject_NothingToUndo
    have k11 := T.kx_InvalidProject_NoExchange
    have k12 := T.kx_InvalidProject_InvalidFamily
    have k13 := T.kx_InvalidProject_NotClosed
    have k14 := T.kx_InvalidProject_NotNested
    have k15 := T.kx_InvalidProject_InvalidCertificate
    have kv := T.kev_InvalidProject
    walk_at "h"
    refine ⟨small1000 (by decide), ?_⟩
    walk_at "h"
    exact h
  · have er := T.er_WrongSize
    have k0 := T.kx_WrongSize_InvalidFraction
    have k1 := T.kx_WrongSize_InvalidProject
    have k2 := T.kx_WrongSize_Endless
    have k3 := T.kx_WrongSize_WrongSize
    have k4 := T.kx_WrongSize_InvalidStanding
    have k5 := T.kx_WrongSize_InvalidDeed
    have k6 := T.kx_WrongSize_InvalidPlan
    have k7 := T.kx_WrongSize_NoEnd
    have k8 := T.kx_WrongSize_TooMany
    have k9 := T.kx_WrongSize_InvalidText
    have k10 := T.kx_WrongSize_NothingToUndo
    have k11 := T.kx_WrongSize_NoExchange
    have k12 := T.kx_WrongSize_InvalidFamily
    have k13 := T.kx_WrongSize_NotClosed
    have k14 := T.kx_WrongSize_NotNested
    have k15 := T.kx_WrongSize_InvalidCertificate
    have kv := T.kev_WrongSize
    walk_at "h"
    refine ⟨small1000 (by decide), ?_⟩
    walk_at "h"
    exact h

def S__law_said : Str → List (Str × D) → (D → Prop) → Prop := fun x fl K => (∃ v, x = "InvalidProject" ∧ fl = [(("state" : Str), v)] ∧ K (.lst [.str "project", v])) ∨ (∃ v, x = "WrongSize" ∧ fl = [(("many" : Str), v)] ∧ K (.lst [.str "size", v]))
theorem ok__law_said (T : Tx K mg) (c__law_kinds : CalE P w K mg base 1 "_law_kinds" ["e"] (SpFamE K (CL K) S__law_kinds)) : CalE P w K mg base 2 "_law_said" ["e"] (SpFamE K (CL K) S__law_said) := by
  refine cal_mkE (N := ["e", "kinds"]) T.g__law_said T.d__law_said sc__law_said (fun _ _ _ _ _ _ us hl => match us, hl with | [_], _ => rfl) (fun f cdv A outer s H E p cls d hz hf hr => ⟨_, (pss_cons (ps_set (i := 1) sc__law_said.nd rfl (by first | exact Or.inl rfl | exact Or.inr rfl) (pe_calS c__law_kinds hr (by decide) List.mem_cons_self hz hf (by rfl) (pa_cons (pv 0) pa_nil))) (pss_cons (ps_if (pt_cmpR (op_eqDH rfl hr) (pv 1) (pe_lst (pa_cons pe_str pa_nil)) (nomark _)) (pss_one (ps_ret (pe_lst (pa_cons pe_str (pa_cons (pe_xg K rfl List.mem_cons_self hz hf (pv 0)) pa_nil))))) pss_nil) (pss_cons (ps_if (pt_cmpR (op_eqDH rfl hr) (pv 1) (pe_lst (pa_cons pe_str pa_nil)) (nomark _)) (pss_one (ps_ret (pe_lst (pa_cons pe_str (pa_cons (pe_xg K rfl List.mem_cons_self hz hf (pv 0)) pa_nil))))) pss_nil) (pss_cons (ps_if (pt_cmpR (op_eqDH rfl hr) (pv 1) (pe_lst (pa_cons pe_str pa_nil)) (nomark _)) (pss_one (ps_ret (pe_lst (pa_cons pe_str (pa_cons (pe_xg K rfl List.mem_cons_self hz hf (pv 0)) pa_nil))))) pss_nil) (pss_cons (ps_if (pt_cmpR (op_eqDH rfl hr) (pv 1) (pe_lst (pa_cons pe_str pa_nil)) (nomark _)) (pss_one (ps_ret (pe_lst (pa_cons pe_str (pa_cons (pe_xg K rfl List.mem_cons_self hz hf (pv 0)) pa_nil))))) pss_nil) (pss_cons (ps_if (pt_cmpR (op_eqDH rfl hr) (pv 1) (pe_lst (pa_cons pe_str pa_nil)) (nomark _)) (pss_one (ps_ret (pe_lst (pa_cons pe_str (pa_cons (pe_xg K rfl List.mem_cons_self hz hf (pv 0)) pa_nil))))) pss_nil) (pss_cons (ps_if (pt_cmpR (op_eqDH rfl hr) (pv 1) (pe_lst (pa_cons pe_str pa_nil)) (nomark _)) (pss_one (ps_ret (pe_lst (pa_cons pe_str (pa_cons (pe_xg K rfl List.mem_cons_self hz hf (pv 0)) pa_nil))))) pss_nil) (pss_cons (ps_if (pt_cmpR (op_eqDH rfl hr) (pv 1) (pe_lst (pa_cons pe_str pa_nil)) (nomark _)) (pss_one (ps_ret (pe_lst (pa_cons pe_str (pa_cons (pe_xg K rfl List.mem_cons_self hz hf (pv 0)) pa_nil))))) pss_nil) (pss_cons (ps_if (pt_cmpR (op_eqDH rfl hr) (pv 1) (pe_lst (pa_cons pe_str pa_nil)) (nomark _)) (pss_one (ps_ret (pe_lst (pa_cons pe_str (pa_cons (pe_xg K rfl List.mem_cons_self hz hf (pv 0)) pa_nil))))) pss_nil) (pss_cons (ps_if (pt_cmpR (op_eqDH rfl hr) (pv 1) (pe_lst (pa_cons pe_str pa_nil)) (nomark _)) (pss_one (ps_ret (pe_lst (pa_cons pe_str (pa_cons (pe_xg K rfl List.mem_cons_self hz hf (pv 0)) (pa_cons (pe_xg K rfl List.mem_cons_self hz hf (pv 0)) pa_nil)))))) pss_nil) (pss_cons (ps_if (pt_cmpR (op_eqDH rfl hr) (pv 1) (pe_lst (pa_cons pe_str pa_nil)) (nomark _)) (pss_one (ps_ret (pe_lst (pa_cons pe_str (pa_cons (pe_xg K rfl List.mem_cons_self hz hf (pv 0)) pa_nil))))) pss_nil) (pss_one (ps_ret (pe_lst (pa_cons pe_str (pa_cons (pv 1) pa_nil)))))))))))))))), ?_⟩)
  intro nn B x fl Q eo h
  rcases h with ⟨v, rfl, rfl, h⟩ | ⟨v, rfl, rfl, h⟩
  · have er := T.er_InvalidProject
    walk_at "h"
    refine ⟨rfl, .inl ⟨rfl, ?_⟩⟩
    walk_at "h"
    refine ek_xg er (by decide) eo rfl ?_
    walk_at "h"
    exact ⟨rfl, by first | exact h | (walk_at "h"; exact h)⟩
  · have er := T.er_WrongSize
    walk_at "h"
    refine ⟨rfl, .inr ⟨rfl, ?_⟩⟩
    walk_at "h"
    refine ek_xg er (by decide) eo rfl ?_
    walk_at "h"
    exact ⟨rfl, by first | exact h | (walk_at "h"; exact h)⟩

end

end K
end

section
set_option maxRecDepth 100000
set_option maxHeartbeats 4000000
namespace K
open PySem PySem.Spec PyProof.Rows L2 G

def likeB (a : D) : D → Bool
  | .non => (match a with | .non => true | _ => false)
  | .bl b => (match a with | .bl c => decide (c = b) | _ => false)
  | .int i => (match a with | .int j => decide (j = i) | _ => false)
  | _ => false
theorem x_kinds {P : Prop} (h : P) : P := h
section
local macro_rules | `(tactic| walk_at "e") => `(tactic| first
  | ((with_reducible refine' ek_var ?h1 ?_); (case h1 => exact rfl))
  | (with_reducible refine ek_int ?_)
  | (with_reducible refine ek_bl ?_)
  | (with_reducible refine ek_non ?_)
  | (with_reducible refine ek_str ?_)
  | (with_reducible refine ek_ty ?_)
  | (with_reducible refine ek_cls ?_)
  | (with_reducible refine ek_ix ?_)
  | (with_reducible refine ek_un ?_)
  | (with_reducible refine ek_tup ?_)
  | (with_reducible refine k_call ?_)
  | (with_reducible refine ek_len ?_)
  | (with_reducible refine ek_tuple ?_)
  | (with_reducible refine ek_sum ?_)
  | (with_reducible refine ek_all ?_)
  | (with_reducible refine ek_any ?_)
  | (with_reducible refine ek_chain ?_)
  | (with_reducible refine ek_andV ?_)
  | (with_reducible refine ek_orV ?_)
  | (with_reducible refine ek_notV ?_)
  | (with_reducible refine ek_if ?_)
  | (with_reducible refine ek_ef (ef_lst ?_))
  | (with_reducible refine ek_ef (ef_list ?_))
  | (with_reducible refine ek_ef (ef_cat ?_))
  | (with_reducible refine ek_ef (ef_rep ?_))
  | (with_reducible refine ek_ef (ef_slice ?_))
  | (with_reducible refine ek_ef (ef_rev ?_))
  | (with_reducible refine ek_ef (ef_lstRev ?_))
  | (with_reducible refine ek_ef (ef_map ?_))
  | (with_reducible refine ek_ef (ef_filt ?_))
  | (with_reducible refine ef_lst ?_)
  | (with_reducible refine ef_list ?_)
  | (with_reducible refine ef_cat ?_)
  | (with_reducible refine ef_rep ?_)
  | (with_reducible refine ef_slice ?_)
  | (with_reducible refine ef_rev ?_)
  | (with_reducible refine ef_lstRev ?_)
  | (with_reducible refine ef_map ?_)
  | (with_reducible refine ef_filt ?_)
  | ((with_reducible refine' el_var ?h1 ?_); (case h1 => exact rfl))
  | ((with_reducible refine' el_own ?h1 ?_); (case h1 => exact rfl))
  | (with_reducible refine el_ef (ef_lst ?_))
  | (with_reducible refine el_ef (ef_list ?_))
  | (with_reducible refine el_ef (ef_cat ?_))
  | (with_reducible refine el_ef (ef_rep ?_))
  | (with_reducible refine el_ef (ef_slice ?_))
  | (with_reducible refine el_ef (ef_rev ?_))
  | (with_reducible refine el_ef (ef_lstRev ?_))
  | (with_reducible refine el_ef (ef_map ?_))
  | (with_reducible refine el_ef (ef_filt ?_))
  | (with_reducible refine ek_op ?_)
  | (with_reducible refine ek_cb ?_)
  | (with_reducible refine el_ek ?_)
  | (with_reducible refine tk_test ?_)
  | (with_reducible refine tk_B ?_)
  | (with_reducible refine tk_and ?_)
  | (with_reducible refine tk_or ?_)
  | (with_reducible refine tk_not ?_)
  | (with_reducible refine tk_yes ?_)
  | (with_reducible refine ak_nil ?_)
  | (with_reducible refine ak_cons ?_)
  | (with_reducible refine k_num (‹Tx _ _›) ?_)
  | (with_reducible refine k_den (‹Tx _ _›) ?_)
  | (with_reducible refine k_mk2 ?_)
  | (with_reducible refine k_mk1 ?_)
  | (with_reducible refine k_bel ?_)
  | (with_reducible refine k_own ?_)
  | (with_reducible refine rk_U2 (k_own ?_))
  | (with_reducible refine rk_mul (Sz.mul (by assumption) (by assumption)) ?_)
  | (with_reducible refine rk_U1 (rk_mul (Sz.mul (by assumption) (by assumption)) ?_))
  | (with_reducible refine ek_dget ?_)
  | (with_reducible refine uk_neg ?_)
  | (with_reducible refine ek_disp ?_)
  | (with_reducible refine pk_cons ?_)
  | (with_reducible refine pk_nil ?_)
  | (with_reducible refine rk_mod (by assumption) ?_)
  | (with_reducible refine rk_add ?_)
  | (with_reducible refine rk_sub ?_)
  | (with_reducible refine rk_lt ?_)
  | (with_reducible refine rk_le ?_)
  | (with_reducible refine rk_gt ?_)
  | (with_reducible refine rk_ge ?_)
  | (with_reducible refine rk_eqI ?_)
  | (with_reducible refine rk_neI ?_)
  | (with_reducible refine rk_isN ?_)
  | (with_reducible refine rk_notN ?_)
  | (with_reducible refine rk_U1 (rk_add ?_))
  | (with_reducible refine rk_U1 (rk_sub ?_))
  | (with_reducible refine ck_gcd ?_)
  | (with_reducible refine ck_abs ?_)
  | (with_reducible refine ck_int ?_)
  | (with_reducible refine ik_seq ?_)
  | (with_reducible refine ik_range1 ?_)
  | (with_reducible refine ik_range2 ?_)
  | (with_reducible refine ik_enumA ?_)
  | (with_reducible refine ik_zip ?_)
  | (with_reducible refine ik_rev ?_)
  | ((with_reducible refine' cg_name ?_ ?h1 ?h2); (case h1 => exact rfl); (case h2 => decide))
  | ((with_reducible refine' cg_anyT ?h1 ?_); (case h1 => exact rfl))
  | ((with_reducible refine' cg_anyL ?h1 ?_); (case h1 => exact rfl))
  | ((with_reducible refine' cg_anyK ?h1 ?_); (case h1 => exact rfl))
  | ((with_reducible refine' cgs_cons ?_ ?h1 ?h2); (case h1 => exact rfl); (case h2 => decide))
  | (with_reducible refine cgs_nil ?_)
  | ((with_reducible refine' gk_name ?_ ?h1); (case h1 => exact rfl))
  | ((with_reducible refine' gk_anyT ?h1 ?_); (case h1 => exact rfl))
  | ((with_reducible refine' gk_anyL ?h1 ?_); (case h1 => exact rfl))
  | ((with_reducible refine' gk_anyK ?h1 ?_); (case h1 => exact rfl))
  | ((with_reducible refine' gks_cons ?_ ?h1); (case h1 => exact rfl))
  | ((with_reducible refine' gks_consA (n := 0) ?_ ?h1 ?h2); (case h1 => exact rfl); (case h2 => exact rfl))
  | ((with_reducible refine' gks_consB ?h0 ?_ ?h1 ?h2); (case h0 => exact rfl); (case h1 => exact rfl); (case h2 => exact rfl))
  | (with_reducible refine gks_nil ?_)
  | (with_reducible refine ok_none ?_)
  | (with_reducible refine ok_some ?_))
local macro_rules | `(tactic| walk_at "s") => `(tactic| first
  | (with_reducible refine sx_guard ?_ ?_)
  | (with_reducible refine sx_seq ?_)
  | ((with_reducible refine' sx_retO ?h1 ?_); (case h1 => exact rfl))
  | (with_reducible refine sx_ret ?_)
  | (with_reducible refine sx_if ?_)
  | (with_reducible refine sx_next ?_)
  | (with_reducible refine sx_break ?_)
  | (with_reducible refine sx_cont ?_)
  | ((with_reducible refine' sx_append ?h1 ?_); (case h1 => exact rfl))
  | ((with_reducible refine' sx_setI ?h1 ?_); (case h1 => exact rfl))
  | ((with_reducible refine' sx_set ?h1 ?_); (case h1 => exact rfl))
  | (with_reducible refine sx_asg ?_)
  | ((with_reducible refine' sx_par ?h1 ?h2 ?_); (case h1 => exact rfl); (case h2 => exact rfl))
  | (with_reducible refine sx_drop ?_)
  | ((with_reducible refine' k_fldS (‹Tx _ _›) ?h1 ?h2 ?h3 ?_); (case h1 => exact rfl); (case h2 => decide); (case h3 => exact rfl)))
/-! plain existentials that the rules leave -/
local macro_rules | `(tactic| walk_at "x") => `(tactic| first
  | (with_reducible refine x_bl ?_)
  | (with_reducible refine x_int ?_)
  | (with_reducible refine x_frac ?_)
  | (with_reducible refine x_lst ?_)
  | (with_reducible refine x_tup ?_)
  | (with_reducible refine x_kd ?_)
  | (with_reducible refine x_oneL ?_)
  | (with_reducible refine x_oneT ?_)
  | (with_reducible refine x_one ?_)
  | ((with_reducible refine' x_at ?h1 ?_); (case h1 => exact rfl))
  | ((with_reducible refine' x_dic ?h1 ?_); (case h1 => exact rfl))
  | (with_reducible refine (⟨rfl, ?_⟩ : Kd.l = Kd.l ∧ _))
  | ((with_reducible refine' x_len ?h1 ?_); (case h1 => exact rfl))
  | ((with_reducible refine' br_t ?h1 ?_); (case h1 => exact rfl))
  | ((with_reducible refine' br_f ?h1 ?_); (case h1 => exact rfl)))
local macro_rules | `(tactic| walk_at "f") => `(tactic| first
  | ((with_reducible refine' sx_forW ?h1 ?_); (case h1 => exact rfl))
  | (with_reducible refine sx_forGW ?_))
local macro_rules | `(tactic| walk_at "g") => `(tactic| repeat (first | walk_at "s" | walk_at "f" | walk_at "e" | walk_at "x"))
local macro_rules | `(tactic| walk_at "v") => `(tactic| repeat (first | walk_at "e" | walk_at "x"))
local macro_rules | `(tactic| walk_at "h") => `(tactic| repeat (first | walk_at "s" | walk_at "e" | walk_at "x"))
variable {P : Program} {w : World} {K : PySem.W.Frag} {mg : Str → Option Value} {base : Heap}

def S__law_like_0 : List D → (D → Prop) → Prop := fun l K => ∃ a d : D, l = [a, d] ∧ Kn a ∧ ((∃ i, d = .int i) ∨ ∃ b, d = .bl b) ∧ K (.bl (likeB a d))
theorem ok__law_like_0 (T : Tx K mg)  : Cal P w K mg base 1 "_law_like" ["actual", "due"] (SpFam (CL K) S__law_like_0) := by
  refine cal_mkF (N := ["actual", "due", "k"]) T.g__law_like T.d__law_like sc__law_like (fun _ _ _ _ _ _ us hl => match us, hl with | [_, _], _ => rfl) (by intro l Q h; first | (obtain ⟨rfl, _⟩ := h; rfl) | (obtain ⟨_, rfl, _⟩ := h; rfl) | (obtain ⟨_, _, rfl, _⟩ := h; rfl) | (obtain ⟨_, _, _, rfl, _⟩ := h; rfl) | (obtain ⟨_, _, _, _, rfl, _⟩ := h; rfl) | (obtain ⟨_, _, _, _, _, rfl, _⟩ := h; rfl) | (obtain ⟨_, _, _, _, _, _, rfl, _⟩ := h; rfl) | (obtain ⟨_, _, _, _, _, _, _, rfl, _⟩ := h; rfl) | (obtain ⟨_, _, _, _, _, _, _, _, rfl, _⟩ := h; rfl) | (obtain ⟨_, _, _, _, _, _, _, _, _, rfl, _⟩ := h; rfl) | (obtain ⟨_, _, _, _, _, _, _, _, _, _, rfl, _⟩ := h; rfl) | (obtain ⟨_, _, _, _, _, _, _, _, _, _, _, rfl, _⟩ := h; rfl)) (fun f cdv A outer s H E hr => ⟨_, (pss_cons (ps_if (pt_val (pe_callB (cr_isK K rfl) (by rfl) T.b_isinstance (by decide +kernel) (pa_cons (pv 1) (pa_cons (pe_bltn (v := .ty "tuple") (by rfl) T.b_tuple (by decide +kernel) rfl) pa_nil)))) (pss_cons ps_never (pss_cons ps_never (pss_one (ps_ret pe_bl)))) pss_nil) (pss_cons (ps_if (pt_cmpR op_isNon (pv 1) pe_non (nomark _)) (pss_one (ps_ret (pe_cmpR op_isNon (pv 0) pe_non (nomark _)))) pss_nil) (pss_cons (ps_if (pt_val (pe_callB (cr_isK K rfl) (by rfl) T.b_isinstance (by decide +kernel) (pa_cons (pv 1) (pa_cons (pe_bltn (v := .ty "bool") (by rfl) T.b_bool (by decide +kernel) rfl) pa_nil)))) (pss_one (ps_ret (pe_and (pe_callB (cr_isK K rfl) (by rfl) T.b_isinstance (by decide +kernel) (pa_cons (pv 0) (pa_cons (pe_bltn (v := .ty "bool") (by rfl) T.b_bool (by decide +kernel) rfl) pa_nil))) (pe_one (pe_cmpR op_eq (pv 0) (pv 1) (nomark _)))))) pss_nil) (pss_cons (ps_if (pt_val (pe_callB (cr_isK K rfl) (by rfl) T.b_isinstance (by decide +kernel) (pa_cons (pv 1) (pa_cons (pe_bltn (v := .ty "int") (by rfl) T.b_int (by decide +kernel) rfl) pa_nil)))) (pss_one (ps_ret (pe_and (pe_callB (cr_isK K rfl) (by rfl) T.b_isinstance (by decide +kernel) (pa_cons (pv 0) (pa_cons (pe_bltn (v := .ty "int") (by rfl) T.b_int (by decide +kernel) rfl) pa_nil))) (pe_and (pe_not (pe_callB (cr_isK K rfl) (by rfl) T.b_isinstance (by decide +kernel) (pa_cons (pv 0) (pa_cons (pe_bltn (v := .ty "bool") (by rfl) T.b_bool (by decide +kernel) rfl) pa_nil)))) (pe_one (pe_cmpR op_eq (pv 0) (pv 1) (nomark _))))))) pss_nil) (pss_one (ps_ret (pe_and (pe_callB (cr_isK K rfl) (by rfl) T.b_isinstance (by decide +kernel) (pa_cons (pv 0) (pa_cons (pe_bltn (v := .ty "str") (by rfl) T.b_str (by decide +kernel) rfl) pa_nil))) (pe_one (pe_cmpR op_eq (pv 0) (pv 1) (nomark _)))))))))), ?_⟩)
  intro nn B l Q h
  obtain ⟨a, d, rfl, kn, hd, h⟩ := h
  rcases hd with ⟨i, rfl⟩ | ⟨b, rfl⟩
  · refine sx_skip ?_ ?_
    · walk_at "h"
      refine ck_ty T (.int _) (.inr (.inr (.inr (.inl rfl)))) ?_
      walk_at "h"
      rfl
    walk_at "h"
    refine ck_ty T (.int _) (.inr (.inl rfl)) ?_
    walk_at "h"
    refine ck_ty T (.int _) (.inl rfl) ?_
    walk_at "h"
    refine ck_ty T kn (.inl rfl) ?_
    cases kn <;> (walk_at "h"; try exact h)
    · refine ck_ty T (.bl _) (.inr (.inl rfl)) ?_
      walk_at "h"
      exact h
    · refine ck_ty T (.int _) (.inr (.inl rfl)) ?_
      walk_at "h"
      exact h
  · refine sx_skip ?_ ?_
    · walk_at "h"
      refine ck_ty T (.bl _) (.inr (.inr (.inr (.inl rfl)))) ?_
      walk_at "h"
      rfl
    walk_at "h"
    refine ck_ty T (.bl _) (.inr (.inl rfl)) ?_
    walk_at "h"
    refine ck_ty T kn (.inr (.inl rfl)) ?_
    cases kn <;> (walk_at "h"; try exact h)
    refine rk_eq (v1 := .bl _) (v2 := .bl b) rfl rfl rfl ?_
    rw [show decide (V.bl _ = V.bl b) = decide (_ = b) from decide_eq_decide.mpr ⟨fun z => by injection z, fun z => by rw [z]⟩]
    exact h

def S__law_ask : List D → (D → Prop) → Prop := fun l K => ∃ d, l = [d] ∧ KnR d ∧ (seqOf d = none → K (.lst [.str "project", .non])) ∧ ∀ xs, seqOf d = some xs → (¬ (1 ≤ xs.length ∧ xs.length ≤ 4) → K (.lst [.str "size", .int (xs.length : Nat)])) ∧ (1 ≤ xs.length → xs.length ≤ 4 → (∀ i x, (∀ j y, j < i → xs[j]? = some y → boxB y = true) → xs[i]? = some x → boxB x = false → K (.lst [.str "project", .int (i : Nat)])) ∧ ((∀ x ∈ xs, boxB x = true) → K (.lst [.str "given", boxesD (xs.map rowT)])))
theorem ok__law_ask (T : Tx K mg) (m_Boxes1 : CalM P w K mg base 9 "Boxes" [] (SpFamIX K (CL K) (He.ga K "Boxes") S_BoxesD_initD)) (c__law_said : CalE P w K mg base 2 "_law_said" ["e"] (SpFamE K (CL K) S__law_said)) : Cal P w K mg base 11 "_law_ask" ["rows"] (SpFam (CL K) S__law_ask) := by
  refine cal_mkF (N := ["rows", "e"]) T.g__law_ask T.d__law_ask sc__law_ask (fun _ _ _ _ _ _ us hl => match us, hl with | [_], _ => rfl) (by intro l Q h; first | (obtain ⟨rfl, _⟩ := h; rfl) | (obtain ⟨_, rfl, _⟩ := h; rfl) | (obtain ⟨_, _, rfl, _⟩ := h; rfl) | (obtain ⟨_, _, _, rfl, _⟩ := h; rfl) | (obtain ⟨_, _, _, _, rfl, _⟩ := h; rfl) | (obtain ⟨_, _, _, _, _, rfl, _⟩ := h; rfl) | (obtain ⟨_, _, _, _, _, _, rfl, _⟩ := h; rfl) | (obtain ⟨_, _, _, _, _, _, _, rfl, _⟩ := h; rfl) | (obtain ⟨_, _, _, _, _, _, _, _, rfl, _⟩ := h; rfl) | (obtain ⟨_, _, _, _, _, _, _, _, _, rfl, _⟩ := h; rfl) | (obtain ⟨_, _, _, _, _, _, _, _, _, _, rfl, _⟩ := h; rfl) | (obtain ⟨_, _, _, _, _, _, _, _, _, _, _, rfl, _⟩ := h; rfl)) (fun f cdv A outer s H E hr => ⟨_, (pss_one (ps_tryE K rfl 1 rfl rfl sc__law_ask.nd rfl rfl (by rfl) (by decide) T.g_NextError (fun W pn xe tk => (pss_one (ps_ret (pe_lst (pa_cons pe_str (pa_cons (pe_mkX K rfl m_Boxes1 hr (by decide) (passT rfl tk) (by rfl) (pa_cons (pv 0) pa_nil)) pa_nil)))))) (fun a oe cls d pn hz hf => (pss_one (ps_ret (pe_calS c__law_said (roomM hr) (by decide) List.mem_cons_self hz hf (by rfl) (pa_cons (pv 1) pa_nil))))))), ?_⟩)
  intro nn B l Q h
  obtain ⟨d, rfl, kn, h1, h2⟩ := h
  refine sx_try (m := 2) (fun x fl => (∃ v, x = "InvalidProject" ∧ fl = [(("state" : Str), v)] ∧ Q (.lst [.str "project", v])) ∨ ∃ v, x = "WrongSize" ∧ fl = [(("many" : Str), v)] ∧ Q (.lst [.str "size", v])) (by decide) (fun x fl hx => ?_) (fun W o => ?_) (fun W1 x fl a cls d' hx eo => ?_)
  · rcases hx with ⟨v, rfl, _⟩ | ⟨v, rfl, _⟩
    · exact T.exm_InvalidProject
    · exact T.exm_WrongSize
  · walk_at "h"
    refine k_mkB o ?_
    walk_at "h"
    refine ⟨_, rfl, kn, fun z => .inl ⟨_, rfl, rfl, h1 z⟩, fun xs hxs => ⟨fun z => .inr ⟨_, rfl, rfl, (h2 xs hxs).1 z⟩, fun z1 z2 => ⟨fun i x g1 g2 g3 => .inl ⟨_, rfl, rfl, ((h2 xs hxs).2 z1 z2).1 i x g1 g2 g3⟩, fun g => ?_⟩⟩⟩
    walk_at "h"
    exact ((h2 xs hxs).2 z1 z2).2 g
  · refine sx_ret ?_
    refine ek_callE (F := CL K) (n := nn) (x := x) (fl := fl) eo ?_
    refine ak_cons (ek_var rfl (ak_nil ⟨rfl, ?_⟩))
    exact hx

def S__law_plain : List D → (D → Prop) → Prop := fun l K => ∃ bs : List BxT, l = [.lst (bs.map boxL)] ∧ bs.length ≤ 8 ∧ (∀ b ∈ bs, b.2.length ≤ 8) ∧ K (.lst (bs.map fun b => .tup [lowD b.1, .tup (b.2.map pairL)]))
theorem ok__law_plain (T : Tx K mg)  : Cal P w K mg base 1 "_law_plain" ["boxes"] (SpFam (CL K) S__law_plain) := by
  refine cal_mkF (N := ["boxes", "box"]) T.g__law_plain T.d__law_plain sc__law_plain (fun _ _ _ _ _ _ us hl => match us, hl with | [_], _ => rfl) (by intro l Q h; first | (obtain ⟨rfl, _⟩ := h; rfl) | (obtain ⟨_, rfl, _⟩ := h; rfl) | (obtain ⟨_, _, rfl, _⟩ := h; rfl) | (obtain ⟨_, _, _, rfl, _⟩ := h; rfl) | (obtain ⟨_, _, _, _, rfl, _⟩ := h; rfl) | (obtain ⟨_, _, _, _, _, rfl, _⟩ := h; rfl) | (obtain ⟨_, _, _, _, _, _, rfl, _⟩ := h; rfl) | (obtain ⟨_, _, _, _, _, _, _, rfl, _⟩ := h; rfl) | (obtain ⟨_, _, _, _, _, _, _, _, rfl, _⟩ := h; rfl) | (obtain ⟨_, _, _, _, _, _, _, _, _, rfl, _⟩ := h; rfl) | (obtain ⟨_, _, _, _, _, _, _, _, _, _, rfl, _⟩ := h; rfl) | (obtain ⟨_, _, _, _, _, _, _, _, _, _, _, rfl, _⟩ := h; rfl)) (fun f cdv A outer s H E hr => ⟨_, (pss_one (ps_ret (pe_lc (own := [("box", 1)]) (g := gName 1) (tt := tYes) rfl sc__law_plain.nd (pi_seqK K rfl (pv 0)) (blkOk_by (own := [("box", 1)]) (N := ["boxes", "box"]) (sc := defScope s__law_plain) (by decide +kernel)) (fun _ _ _ _ _ => (pg_name (i := 1) sc__law_plain.nd rfl (by first | exact Or.inl rfl | exact Or.inr rfl))) (fun _ _ _ _ _ => pts_nil) (fun _ _ _ _ _ => (pe_tup (pa_cons (pe_ix (ix_seqK K rfl) (pv 1) pe_int (fun _ _ => rfl)) (pa_cons (pe_callTy (cr_tupK K rfl) (by rfl) T.b_tuple (by decide +kernel) (pa_cons (pe_ix (ix_seqK K rfl) (pv 1) pe_int (fun _ _ => rfl)) pa_nil)) pa_nil))))))), ?_⟩)
  intro nn B l Q h
  obtain ⟨bs, rfl, hl, hb, h⟩ := h
  walk_at "h"
  refine ⟨BxT, bs, boxL, fun b => .tup [lowD b.1, .tup (b.2.map pairL)], rfl, Nat.le_of_lt (small1000 (by omega)), fun W1 b hm => ?_, h⟩
  unfold boxL
  walk_at "h"
  rfl

end

end K
end

section
set_option maxRecDepth 100000
set_option maxHeartbeats 4000000
namespace K
open PySem PySem.Spec PyProof.Rows L2 G

inductive All2 {α β : Type} (R : α → β → Prop) : List α → List β → Prop where
  | nil : All2 R [] []
  | cons {a : α} {b : β} {l : List α} {m : List β} (h : R a b) (t : All2 R l m) : All2 R (a :: l) (b :: m)
theorem All2.length {α β : Type} {R : α → β → Prop} : ∀ {l : List α} {m : List β}, All2 R l m → l.length = m.length
  | _, _, .nil => rfl
  | _, _, .cons _ t => congrArg Nat.succ t.length
theorem All2.snoc {α β : Type} {R : α → β → Prop} {a : α} {b : β} (h : R a b) : ∀ {l : List α} {m : List β}, All2 R l m → All2 R (l ++ [a]) (m ++ [b])
  | _, _, .nil => .cons h .nil
  | _, _, .cons q t => .cons q (t.snoc h)
theorem All2.get {α β : Type} {R : α → β → Prop} : ∀ {l : List α} {m : List β} {i : Nat} {a : α}, All2 R l m → l[i]? = some a → ∃ b, m[i]? = some b ∧ R a b
  | _, _, _, _, .nil, h => by simp at h
  | _, _, 0, _, .cons h _, e => by simp at e; subst e; exact ⟨_, rfl, h⟩
  | _, _, i + 1, _, .cons _ t, e => by
    obtain ⟨b, h1, h2⟩ := t.get (i := i) (by simpa using e)
    exact ⟨b, by simpa using h1, h2⟩
theorem All2.getR {α β : Type} {R : α → β → Prop} : ∀ {l : List α} {m : List β} {i : Nat} {b : β}, All2 R l m → m[i]? = some b → ∃ a, l[i]? = some a ∧ R a b
  | _, _, _, _, .nil, h => by simp at h
  | _, _, 0, _, .cons h _, e => by simp at e; subst e; exact ⟨_, rfl, h⟩
  | _, _, i + 1, _, .cons _ t, e => by
    obtain ⟨b, h1, h2⟩ := t.getR (i := i) (by simpa using e)
    exact ⟨b, by simpa using h1, h2⟩
theorem All2.map {α β γ : Type} {R : α → β → Prop} {f : α → γ} {g : β → γ} : ∀ {l : List α} {m : List β}, All2 R l m → (∀ a b, R a b → b ∈ m → f a = g b) → l.map f = m.map g
  | _, _, .nil, _ => rfl
  | _, _, .cons h t, k => by
    rw [List.map_cons, List.map_cons, k _ _ h List.mem_cons_self, All2.map (f := f) (g := g) t fun a b r hb => k a b r (List.mem_cons_of_mem _ hb)]
/-- a pair as given -/
structure Cell where
  k : Kd
  x : D
  w : Int
  q : Rat
@[reducible] def Cell.d (c : Cell) : D := Kd.d c.k [.int c.w, c.x]
def Cell.p (c : Cell) : Int × Rat := (c.w, c.q)
/-- a box as given -/
def GvR (d : D) (b : BxT) : Prop := ∃ (k k2 : Kd) (c : D) (cs : List Cell), d = Kd.d k [c, Kd.d k2 (cs.map Cell.d)] ∧ AmtD c b.1 ∧ cs.map Cell.p = b.2 ∧ ∀ e ∈ cs, AmtD e.x e.q
theorem amt_ok {d : D} {q : Rat} (h : AmtD d q) (w : WOk q) : amtB d = true ∧ valA d = q := by
  obtain ⟨h1, h2⟩ := amt_b h
  refine ⟨?_, h2⟩
  rw [h1]
  have := w.nn; have := w.n1; have := w.d1
  exact decide_eq_true ⟨by omega, by omega, by omega⟩
theorem amt_kn {d : D} {q : Rat} (h : AmtD d q) (w : SzQ q) : KnR d := by
  rcases h with ⟨i, rfl, _⟩ | rfl
  · exact .int i
  · exact .frac w
theorem worthA_cell (e : Cell) : worthA e.d = valA e.x := by unfold worthA Cell.d; rw [seqOf_kd]
theorem weightA_cell (e : Cell) : weightA e.d = .int e.w := by unfold weightA Cell.d; rw [seqOf_kd]
theorem asc_pw {ws : List Rat} (h : ws.Pairwise (· < ·)) : ascB ws = true := by
  unfold ascB
  rw [List.all_eq_true]
  intro k hk
  have hk := List.mem_range.mp hk
  have := List.pairwise_iff_getElem.mp h k (k + 1) (by omega) (by omega) (by omega)
  simp only [decide_eq_true_eq]
  rw [List.getD_eq_getElem?_getD, List.getD_eq_getElem?_getD, List.getElem?_eq_getElem (show k < ws.length by omega), List.getElem?_eq_getElem (show k + 1 < ws.length by omega)]
  exact this
theorem cells_p {cs : List Cell} {ps : List (Int × Rat)} (h : cs.map Cell.p = ps) (ok : PsOk ps) (ha : ∀ e ∈ cs, AmtD e.x e.q) : ∀ e ∈ cs, amtB e.x = true ∧ valA e.x = e.q ∧ 1 ≤ e.w ∧ e.w ≤ 99 ∧ WOk e.q := fun e he => by
  have hp : e.p ∈ ps := by rw [← h]; exact List.mem_map_of_mem he
  obtain ⟨a1, a2⟩ := amt_ok (ha e he) (ok.ok _ hp)
  exact ⟨a1, a2, ok.w1 _ hp, ok.w2 _ hp, ok.ok _ hp⟩
theorem prizes_ok {cs : List Cell} {ps : List (Int × Rat)} {k : Kd} (h : cs.map Cell.p = ps) (ok : PsOk ps) (ha : ∀ e ∈ cs, AmtD e.x e.q) : prizesB (Kd.d k (cs.map Cell.d)) = true ∧ (cs.map Cell.d).map pairT = ps.map pairR := by
  have hc := cells_p h ok ha
  have hl : cs.length = ps.length := by rw [← h, List.length_map]
  have l1 := ok.l1
  have l4 := ok.l4
  have ew : (cs.map Cell.d).map worthA = ps.map (·.2) := by
    rw [← h, List.map_map, List.map_map]
    exact List.map_congr_left fun e he => by
      show worthA e.d = e.q
      rw [worthA_cell]; exact (hc e he).2.1
  refine ⟨?_, ?_⟩
  · unfold prizesB
    rw [seqOf_kd]
    dsimp only
    rw [ew, asc_pw ok.asc, Bool.and_true, List.length_map, decide_eq_true (show 1 ≤ cs.length by omega), decide_eq_true (show cs.length ≤ 4 by omega), Bool.true_and, Bool.true_and, List.all_eq_true]
    intro x hx
    obtain ⟨e, he, rfl⟩ := List.mem_map.mp hx
    obtain ⟨a1, a2, a3, a4, a5⟩ := hc e he
    unfold shownB Cell.d
    rw [seqOf_kd]
    dsimp only
    rw [a1, a2, decide_eq_true a5.nn, Bool.and_true, Bool.and_true]
    exact decide_eq_true ⟨a3, a4⟩
  · rw [← h, List.map_map, List.map_map]
    refine List.map_congr_left fun e he => ?_
    show pairT e.d = pairR e.p
    unfold pairT
    rw [weightA_cell, worthA_cell, (hc e he).2.1]; rfl
theorem gv_ok {d : D} {b : BxT} (h : GvR d b) (ok : BOk b) : boxB d = true ∧ rowT d = boxR b := by
  obtain ⟨k, k2, c, cs, rfl, h1, h2, h3⟩ := h
  obtain ⟨p1, p2⟩ := prizes_ok (k := k2) h2 ok.p h3
  obtain ⟨c1, c2⟩ := amt_ok h1 ok.c
  refine ⟨?_, ?_⟩
  · unfold boxB
    rw [seqOf_kd]
    dsimp only
    rw [c1, c2, p1, decide_eq_true ok.c.nn]; rfl
  · unfold rowT
    rw [seqOf_kd]
    dsimp only
    unfold seqL boxR
    rw [seqOf_kd, c2]
    show D.tup [.frac b.1, .tup ((cs.map Cell.d).map pairT)] = _
    rw [p2]
theorem gv_kn {d : D} {b : BxT} (h : GvR d b) (ok : BOk b) : KnR d := by
  obtain ⟨k, k2, c, cs, rfl, h1, h2, h3⟩ := h
  have hc := cells_p h2 ok.p h3
  have hl : cs.length = b.2.length := by rw [← h2, List.length_map]
  have := ok.p.l4
  refine .kd (fun x hx => ?_) (by simp)
  simp only [List.mem_cons, List.not_mem_nil, or_false] at hx
  rcases hx with rfl | rfl
  · exact amt_kn h1 ok.c.sz
  · refine .kd (fun x hx => ?_) (by rw [List.length_map]; omega)
    obtain ⟨e, he, rfl⟩ := List.mem_map.mp hx
    refine .kd (fun x hx => ?_) (by simp)
    simp only [List.mem_cons, List.not_mem_nil, or_false] at hx
    rcases hx with rfl | rfl
    · exact .int _
    · exact amt_kn (h3 e he) (hc e he).2.2.2.2.sz
theorem gvs_ok {ds : List D} {bs : List BxT} (h : All2 GvR ds bs) (ok : ∀ b ∈ bs, BOk b) : (∀ x ∈ ds, boxB x = true) ∧ ds.map rowT = bs.map boxR ∧ ∀ x ∈ ds, KnR x := by
  refine ⟨fun x hx => ?_, h.map fun a b r hb => (gv_ok r (ok b hb)).2, fun x hx => ?_⟩
  · obtain ⟨i, hi⟩ := List.mem_iff_getElem?.mp hx
    obtain ⟨b, hb, r⟩ := h.get hi
    exact (gv_ok r (ok b (List.mem_of_getElem? hb))).1
  · obtain ⟨i, hi⟩ := List.mem_iff_getElem?.mp hx
    obtain ⟨b, hb, r⟩ := h.get hi
    exact gv_kn r (ok b (List.mem_of_getElem? hb))
theorem pairL_at0 (p : Int × Rat) : atI [D.int p.1, lowD p.2] 0 = some (.int p.1) := rfl
section
local macro_rules | `(tactic| walk_at "e") => `(tactic| first
  | ((with_reducible refine' ek_var ?h1 ?_); (case h1 => exact rfl))
  | (with_reducible refine ek_int ?_)
  | (with_reducible refine ek_bl ?_)
  | (with_reducible refine ek_non ?_)
  | (with_reducible refine ek_str ?_)
  | (with_reducible refine ek_ty ?_)
  | (with_reducible refine ek_cls ?_)
  | (with_reducible refine ek_ix ?_)
  | (with_reducible refine ek_un ?_)
  | (with_reducible refine ek_tup ?_)
  | (with_reducible refine k_call ?_)
  | (with_reducible refine ek_len ?_)
  | (with_reducible refine ek_tuple ?_)
  | (with_reducible refine ek_sum ?_)
  | (with_reducible refine ek_all ?_)
  | (with_reducible refine ek_any ?_)
  | (with_reducible refine ek_chain ?_)
  | (with_reducible refine ek_andV ?_)
  | (with_reducible refine ek_orV ?_)
  | (with_reducible refine ek_notV ?_)
  | (with_reducible refine ek_if ?_)
  | (with_reducible refine ek_ef (ef_lst ?_))
  | (with_reducible refine ek_ef (ef_list ?_))
  | (with_reducible refine ek_ef (ef_cat ?_))
  | (with_reducible refine ek_ef (ef_rep ?_))
  | (with_reducible refine ek_ef (ef_slice ?_))
  | (with_reducible refine ek_ef (ef_rev ?_))
  | (with_reducible refine ek_ef (ef_lstRev ?_))
  | (with_reducible refine ek_ef (ef_map ?_))
  | (with_reducible refine ek_ef (ef_filt ?_))
  | (with_reducible refine ef_lst ?_)
  | (with_reducible refine ef_list ?_)
  | (with_reducible refine ef_cat ?_)
  | (with_reducible refine ef_rep ?_)
  | (with_reducible refine ef_slice ?_)
  | (with_reducible refine ef_rev ?_)
  | (with_reducible refine ef_lstRev ?_)
  | (with_reducible refine ef_map ?_)
  | (with_reducible refine ef_filt ?_)
  | ((with_reducible refine' el_var ?h1 ?_); (case h1 => exact rfl))
  | ((with_reducible refine' el_own ?h1 ?_); (case h1 => exact rfl))
  | (with_reducible refine el_ef (ef_lst ?_))
  | (with_reducible refine el_ef (ef_list ?_))
  | (with_reducible refine el_ef (ef_cat ?_))
  | (with_reducible refine el_ef (ef_rep ?_))
  | (with_reducible refine el_ef (ef_slice ?_))
  | (with_reducible refine el_ef (ef_rev ?_))
  | (with_reducible refine el_ef (ef_lstRev ?_))
  | (with_reducible refine el_ef (ef_map ?_))
  | (with_reducible refine el_ef (ef_filt ?_))
  | (with_reducible refine ek_op ?_)
  | (with_reducible refine ek_cb ?_)
  | (with_reducible refine el_ek ?_)
  | (with_reducible refine tk_test ?_)
  | (with_reducible refine tk_B ?_)
  | (with_reducible refine tk_and ?_)
  | (with_reducible refine tk_or ?_)
  | (with_reducible refine tk_not ?_)
  | (with_reducible refine tk_yes ?_)
  | (with_reducible refine ak_nil ?_)
  | (with_reducible refine ak_cons ?_)
  | (with_reducible refine k_num (‹Tx _ _›) ?_)
  | (with_reducible refine k_den (‹Tx _ _›) ?_)
  | (with_reducible refine k_mk2 ?_)
  | (with_reducible refine k_mk1 ?_)
  | (with_reducible refine k_bel ?_)
  | (with_reducible refine k_own ?_)
  | (with_reducible refine rk_U2 (k_own ?_))
  | (with_reducible refine rk_mul (Sz.mul (by assumption) (by assumption)) ?_)
  | (with_reducible refine rk_U1 (rk_mul (Sz.mul (by assumption) (by assumption)) ?_))
  | (with_reducible refine ek_dget ?_)
  | (with_reducible refine uk_neg ?_)
  | (with_reducible refine ek_disp ?_)
  | (with_reducible refine pk_cons ?_)
  | (with_reducible refine pk_nil ?_)
  | (with_reducible refine rk_mod (by assumption) ?_)
  | (with_reducible refine rk_add ?_)
  | (with_reducible refine rk_sub ?_)
  | (with_reducible refine rk_lt ?_)
  | (with_reducible refine rk_le ?_)
  | (with_reducible refine rk_gt ?_)
  | (with_reducible refine rk_ge ?_)
  | (with_reducible refine rk_eqI ?_)
  | (with_reducible refine rk_neI ?_)
  | (with_reducible refine rk_isN ?_)
  | (with_reducible refine rk_notN ?_)
  | (with_reducible refine rk_U1 (rk_add ?_))
  | (with_reducible refine rk_U1 (rk_sub ?_))
  | (with_reducible refine ck_gcd ?_)
  | (with_reducible refine ck_abs ?_)
  | (with_reducible refine ck_int ?_)
  | (with_reducible refine ik_seq ?_)
  | (with_reducible refine ik_range1 ?_)
  | (with_reducible refine ik_range2 ?_)
  | (with_reducible refine ik_enumA ?_)
  | (with_reducible refine ik_zip ?_)
  | (with_reducible refine ik_rev ?_)
  | ((with_reducible refine' cg_name ?_ ?h1 ?h2); (case h1 => exact rfl); (case h2 => decide))
  | ((with_reducible refine' cg_anyT ?h1 ?_); (case h1 => exact rfl))
  | ((with_reducible refine' cg_anyL ?h1 ?_); (case h1 => exact rfl))
  | ((with_reducible refine' cg_anyK ?h1 ?_); (case h1 => exact rfl))
  | ((with_reducible refine' cgs_cons ?_ ?h1 ?h2); (case h1 => exact rfl); (case h2 => decide))
  | (with_reducible refine cgs_nil ?_)
  | ((with_reducible refine' gk_name ?_ ?h1); (case h1 => exact rfl))
  | ((with_reducible refine' gk_anyT ?h1 ?_); (case h1 => exact rfl))
  | ((with_reducible refine' gk_anyL ?h1 ?_); (case h1 => exact rfl))
  | ((with_reducible refine' gk_anyK ?h1 ?_); (case h1 => exact rfl))
  | ((with_reducible refine' gks_cons ?_ ?h1); (case h1 => exact rfl))
  | ((with_reducible refine' gks_consA (n := 0) ?_ ?h1 ?h2); (case h1 => exact rfl); (case h2 => exact rfl))
  | ((with_reducible refine' gks_consB ?h0 ?_ ?h1 ?h2); (case h0 => exact rfl); (case h1 => exact rfl); (case h2 => exact rfl))
  | (with_reducible refine gks_nil ?_)
  | (with_reducible refine ok_none ?_)
  | (with_reducible refine ok_some ?_))
local macro_rules | `(tactic| walk_at "s") => `(tactic| first
  | (with_reducible refine sx_guard ?_ ?_)
  | (with_reducible refine sx_seq ?_)
  | ((with_reducible refine' sx_retO ?h1 ?_); (case h1 => exact rfl))
  | (with_reducible refine sx_ret ?_)
  | (with_reducible refine sx_if ?_)
  | (with_reducible refine sx_next ?_)
  | (with_reducible refine sx_break ?_)
  | (with_reducible refine sx_cont ?_)
  | ((with_reducible refine' sx_append ?h1 ?_); (case h1 => exact rfl))
  | ((with_reducible refine' sx_setI ?h1 ?_); (case h1 => exact rfl))
  | ((with_reducible refine' sx_set ?h1 ?_); (case h1 => exact rfl))
  | (with_reducible refine sx_asg ?_)
  | ((with_reducible refine' sx_par ?h1 ?h2 ?_); (case h1 => exact rfl); (case h2 => exact rfl))
  | (with_reducible refine sx_drop ?_)
  | ((with_reducible refine' k_fldS (‹Tx _ _›) ?h1 ?h2 ?h3 ?_); (case h1 => exact rfl); (case h2 => decide); (case h3 => exact rfl)))
/-! plain existentials that the rules leave -/
local macro_rules | `(tactic| walk_at "x") => `(tactic| first
  | (with_reducible refine x_bl ?_)
  | (with_reducible refine x_int ?_)
  | (with_reducible refine x_frac ?_)
  | (with_reducible refine x_lst ?_)
  | (with_reducible refine x_tup ?_)
  | (with_reducible refine x_kd ?_)
  | (with_reducible refine x_oneL ?_)
  | (with_reducible refine x_oneT ?_)
  | (with_reducible refine x_one ?_)
  | ((with_reducible refine' x_at ?h1 ?_); (case h1 => exact rfl))
  | ((with_reducible refine' x_dic ?h1 ?_); (case h1 => exact rfl))
  | (with_reducible refine (⟨rfl, ?_⟩ : Kd.l = Kd.l ∧ _))
  | ((with_reducible refine' x_len ?h1 ?_); (case h1 => exact rfl))
  | ((with_reducible refine' br_t ?h1 ?_); (case h1 => exact rfl))
  | ((with_reducible refine' br_f ?h1 ?_); (case h1 => exact rfl)))
local macro_rules | `(tactic| walk_at "f") => `(tactic| first
  | ((with_reducible refine' sx_forW ?h1 ?_); (case h1 => exact rfl))
  | (with_reducible refine sx_forGW ?_))
local macro_rules | `(tactic| walk_at "g") => `(tactic| repeat (first | walk_at "s" | walk_at "f" | walk_at "e" | walk_at "x"))
local macro_rules | `(tactic| walk_at "v") => `(tactic| repeat (first | walk_at "e" | walk_at "x"))
local macro_rules | `(tactic| walk_at "h") => `(tactic| repeat (first | walk_at "s" | walk_at "e" | walk_at "x"))
variable {P : Program} {w : World} {K : PySem.W.Frag} {mg : Str → Option Value} {base : Heap}

def S__law_rows : List D → (D → Prop) → Prop := fun l K => ∃ bs : List BxT, l = [.pool, .lst (bs.map boxL)] ∧ bs.length ≤ 8 ∧ (∀ b ∈ bs, BOk b) ∧ ∀ ds, All2 GvR ds bs → K (.lst ds)
theorem ok__law_rows (T : Tx K mg) (c__law_hand : Cal P w K mg base 4 "_law_hand" ["pool", "pair"] (SpFam (CL K) S__law_hand)) (c__law_take : Cal P w K mg base 1 "_law_take" ["pool", "many"] (SpFam (CL K) S__law_take)) : Cal P w K mg base 5 "_law_rows" ["pool", "boxes"] (SpFam (CL K) S__law_rows) := by
  refine cal_mkF (N := ["pool", "boxes", "rows", "box", "prizes", "prize"]) T.g__law_rows T.d__law_rows sc__law_rows (fun _ _ _ _ _ _ us hl => match us, hl with | [_, _], _ => rfl) (by intro l Q h; first | (obtain ⟨rfl, _⟩ := h; rfl) | (obtain ⟨_, rfl, _⟩ := h; rfl) | (obtain ⟨_, _, rfl, _⟩ := h; rfl) | (obtain ⟨_, _, _, rfl, _⟩ := h; rfl) | (obtain ⟨_, _, _, _, rfl, _⟩ := h; rfl) | (obtain ⟨_, _, _, _, _, rfl, _⟩ := h; rfl) | (obtain ⟨_, _, _, _, _, _, rfl, _⟩ := h; rfl) | (obtain ⟨_, _, _, _, _, _, _, rfl, _⟩ := h; rfl) | (obtain ⟨_, _, _, _, _, _, _, _, rfl, _⟩ := h; rfl) | (obtain ⟨_, _, _, _, _, _, _, _, _, rfl, _⟩ := h; rfl) | (obtain ⟨_, _, _, _, _, _, _, _, _, _, rfl, _⟩ := h; rfl) | (obtain ⟨_, _, _, _, _, _, _, _, _, _, _, rfl, _⟩ := h; rfl)) (fun f cdv A outer s H E hr => ⟨_, (pss_cons (ps_set (i := 2) sc__law_rows.nd rfl (by first | exact Or.inl rfl | exact Or.inr rfl) (pe_lst pa_nil)) (pss_cons (ps_for PassesOwn.never rfl (pi_seqK K rfl (pv 1)) (pg_name (i := 3) sc__law_rows.nd rfl (by first | exact Or.inl rfl | exact Or.inr rfl)) (pss_cons (ps_set (i := 4) sc__law_rows.nd rfl (by first | exact Or.inl rfl | exact Or.inr rfl) (pe_lst pa_nil)) (pss_cons (ps_for PassesOwn.never rfl (pi_seqK K rfl (pe_ix (ix_seqK K rfl) (pv 3) pe_int (fun _ _ => rfl))) (pg_name (i := 5) sc__law_rows.nd rfl (by first | exact Or.inl rfl | exact Or.inr rfl)) (pss_one (ps_expr (pe_bm PySem.F.plainAttrs_list PySem.F.slot_list_append PySem.F.type_list_append mt_append (pv 4) (pa_cons (pe_lst (pa_cons (pe_ix (ix_seqK K rfl) (pv 5) pe_int (fun _ _ => rfl)) (pa_cons (pe_calC c__law_hand hr (by decide) (by rfl) (pa_cons (pv 0) (pa_cons (pe_ix (ix_seqK K rfl) (pv 5) pe_int (fun _ _ => rfl)) pa_nil))) pa_nil))) pa_nil))))) (pss_one (ps_if (pt_cmpR op_eq (pe_calC c__law_take hr (by decide) (by rfl) (pa_cons (pv 0) (pa_cons pe_int pa_nil))) pe_int (nomark _)) (pss_one (ps_expr (pe_bm PySem.F.plainAttrs_list PySem.F.slot_list_append PySem.F.type_list_append mt_append (pv 2) (pa_cons (pe_lst (pa_cons (pe_calC c__law_hand hr (by decide) (by rfl) (pa_cons (pv 0) (pa_cons (pe_ix (ix_seqK K rfl) (pv 3) pe_int (fun _ _ => rfl)) pa_nil))) (pa_cons (pv 4) pa_nil))) pa_nil)))) (pss_one (ps_expr (pe_bm PySem.F.plainAttrs_list PySem.F.slot_list_append PySem.F.type_list_append mt_append (pv 2) (pa_cons (pe_tup (pa_cons (pe_calC c__law_hand hr (by decide) (by rfl) (pa_cons (pv 0) (pa_cons (pe_ix (ix_seqK K rfl) (pv 3) pe_int (fun _ _ => rfl)) pa_nil))) (pa_cons (pe_callTy (cr_tupK K rfl) (by rfl) T.b_tuple (by decide +kernel) (pa_cons (pe_lc (own := [("prize", 5)]) (g := gName 5) (tt := tYes) rfl sc__law_rows.nd (pi_seqK K rfl (pv 4)) (blkOk_by (own := [("prize", 5)]) (N := ["pool", "boxes", "rows", "box", "prizes", "prize"]) (sc := defScope s__law_rows) (by decide +kernel)) (fun _ _ _ _ _ => (pg_name (i := 5) sc__law_rows.nd rfl (by first | exact Or.inl rfl | exact Or.inr rfl))) (fun _ _ _ _ _ => pts_nil) (fun _ _ _ _ _ => (pe_callTy (cr_tupK K rfl) (by rfl) T.b_tuple (by decide +kernel) (pa_cons (pv 5) pa_nil)))) pa_nil)) pa_nil))) pa_nil))))))))) (pss_one (ps_ret (pv 2))))), ?_⟩)
  intro nn B l Q h
  obtain ⟨bs, rfl, hl, ok, h⟩ := h
  refine sx_seq ?_
  refine' sx_setO ?h1 ?_
  case h1 => exact rfl
  walk_at "h"
  refine sx_forGS ?_
  walk_at "v"
  refine ⟨BxT, bs, boxL, List D, fun j ds => [.d .pool, .d (.lst (bs.map boxL)), .own ds, .no, .no, .no], fun j ds => All2 GvR ds (bs.take j), rfl, ⟨[], .nil, Wk.refl⟩, fun B' j b ds hb hds => ?_, fun Γ' ds hds w => sx_weak w ?_⟩
  · have okb := ok b (List.mem_of_getElem? hb)
    have hl4 := okb.p.l4
    have hdl := hds.length
    rw [List.length_take] at hdl
    have htk : bs.take (j + 1) = bs.take j ++ [b] := by rw [List.take_succ, hb]; rfl
    walk_at "v"
    refine sx_seq ?_
    refine' sx_setO ?h1 ?_
    case h1 => exact rfl
    walk_at "h"
    refine sx_forGS ?_
    unfold boxL
    walk_at "v"
    refine ⟨Int × Rat, b.2, pairL, List Cell, fun i cs => [.d .pool, .d (.lst (bs.map boxL)), .own ds, .d (boxL b), .own (cs.map Cell.d), .no], fun i cs => cs.map Cell.p = b.2.take i ∧ ∀ e ∈ cs, AmtD e.x e.q ∧ e.k = .l, rfl, ⟨[], ⟨rfl, fun _ h => (nomatch h)⟩, .same (.same (.same (.same (.same (.same .nil)))))⟩, fun B2 i p cs hp hcs => ?_, fun Γ2 cs hcs w => sx_weak w ?_⟩
    · obtain ⟨c1, c2⟩ := hcs
      have hcl : cs.length ≤ b.2.length := by
        have := congrArg List.length c1
        rw [List.length_map, List.length_take] at this; omega
      have okp := okb.p.ok p (List.mem_of_getElem? hp)
      unfold pairL
      walk_at "h"
      refine ⟨p.2, rfl, okp.sz, fun x hx => ?_⟩
      walk_at "h"
      refine ⟨small1000 (by rw [List.length_map]; omega), cs ++ [⟨.l, x, p.1, p.2⟩], ⟨?_, fun e he => ?_⟩, ?_⟩
      · rw [List.map_append, c1, List.take_succ, hp]; rfl
      · rcases List.mem_append.mp he with he | he
        · exact c2 e he
        · cases List.mem_singleton.mp he
          exact ⟨hx, rfl⟩
      · dsimp only
        rw [List.map_append]
        exact .same (.same (.same (.same (.same (.no .nil)))))
    · obtain ⟨c1, c2⟩ := hcs
      rw [List.take_length] at c1
      have hcl : cs.length = b.2.length := by rw [← c1, List.length_map]
      dsimp only
      refine sx_freeze 4 rfl ?_
      walk_at "h"
      refine ⟨2, rfl, by decide, by decide, fun m m0 m1 => ?_⟩
      walk_at "h"
      refine br_p (fun _ => ?_) (fun _ => ?_)
      · unfold boxL
        walk_at "h"
        refine ⟨b.1, rfl, okb.c.sz, fun c hc => ?_⟩
        walk_at "h"
        refine ⟨small1000 (by omega), ds ++ [D.lst [c, D.lst (cs.map Cell.d)]], ?_, ?_⟩
        rotate_left
        · exact .same (.same (.same (.no (.no (.no .nil)))))
        rw [htk]
        exact hds.snoc ⟨.l, .l, c, cs, rfl, hc, c1, fun e he => (c2 e he).1⟩
      · unfold boxL
        walk_at "h"
        refine ⟨b.1, rfl, okb.c.sz, fun c hc => ?_⟩
        walk_at "h"
        refine ⟨Cell, cs, Cell.d, fun e => .tup [.int e.w, e.x], rfl, Nat.le_of_lt (small1000 (by omega)), fun W1 e he => ?_, ?_⟩
        · have ek := (c2 e he).2
          unfold Cell.d
          rw [ek]
          walk_at "h"
          rfl
        walk_at "h"
        refine ⟨small1000 (by omega), ds ++ [D.tup [c, D.tup ((cs.map fun e => (⟨.t, e.x, e.w, e.q⟩ : Cell)).map Cell.d)]], ?_, ?_⟩
        · rw [htk]
          refine hds.snoc ⟨.t, .t, c, _, rfl, hc, ?_, fun e he => ?_⟩
          · rw [List.map_map]; exact c1
          · obtain ⟨e2, he2, rfl⟩ := List.mem_map.mp he
            exact (c2 e2 he2).1
        · rw [List.map_map]
          exact .same (.same (.same (.no (.no (.no .nil)))))
  · dsimp only at hds
    rw [List.take_length] at hds
    dsimp only
    walk_at "h"
    exact h ds hds

end

end K
end

section
set_option maxRecDepth 100000
set_option maxHeartbeats 4000000
namespace K
open PySem PySem.Spec PyProof.Rows L2 G

theorem All2.mono {α β : Type} {R S : α → β → Prop} (k : ∀ a b, R a b → S a b) : ∀ {l : List α} {m : List β}, All2 R l m → All2 S l m
  | _, _, .nil => .nil
  | _, _, .cons h t => .cons (k _ _ h) (t.mono k)
/-- a box as given, in lists that may change -/
def RowC (rest : List (Addr × List D)) (d : D) (b : BxT) : Prop := (GvR d b ∧ ∃ t, d = .tup t) ∨ ∃ (r p : Addr) (c : D) (cs : List Cell), d = .adr r ∧ (r, [c, .adr p]) ∈ rest ∧ (p, cs.map Cell.d) ∈ rest ∧ AmtD c b.1 ∧ cs.map Cell.p = b.2 ∧ ∀ e ∈ cs, AmtD e.x e.q ∧ e.k = .l
theorem RowC.mono {rest rest' : List (Addr × List D)} (h : ∀ q ∈ rest, q ∈ rest') {d : D} {b : BxT} (r : RowC rest d b) : RowC rest' d b := by
  rcases r with r | ⟨r, p, c, cs, h1, h2, h3, h4⟩
  · exact .inl r
  · exact .inr ⟨r, p, c, cs, h1, h _ h2, h _ h3, h4⟩
section
local macro_rules | `(tactic| walk_at "e") => `(tactic| first
  | ((with_reducible refine' ek_var ?h1 ?_); (case h1 => exact rfl))
  | (with_reducible refine ek_int ?_)
  | (with_reducible refine ek_bl ?_)
  | (with_reducible refine ek_non ?_)
  | (with_reducible refine ek_str ?_)
  | (with_reducible refine ek_ty ?_)
  | (with_reducible refine ek_cls ?_)
  | (with_reducible refine ek_ix ?_)
  | (with_reducible refine ek_un ?_)
  | (with_reducible refine ek_tup ?_)
  | (with_reducible refine k_call ?_)
  | (with_reducible refine ek_len ?_)
  | (with_reducible refine ek_tuple ?_)
  | (with_reducible refine ek_sum ?_)
  | (with_reducible refine ek_all ?_)
  | (with_reducible refine ek_any ?_)
  | (with_reducible refine ek_chain ?_)
  | (with_reducible refine ek_andV ?_)
  | (with_reducible refine ek_orV ?_)
  | (with_reducible refine ek_notV ?_)
  | (with_reducible refine ek_if ?_)
  | (with_reducible refine ek_ef (ef_lst ?_))
  | (with_reducible refine ek_ef (ef_list ?_))
  | (with_reducible refine ek_ef (ef_cat ?_))
  | (with_reducible refine ek_ef (ef_rep ?_))
  | (with_reducible refine ek_ef (ef_slice ?_))
  | (with_reducible refine ek_ef (ef_rev ?_))
  | (with_reducible refine ek_ef (ef_lstRev ?_))
  | (with_reducible refine ek_ef (ef_map ?_))
  | (with_reducible refine ek_ef (ef_filt ?_))
  | (with_reducible refine ef_lst ?_)
  | (with_reducible refine ef_list ?_)
  | (with_reducible refine ef_cat ?_)
  | (with_reducible refine ef_rep ?_)
  | (with_reducible refine ef_slice ?_)
  | (with_reducible refine ef_rev ?_)
  | (with_reducible refine ef_lstRev ?_)
  | (with_reducible refine ef_map ?_)
  | (with_reducible refine ef_filt ?_)
  | ((with_reducible refine' el_var ?h1 ?_); (case h1 => exact rfl))
  | ((with_reducible refine' el_own ?h1 ?_); (case h1 => exact rfl))
  | (with_reducible refine el_ef (ef_lst ?_))
  | (with_reducible refine el_ef (ef_list ?_))
  | (with_reducible refine el_ef (ef_cat ?_))
  | (with_reducible refine el_ef (ef_rep ?_))
  | (with_reducible refine el_ef (ef_slice ?_))
  | (with_reducible refine el_ef (ef_rev ?_))
  | (with_reducible refine el_ef (ef_lstRev ?_))
  | (with_reducible refine el_ef (ef_map ?_))
  | (with_reducible refine el_ef (ef_filt ?_))
  | (with_reducible refine ek_op ?_)
  | (with_reducible refine ek_cb ?_)
  | (with_reducible refine el_ek ?_)
  | (with_reducible refine tk_test ?_)
  | (with_reducible refine tk_B ?_)
  | (with_reducible refine tk_and ?_)
  | (with_reducible refine tk_or ?_)
  | (with_reducible refine tk_not ?_)
  | (with_reducible refine tk_yes ?_)
  | (with_reducible refine ak_nil ?_)
  | (with_reducible refine ak_cons ?_)
  | (with_reducible refine k_num (‹Tx _ _›) ?_)
  | (with_reducible refine k_den (‹Tx _ _›) ?_)
  | (with_reducible refine k_mk2 ?_)
  | (with_reducible refine k_mk1 ?_)
  | (with_reducible refine k_bel ?_)
  | (with_reducible refine k_own ?_)
  | (with_reducible refine rk_U2 (k_own ?_))
  | (with_reducible refine rk_mul (Sz.mul (by assumption) (by assumption)) ?_)
  | (with_reducible refine rk_U1 (rk_mul (Sz.mul (by assumption) (by assumption)) ?_))
  | (with_reducible refine ek_dget ?_)
  | (with_reducible refine uk_neg ?_)
  | (with_reducible refine ek_disp ?_)
  | (with_reducible refine pk_cons ?_)
  | (with_reducible refine pk_nil ?_)
  | (with_reducible refine rk_mod (by assumption) ?_)
  | (with_reducible refine rk_add ?_)
  | (with_reducible refine rk_sub ?_)
  | (with_reducible refine rk_lt ?_)
  | (with_reducible refine rk_le ?_)
  | (with_reducible refine rk_gt ?_)
  | (with_reducible refine rk_ge ?_)
  | (with_reducible refine rk_eqI ?_)
  | (with_reducible refine rk_neI ?_)
  | (with_reducible refine rk_isN ?_)
  | (with_reducible refine rk_notN ?_)
  | (with_reducible refine rk_U1 (rk_add ?_))
  | (with_reducible refine rk_U1 (rk_sub ?_))
  | (with_reducible refine ck_gcd ?_)
  | (with_reducible refine ck_abs ?_)
  | (with_reducible refine ck_int ?_)
  | (with_reducible refine ik_seq ?_)
  | (with_reducible refine ik_range1 ?_)
  | (with_reducible refine ik_range2 ?_)
  | (with_reducible refine ik_enumA ?_)
  | (with_reducible refine ik_zip ?_)
  | (with_reducible refine ik_rev ?_)
  | ((with_reducible refine' cg_name ?_ ?h1 ?h2); (case h1 => exact rfl); (case h2 => decide))
  | ((with_reducible refine' cg_anyT ?h1 ?_); (case h1 => exact rfl))
  | ((with_reducible refine' cg_anyL ?h1 ?_); (case h1 => exact rfl))
  | ((with_reducible refine' cg_anyK ?h1 ?_); (case h1 => exact rfl))
  | ((with_reducible refine' cgs_cons ?_ ?h1 ?h2); (case h1 => exact rfl); (case h2 => decide))
  | (with_reducible refine cgs_nil ?_)
  | ((with_reducible refine' gk_name ?_ ?h1); (case h1 => exact rfl))
  | ((with_reducible refine' gk_anyT ?h1 ?_); (case h1 => exact rfl))
  | ((with_reducible refine' gk_anyL ?h1 ?_); (case h1 => exact rfl))
  | ((with_reducible refine' gk_anyK ?h1 ?_); (case h1 => exact rfl))
  | ((with_reducible refine' gks_cons ?_ ?h1); (case h1 => exact rfl))
  | ((with_reducible refine' gks_consA (n := 0) ?_ ?h1 ?h2); (case h1 => exact rfl); (case h2 => exact rfl))
  | ((with_reducible refine' gks_consB ?h0 ?_ ?h1 ?h2); (case h0 => exact rfl); (case h1 => exact rfl); (case h2 => exact rfl))
  | (with_reducible refine gks_nil ?_)
  | (with_reducible refine ok_none ?_)
  | (with_reducible refine ok_some ?_))
local macro_rules | `(tactic| walk_at "s") => `(tactic| first
  | (with_reducible refine sx_guard ?_ ?_)
  | (with_reducible refine sx_seq ?_)
  | ((with_reducible refine' sx_retO ?h1 ?_); (case h1 => exact rfl))
  | (with_reducible refine sx_ret ?_)
  | (with_reducible refine sx_if ?_)
  | (with_reducible refine sx_next ?_)
  | (with_reducible refine sx_break ?_)
  | (with_reducible refine sx_cont ?_)
  | ((with_reducible refine' sx_append ?h1 ?_); (case h1 => exact rfl))
  | ((with_reducible refine' sx_setI ?h1 ?_); (case h1 => exact rfl))
  | ((with_reducible refine' sx_set ?h1 ?_); (case h1 => exact rfl))
  | (with_reducible refine sx_asg ?_)
  | ((with_reducible refine' sx_par ?h1 ?h2 ?_); (case h1 => exact rfl); (case h2 => exact rfl))
  | (with_reducible refine sx_drop ?_)
  | ((with_reducible refine' k_fldS (‹Tx _ _›) ?h1 ?h2 ?h3 ?_); (case h1 => exact rfl); (case h2 => decide); (case h3 => exact rfl)))
/-! plain existentials that the rules leave -/
local macro_rules | `(tactic| walk_at "x") => `(tactic| first
  | (with_reducible refine x_bl ?_)
  | (with_reducible refine x_int ?_)
  | (with_reducible refine x_frac ?_)
  | (with_reducible refine x_lst ?_)
  | (with_reducible refine x_tup ?_)
  | (with_reducible refine x_kd ?_)
  | (with_reducible refine x_oneL ?_)
  | (with_reducible refine x_oneT ?_)
  | (with_reducible refine x_one ?_)
  | ((with_reducible refine' x_at ?h1 ?_); (case h1 => exact rfl))
  | ((with_reducible refine' x_dic ?h1 ?_); (case h1 => exact rfl))
  | (with_reducible refine (⟨rfl, ?_⟩ : Kd.l = Kd.l ∧ _))
  | ((with_reducible refine' x_len ?h1 ?_); (case h1 => exact rfl))
  | ((with_reducible refine' br_t ?h1 ?_); (case h1 => exact rfl))
  | ((with_reducible refine' br_f ?h1 ?_); (case h1 => exact rfl)))
local macro_rules | `(tactic| walk_at "f") => `(tactic| first
  | ((with_reducible refine' sx_forW ?h1 ?_); (case h1 => exact rfl))
  | (with_reducible refine sx_forGW ?_))
local macro_rules | `(tactic| walk_at "g") => `(tactic| repeat (first | walk_at "s" | walk_at "f" | walk_at "e" | walk_at "x"))
local macro_rules | `(tactic| walk_at "v") => `(tactic| repeat (first | walk_at "e" | walk_at "x"))
local macro_rules | `(tactic| walk_at "h") => `(tactic| repeat (first | walk_at "s" | walk_at "e" | walk_at "x"))
variable {P : Program} {w : World} {K : PySem.W.Frag} {mg : Str → Option Value} {base : Heap}

def S__law_rows_T : List D → (List (Addr × List D) → D → Prop) → Prop := fun l K => ∃ bs : List BxT, l = [.pool, .lst (bs.map boxL)] ∧ bs.length ≤ 8 ∧ (∀ b ∈ bs, BOk b) ∧ ∀ ds, All2 GvR ds bs → ∀ a, K [(a, ds)] (.adr a)
theorem ok__law_rows_T (T : Tx K mg) (c__law_hand : Cal P w K mg base 4 "_law_hand" ["pool", "pair"] (SpFam (CL K) S__law_hand)) (c__law_take : Cal P w K mg base 1 "_law_take" ["pool", "many"] (SpFam (CL K) S__law_take)) : Cal P w K mg base 5 "_law_rows" ["pool", "boxes"] (SpFamN (CL K) S__law_rows_T) := by
  refine cal_mkN (N := ["pool", "boxes", "rows", "box", "prizes", "prize"]) T.g__law_rows T.d__law_rows sc__law_rows (fun _ _ _ _ _ _ us hl => match us, hl with | [_, _], _ => rfl) (by intro l Q h; first | (obtain ⟨rfl, _⟩ := h; rfl) | (obtain ⟨_, rfl, _⟩ := h; rfl) | (obtain ⟨_, _, rfl, _⟩ := h; rfl) | (obtain ⟨_, _, _, rfl, _⟩ := h; rfl) | (obtain ⟨_, _, _, _, rfl, _⟩ := h; rfl) | (obtain ⟨_, _, _, _, _, rfl, _⟩ := h; rfl) | (obtain ⟨_, _, _, _, _, _, rfl, _⟩ := h; rfl) | (obtain ⟨_, _, _, _, _, _, _, rfl, _⟩ := h; rfl) | (obtain ⟨_, _, _, _, _, _, _, _, rfl, _⟩ := h; rfl) | (obtain ⟨_, _, _, _, _, _, _, _, _, rfl, _⟩ := h; rfl) | (obtain ⟨_, _, _, _, _, _, _, _, _, _, rfl, _⟩ := h; rfl) | (obtain ⟨_, _, _, _, _, _, _, _, _, _, _, rfl, _⟩ := h; rfl)) (fun f cdv A outer s H E hr => ⟨_, (pss_cons (ps_set (i := 2) sc__law_rows.nd rfl (by first | exact Or.inl rfl | exact Or.inr rfl) (pe_lst pa_nil)) (pss_cons (ps_for PassesOwn.never rfl (pi_seqK K rfl (pv 1)) (pg_name (i := 3) sc__law_rows.nd rfl (by first | exact Or.inl rfl | exact Or.inr rfl)) (pss_cons (ps_set (i := 4) sc__law_rows.nd rfl (by first | exact Or.inl rfl | exact Or.inr rfl) (pe_lst pa_nil)) (pss_cons (ps_for PassesOwn.never rfl (pi_seqK K rfl (pe_ix (ix_seqK K rfl) (pv 3) pe_int (fun _ _ => rfl))) (pg_name (i := 5) sc__law_rows.nd rfl (by first | exact Or.inl rfl | exact Or.inr rfl)) (pss_one (ps_expr (pe_bm PySem.F.plainAttrs_list PySem.F.slot_list_append PySem.F.type_list_append mt_append (pv 4) (pa_cons (pe_lst (pa_cons (pe_ix (ix_seqK K rfl) (pv 5) pe_int (fun _ _ => rfl)) (pa_cons (pe_calC c__law_hand hr (by decide) (by rfl) (pa_cons (pv 0) (pa_cons (pe_ix (ix_seqK K rfl) (pv 5) pe_int (fun _ _ => rfl)) pa_nil))) pa_nil))) pa_nil))))) (pss_one (ps_if (pt_cmpR op_eq (pe_calC c__law_take hr (by decide) (by rfl) (pa_cons (pv 0) (pa_cons pe_int pa_nil))) pe_int (nomark _)) (pss_one (ps_expr (pe_bm PySem.F.plainAttrs_list PySem.F.slot_list_append PySem.F.type_list_append mt_append (pv 2) (pa_cons (pe_lst (pa_cons (pe_calC c__law_hand hr (by decide) (by rfl) (pa_cons (pv 0) (pa_cons (pe_ix (ix_seqK K rfl) (pv 3) pe_int (fun _ _ => rfl)) pa_nil))) (pa_cons (pv 4) pa_nil))) pa_nil)))) (pss_one (ps_expr (pe_bm PySem.F.plainAttrs_list PySem.F.slot_list_append PySem.F.type_list_append mt_append (pv 2) (pa_cons (pe_tup (pa_cons (pe_calC c__law_hand hr (by decide) (by rfl) (pa_cons (pv 0) (pa_cons (pe_ix (ix_seqK K rfl) (pv 3) pe_int (fun _ _ => rfl)) pa_nil))) (pa_cons (pe_callTy (cr_tupK K rfl) (by rfl) T.b_tuple (by decide +kernel) (pa_cons (pe_lc (own := [("prize", 5)]) (g := gName 5) (tt := tYes) rfl sc__law_rows.nd (pi_seqK K rfl (pv 4)) (blkOk_by (own := [("prize", 5)]) (N := ["pool", "boxes", "rows", "box", "prizes", "prize"]) (sc := defScope s__law_rows) (by decide +kernel)) (fun _ _ _ _ _ => (pg_name (i := 5) sc__law_rows.nd rfl (by first | exact Or.inl rfl | exact Or.inr rfl))) (fun _ _ _ _ _ => pts_nil) (fun _ _ _ _ _ => (pe_callTy (cr_tupK K rfl) (by rfl) T.b_tuple (by decide +kernel) (pa_cons (pv 5) pa_nil)))) pa_nil)) pa_nil))) pa_nil))))))))) (pss_one (ps_ret (pv 2))))), ?_⟩)
  intro nn B l Q h
  obtain ⟨bs, rfl, hl, ok, h⟩ := h
  refine sx_seq ?_
  refine' sx_setO ?h1 ?_
  case h1 => exact rfl
  walk_at "h"
  refine sx_forGS ?_
  walk_at "v"
  refine ⟨BxT, bs, boxL, List D, fun j ds => [.d .pool, .d (.lst (bs.map boxL)), .own ds, .no, .no, .no], fun j ds => All2 GvR ds (bs.take j), rfl, ⟨[], .nil, Wk.refl⟩, fun B' j b ds hb hds => ?_, fun Γ' ds hds w => sx_weak w ?_⟩
  · have okb := ok b (List.mem_of_getElem? hb)
    have hl4 := okb.p.l4
    have hdl := hds.length
    rw [List.length_take] at hdl
    have htk : bs.take (j + 1) = bs.take j ++ [b] := by rw [List.take_succ, hb]; rfl
    walk_at "v"
    refine sx_seq ?_
    refine' sx_setO ?h1 ?_
    case h1 => exact rfl
    walk_at "h"
    refine sx_forGS ?_
    unfold boxL
    walk_at "v"
    refine ⟨Int × Rat, b.2, pairL, List Cell, fun i cs => [.d .pool, .d (.lst (bs.map boxL)), .own ds, .d (boxL b), .own (cs.map Cell.d), .no], fun i cs => cs.map Cell.p = b.2.take i ∧ ∀ e ∈ cs, AmtD e.x e.q ∧ e.k = .l, rfl, ⟨[], ⟨rfl, fun _ h => (nomatch h)⟩, .same (.same (.same (.same (.same (.same .nil)))))⟩, fun B2 i p cs hp hcs => ?_, fun Γ2 cs hcs w => sx_weak w ?_⟩
    · obtain ⟨c1, c2⟩ := hcs
      have hcl : cs.length ≤ b.2.length := by
        have := congrArg List.length c1
        rw [List.length_map, List.length_take] at this; omega
      have okp := okb.p.ok p (List.mem_of_getElem? hp)
      unfold pairL
      walk_at "h"
      refine ⟨p.2, rfl, okp.sz, fun x hx => ?_⟩
      walk_at "h"
      refine ⟨small1000 (by rw [List.length_map]; omega), cs ++ [⟨.l, x, p.1, p.2⟩], ⟨?_, fun e he => ?_⟩, ?_⟩
      · rw [List.map_append, c1, List.take_succ, hp]; rfl
      · rcases List.mem_append.mp he with he | he
        · exact c2 e he
        · cases List.mem_singleton.mp he
          exact ⟨hx, rfl⟩
      · dsimp only
        rw [List.map_append]
        exact .same (.same (.same (.same (.same (.no .nil)))))
    · obtain ⟨c1, c2⟩ := hcs
      rw [List.take_length] at c1
      have hcl : cs.length = b.2.length := by rw [← c1, List.length_map]
      dsimp only
      refine sx_freeze 4 rfl ?_
      walk_at "h"
      refine ⟨2, rfl, by decide, by decide, fun m m0 m1 => ?_⟩
      walk_at "h"
      refine br_p (fun _ => ?_) (fun _ => ?_)
      · unfold boxL
        walk_at "h"
        refine ⟨b.1, rfl, okb.c.sz, fun c hc => ?_⟩
        walk_at "h"
        refine ⟨small1000 (by omega), ds ++ [D.lst [c, D.lst (cs.map Cell.d)]], ?_, ?_⟩
        rotate_left
        · exact .same (.same (.same (.no (.no (.no .nil)))))
        rw [htk]
        exact hds.snoc ⟨.l, .l, c, cs, rfl, hc, c1, fun e he => (c2 e he).1⟩
      · unfold boxL
        walk_at "h"
        refine ⟨b.1, rfl, okb.c.sz, fun c hc => ?_⟩
        walk_at "h"
        refine ⟨Cell, cs, Cell.d, fun e => .tup [.int e.w, e.x], rfl, Nat.le_of_lt (small1000 (by omega)), fun W1 e he => ?_, ?_⟩
        · have ek := (c2 e he).2
          unfold Cell.d
          rw [ek]
          walk_at "h"
          rfl
        walk_at "h"
        refine ⟨small1000 (by omega), ds ++ [D.tup [c, D.tup ((cs.map fun e => (⟨.t, e.x, e.w, e.q⟩ : Cell)).map Cell.d)]], ?_, ?_⟩
        · rw [htk]
          refine hds.snoc ⟨.t, .t, c, _, rfl, hc, ?_, fun e he => ?_⟩
          · rw [List.map_map]; exact c1
          · obtain ⟨e2, he2, rfl⟩ := List.mem_map.mp he
            exact (c2 e2 he2).1
        · rw [List.map_map]
          exact .same (.same (.same (.no (.no (.no .nil)))))
  · dsimp only at hds
    rw [List.take_length] at hds
    dsimp only
    refine sx_reg rfl ?_
    refine sx_share (i := 2) (j := 6) rfl rfl fun a => ?_
    refine sx_ret (ek_var rfl ⟨6, _, rfl, h ds hds a⟩)

def S__law_rows_N : List D → (List (Addr × List D) → D → Prop) → Prop := fun l K => ∃ bs : List BxT, l = [.pool, .lst (bs.map boxL)] ∧ bs.length ≤ 8 ∧ (∀ b ∈ bs, BOk b) ∧ ∀ top ds rest, All2 (RowC rest) ds bs → K ((top, ds) :: rest) (.adr top)
theorem ok__law_rows_N (T : Tx K mg) (c__law_hand : Cal P w K mg base 4 "_law_hand" ["pool", "pair"] (SpFam (CL K) S__law_hand)) (c__law_take : Cal P w K mg base 1 "_law_take" ["pool", "many"] (SpFam (CL K) S__law_take)) : Cal P w K mg base 5 "_law_rows" ["pool", "boxes"] (SpFamN (CL K) S__law_rows_N) := by
  refine cal_mkN (N := ["pool", "boxes", "rows", "box", "prizes", "prize"]) T.g__law_rows T.d__law_rows sc__law_rows (fun _ _ _ _ _ _ us hl => match us, hl with | [_, _], _ => rfl) (by intro l Q h; first | (obtain ⟨rfl, _⟩ := h; rfl) | (obtain ⟨_, rfl, _⟩ := h; rfl) | (obtain ⟨_, _, rfl, _⟩ := h; rfl) | (obtain ⟨_, _, _, rfl, _⟩ := h; rfl) | (obtain ⟨_, _, _, _, rfl, _⟩ := h; rfl) | (obtain ⟨_, _, _, _, _, rfl, _⟩ := h; rfl) | (obtain ⟨_, _, _, _, _, _, rfl, _⟩ := h; rfl) | (obtain ⟨_, _, _, _, _, _, _, rfl, _⟩ := h; rfl) | (obtain ⟨_, _, _, _, _, _, _, _, rfl, _⟩ := h; rfl) | (obtain ⟨_, _, _, _, _, _, _, _, _, rfl, _⟩ := h; rfl) | (obtain ⟨_, _, _, _, _, _, _, _, _, _, rfl, _⟩ := h; rfl) | (obtain ⟨_, _, _, _, _, _, _, _, _, _, _, rfl, _⟩ := h; rfl)) (fun f cdv A outer s H E hr => ⟨_, (pss_cons (ps_set (i := 2) sc__law_rows.nd rfl (by first | exact Or.inl rfl | exact Or.inr rfl) (pe_lst pa_nil)) (pss_cons (ps_for PassesOwn.never rfl (pi_seqK K rfl (pv 1)) (pg_name (i := 3) sc__law_rows.nd rfl (by first | exact Or.inl rfl | exact Or.inr rfl)) (pss_cons (ps_set (i := 4) sc__law_rows.nd rfl (by first | exact Or.inl rfl | exact Or.inr rfl) (pe_lst pa_nil)) (pss_cons (ps_for PassesOwn.never rfl (pi_seqK K rfl (pe_ix (ix_seqK K rfl) (pv 3) pe_int (fun _ _ => rfl))) (pg_name (i := 5) sc__law_rows.nd rfl (by first | exact Or.inl rfl | exact Or.inr rfl)) (pss_one (ps_expr (pe_bm PySem.F.plainAttrs_list PySem.F.slot_list_append PySem.F.type_list_append mt_append (pv 4) (pa_cons (pe_lst (pa_cons (pe_ix (ix_seqK K rfl) (pv 5) pe_int (fun _ _ => rfl)) (pa_cons (pe_calC c__law_hand hr (by decide) (by rfl) (pa_cons (pv 0) (pa_cons (pe_ix (ix_seqK K rfl) (pv 5) pe_int (fun _ _ => rfl)) pa_nil))) pa_nil))) pa_nil))))) (pss_one (ps_if (pt_cmpR op_eq (pe_calC c__law_take hr (by decide) (by rfl) (pa_cons (pv 0) (pa_cons pe_int pa_nil))) pe_int (nomark _)) (pss_one (ps_expr (pe_bm PySem.F.plainAttrs_list PySem.F.slot_list_append PySem.F.type_list_append mt_append (pv 2) (pa_cons (pe_lst (pa_cons (pe_calC c__law_hand hr (by decide) (by rfl) (pa_cons (pv 0) (pa_cons (pe_ix (ix_seqK K rfl) (pv 3) pe_int (fun _ _ => rfl)) pa_nil))) (pa_cons (pv 4) pa_nil))) pa_nil)))) (pss_one (ps_expr (pe_bm PySem.F.plainAttrs_list PySem.F.slot_list_append PySem.F.type_list_append mt_append (pv 2) (pa_cons (pe_tup (pa_cons (pe_calC c__law_hand hr (by decide) (by rfl) (pa_cons (pv 0) (pa_cons (pe_ix (ix_seqK K rfl) (pv 3) pe_int (fun _ _ => rfl)) pa_nil))) (pa_cons (pe_callTy (cr_tupK K rfl) (by rfl) T.b_tuple (by decide +kernel) (pa_cons (pe_lc (own := [("prize", 5)]) (g := gName 5) (tt := tYes) rfl sc__law_rows.nd (pi_seqK K rfl (pv 4)) (blkOk_by (own := [("prize", 5)]) (N := ["pool", "boxes", "rows", "box", "prizes", "prize"]) (sc := defScope s__law_rows) (by decide +kernel)) (fun _ _ _ _ _ => (pg_name (i := 5) sc__law_rows.nd rfl (by first | exact Or.inl rfl | exact Or.inr rfl))) (fun _ _ _ _ _ => pts_nil) (fun _ _ _ _ _ => (pe_callTy (cr_tupK K rfl) (by rfl) T.b_tuple (by decide +kernel) (pa_cons (pv 5) pa_nil)))) pa_nil)) pa_nil))) pa_nil))))))))) (pss_one (ps_ret (pv 2))))), ?_⟩)
  intro nn B l Q h
  obtain ⟨bs, rfl, hl, ok, h⟩ := h
  refine sx_reg rfl ?_
  refine sx_seq ?_
  refine sx_setN (j := 6) (cs := []) rfl rfl (en_ef ?_)
  walk_at "v"
  intro top
  walk_at "h"
  refine sx_forGS ?_
  walk_at "v"
  refine ⟨BxT, bs, boxL, List D × List (Addr × List D), fun j s => [.d .pool, .d (.lst (bs.map boxL)), .d (.adr top), .no, .no, .no, .reg ((top, s.1) :: s.2)], fun j s => All2 (RowC s.2) s.1 (bs.take j), rfl, ⟨([], []), .nil, Wk.refl⟩, fun B' j b s hb hds => ?_, fun Γ' s hds w => sx_weak w ?_⟩
  · obtain ⟨ds, rest⟩ := s
    have okb := ok b (List.mem_of_getElem? hb)
    have hl4 := okb.p.l4
    dsimp only at hds
    have hdl := hds.length
    rw [List.length_take] at hdl
    have htk : bs.take (j + 1) = bs.take j ++ [b] := by rw [List.take_succ, hb]; rfl
    walk_at "v"
    refine sx_seq ?_
    refine' sx_setO ?h1 ?_
    case h1 => exact rfl
    walk_at "h"
    refine sx_forGS ?_
    unfold boxL
    walk_at "v"
    refine ⟨Int × Rat, b.2, pairL, List Cell, fun i cs => [.d .pool, .d (.lst (bs.map boxL)), .d (.adr top), .d (boxL b), .own (cs.map Cell.d), .no, .reg ((top, ds) :: rest)], fun i cs => cs.map Cell.p = b.2.take i ∧ ∀ e ∈ cs, AmtD e.x e.q ∧ e.k = .l, rfl, ⟨[], ⟨rfl, fun _ h => (nomatch h)⟩, .same (.same (.same (.same (.same (.same (.same .nil))))))⟩, fun B2 i p cs hp hcs => ?_, fun Γ2 cs hcs w => sx_weak w ?_⟩
    · obtain ⟨c1, c2⟩ := hcs
      have hcl : cs.length ≤ b.2.length := by
        have := congrArg List.length c1
        rw [List.length_map, List.length_take] at this; omega
      have okp := okb.p.ok p (List.mem_of_getElem? hp)
      unfold pairL
      walk_at "h"
      refine ⟨p.2, rfl, okp.sz, fun x hx => ?_⟩
      walk_at "h"
      refine ⟨small1000 (by rw [List.length_map]; omega), cs ++ [⟨.l, x, p.1, p.2⟩], ⟨?_, fun e he => ?_⟩, ?_⟩
      · rw [List.map_append, c1, List.take_succ, hp]; rfl
      · rcases List.mem_append.mp he with he | he
        · exact c2 e he
        · cases List.mem_singleton.mp he
          exact ⟨hx, rfl⟩
      · dsimp only
        rw [List.map_append]
        exact .same (.same (.same (.same (.same (.no (.same .nil))))))
    · obtain ⟨c1, c2⟩ := hcs
      rw [List.take_length] at c1
      have hcl : cs.length = b.2.length := by rw [← c1, List.length_map]
      dsimp only
      refine sx_if ?_
      walk_at "v"
      refine ⟨2, rfl, by decide, by decide, fun m m0 m1 => ?_⟩
      walk_at "v"
      refine br_p (fun _ => ?_) (fun _ => ?_)
      · refine sx_share (i := 4) (j := 6) rfl rfl fun p => ?_
        refine sx_appC (j := 6) rfl ?_
        walk_at "v"
        refine ⟨top, rfl, ⟨ds, by simp⟩, en_lst (an_cons (en_ek ?_)) ⟩
        unfold boxL
        walk_at "v"
        refine ⟨b.1, rfl, okb.c.sz, fun c hc => ?_⟩
        refine an_cons (en_ek (ek_var rfl (an_nil ⟨small1000 (by simp), fun r => ?_⟩)))
        refine ⟨0, ds, rfl, small1000 (by omega), (ds ++ [.adr r], rest ++ [(p, cs.map Cell.d)] ++ [(r, [c, .adr p])]), ?_, ?_⟩
        rotate_left
        · show Wk _ [_, _, _, .no, .no, .no, .reg ((top, ds ++ [.adr r]) :: (rest ++ [(p, cs.map Cell.d)] ++ [(r, [c, .adr p])]))]
          have e : ((((top, ds) :: rest) ++ [(p, cs.map Cell.d)]) ++ ([] ++ ([] ++ []) ++ [(r, [c, D.adr p])])).set 0 (top, ds ++ [D.adr r]) = (top, ds ++ [.adr r]) :: (rest ++ [(p, cs.map Cell.d)] ++ [(r, [c, .adr p])]) := by simp
          first
            | (rw [e]; exact .same (.same (.same (.no (.no (.no (.same .nil)))))))
            | (rw [← e]; exact .same (.same (.same (.no (.no (.no (.same .nil)))))))
        · show All2 _ (ds ++ [.adr r]) _
          rw [htk]
          refine (hds.mono fun d b' hr => RowC.mono (fun q hq => ?_) hr).snoc (.inr ⟨r, p, c, cs, rfl, by simp, by simp, hc, c1, c2⟩)
          exact List.mem_append_left _ (List.mem_append_left _ hq)
      · refine sx_appC (j := 6) rfl ?_
        walk_at "v"
        refine ⟨top, rfl, ⟨ds, by simp⟩, en_ek (ek_tup (ak_cons ?_)) ⟩
        unfold boxL
        walk_at "v"
        refine ⟨b.1, rfl, okb.c.sz, fun c hc => ?_⟩
        refine ak_cons (ek_tuple (el_ef (ef_mapE (ike_own (i := 4) rfl ?_))))
        refine ⟨Cell, cs, Cell.d, fun e => .tup [.int e.w, e.x], rfl, Nat.le_of_lt (small1000 (by omega)), fun W1 e he => ?_, ?_⟩
        · have ek := (c2 e he).2
          unfold Cell.d
          rw [ek]
          walk_at "v"
          rfl
        refine ak_nil ⟨Nat.le_of_lt (small1000 (by simp)), ?_⟩
        refine ⟨0, ds, rfl, small1000 (by omega), (ds ++ [D.tup [c, D.tup ((cs.map fun e => (⟨.t, e.x, e.w, e.q⟩ : Cell)).map Cell.d)]], rest), ?_, ?_⟩
        · show All2 _ (ds ++ [_]) _
          rw [htk]
          refine hds.snoc (.inl ⟨⟨.t, .t, c, _, rfl, hc, ?_, fun e he => ?_⟩, _, rfl⟩)
          · rw [List.map_map]; exact c1
          · obtain ⟨e2, he2, rfl⟩ := List.mem_map.mp he
            exact (c2 e2 he2).1
        · rw [List.map_map]
          show Wk _ [_, _, _, .no, .no, .no, .reg ((top, ds ++ [D.tup [c, D.tup (cs.map fun e : Cell => D.tup [.int e.w, e.x])]]) :: rest)]
          have e : ((((top, ds) :: rest)) ++ []).set 0 (top, ds ++ [D.tup [c, D.tup (cs.map fun e : Cell => D.tup [.int e.w, e.x])]]) = (top, ds ++ [D.tup [c, D.tup (cs.map fun e : Cell => D.tup [.int e.w, e.x])]]) :: rest := by simp
          rw [← e]
          exact .same (.same (.same (.no (.no (.no (.same .nil))))))
  · dsimp only at hds
    rw [List.take_length] at hds
    dsimp only
    refine sx_ret (ek_var rfl ⟨6, _, rfl, h top s.1 s.2 hds⟩)

end

end K
end

section
set_option maxRecDepth 100000
set_option maxHeartbeats 4000000
namespace K
open PySem PySem.Spec PyProof.Rows L2 G

theorem decide_not_refl {α : Type} [DecidableEq α] {a : α} : (!decide (a = a)) = false := by simp
theorem gv_at {ds : List D} {bs : List BxT} {j : Nat} {b : BxT} (h : All2 GvR ds bs) (hb : bs[j]? = some b) : ∃ (k k2 : Kd) (c : D) (cs : List Cell), ds[j]? = some (Kd.d k [c, Kd.d k2 (cs.map Cell.d)]) ∧ AmtD c b.1 ∧ cs.map Cell.p = b.2 ∧ ∀ e ∈ cs, AmtD e.x e.q := by
  obtain ⟨d, hd, k, k2, c, cs, rfl, h2⟩ := h.getR hb
  exact ⟨k, k2, c, cs, hd, h2⟩
section
local macro_rules | `(tactic| walk_at "e") => `(tactic| first
  | ((with_reducible refine' ek_var ?h1 ?_); (case h1 => exact rfl))
  | (with_reducible refine ek_int ?_)
  | (with_reducible refine ek_bl ?_)
  | (with_reducible refine ek_non ?_)
  | (with_reducible refine ek_str ?_)
  | (with_reducible refine ek_ty ?_)
  | (with_reducible refine ek_cls ?_)
  | (with_reducible refine ek_ix ?_)
  | (with_reducible refine ek_un ?_)
  | (with_reducible refine ek_tup ?_)
  | (with_reducible refine k_call ?_)
  | (with_reducible refine ek_len ?_)
  | (with_reducible refine ek_tuple ?_)
  | (with_reducible refine ek_sum ?_)
  | (with_reducible refine ek_all ?_)
  | (with_reducible refine ek_any ?_)
  | (with_reducible refine ek_chain ?_)
  | (with_reducible refine ek_andV ?_)
  | (with_reducible refine ek_orV ?_)
  | (with_reducible refine ek_notV ?_)
  | (with_reducible refine ek_if ?_)
  | (with_reducible refine ek_ef (ef_lst ?_))
  | (with_reducible refine ek_ef (ef_list ?_))
  | (with_reducible refine ek_ef (ef_cat ?_))
  | (with_reducible refine ek_ef (ef_rep ?_))
  | (with_reducible refine ek_ef (ef_slice ?_))
  | (with_reducible refine ek_ef (ef_rev ?_))
  | (with_reducible refine ek_ef (ef_lstRev ?_))
  | (with_reducible refine ek_ef (ef_map ?_))
  | (with_reducible refine ek_ef (ef_filt ?_))
  | (with_reducible refine ef_lst ?_)
  | (with_reducible refine ef_list ?_)
  | (with_reducible refine ef_cat ?_)
  | (with_reducible refine ef_rep ?_)
  | (with_reducible refine ef_slice ?_)
  | (with_reducible refine ef_rev ?_)
  | (with_reducible refine ef_lstRev ?_)
  | (with_reducible refine ef_map ?_)
  | (with_reducible refine ef_filt ?_)
  | ((with_reducible refine' el_var ?h1 ?_); (case h1 => exact rfl))
  | ((with_reducible refine' el_own ?h1 ?_); (case h1 => exact rfl))
  | (with_reducible refine el_ef (ef_lst ?_))
  | (with_reducible refine el_ef (ef_list ?_))
  | (with_reducible refine el_ef (ef_cat ?_))
  | (with_reducible refine el_ef (ef_rep ?_))
  | (with_reducible refine el_ef (ef_slice ?_))
  | (with_reducible refine el_ef (ef_rev ?_))
  | (with_reducible refine el_ef (ef_lstRev ?_))
  | (with_reducible refine el_ef (ef_map ?_))
  | (with_reducible refine el_ef (ef_filt ?_))
  | (with_reducible refine ek_op ?_)
  | (with_reducible refine ek_cb ?_)
  | (with_reducible refine el_ek ?_)
  | (with_reducible refine tk_test ?_)
  | (with_reducible refine tk_B ?_)
  | (with_reducible refine tk_and ?_)
  | (with_reducible refine tk_or ?_)
  | (with_reducible refine tk_not ?_)
  | (with_reducible refine tk_yes ?_)
  | (with_reducible refine ak_nil ?_)
  | (with_reducible refine ak_cons ?_)
  | (with_reducible refine k_num (‹Tx _ _›) ?_)
  | (with_reducible refine k_den (‹Tx _ _›) ?_)
  | (with_reducible refine k_mk2 ?_)
  | (with_reducible refine k_mk1 ?_)
  | (with_reducible refine k_bel ?_)
  | (with_reducible refine k_own ?_)
  | (with_reducible refine rk_U2 (k_own ?_))
  | (with_reducible refine rk_mul (Sz.mul (by assumption) (by assumption)) ?_)
  | (with_reducible refine rk_U1 (rk_mul (Sz.mul (by assumption) (by assumption)) ?_))
  | (with_reducible refine ek_dget ?_)
  | (with_reducible refine uk_neg ?_)
  | (with_reducible refine ek_disp ?_)
  | (with_reducible refine pk_cons ?_)
  | (with_reducible refine pk_nil ?_)
  | (with_reducible refine rk_mod (by assumption) ?_)
  | (with_reducible refine rk_add ?_)
  | (with_reducible refine rk_sub ?_)
  | (with_reducible refine rk_lt ?_)
  | (with_reducible refine rk_le ?_)
  | (with_reducible refine rk_gt ?_)
  | (with_reducible refine rk_ge ?_)
  | (with_reducible refine rk_eqI ?_)
  | (with_reducible refine rk_neI ?_)
  | (with_reducible refine rk_isN ?_)
  | (with_reducible refine rk_notN ?_)
  | (with_reducible refine rk_U1 (rk_add ?_))
  | (with_reducible refine rk_U1 (rk_sub ?_))
  | (with_reducible refine ck_gcd ?_)
  | (with_reducible refine ck_abs ?_)
  | (with_reducible refine ck_int ?_)
  | (with_reducible refine ik_seq ?_)
  | (with_reducible refine ik_range1 ?_)
  | (with_reducible refine ik_range2 ?_)
  | (with_reducible refine ik_enumA ?_)
  | (with_reducible refine ik_zip ?_)
  | (with_reducible refine ik_rev ?_)
  | ((with_reducible refine' cg_name ?_ ?h1 ?h2); (case h1 => exact rfl); (case h2 => decide))
  | ((with_reducible refine' cg_anyT ?h1 ?_); (case h1 => exact rfl))
  | ((with_reducible refine' cg_anyL ?h1 ?_); (case h1 => exact rfl))
  | ((with_reducible refine' cg_anyK ?h1 ?_); (case h1 => exact rfl))
  | ((with_reducible refine' cgs_cons ?_ ?h1 ?h2); (case h1 => exact rfl); (case h2 => decide))
  | (with_reducible refine cgs_nil ?_)
  | ((with_reducible refine' gk_name ?_ ?h1); (case h1 => exact rfl))
  | ((with_reducible refine' gk_anyT ?h1 ?_); (case h1 => exact rfl))
  | ((with_reducible refine' gk_anyL ?h1 ?_); (case h1 => exact rfl))
  | ((with_reducible refine' gk_anyK ?h1 ?_); (case h1 => exact rfl))
  | ((with_reducible refine' gks_cons ?_ ?h1); (case h1 => exact rfl))
  | ((with_reducible refine' gks_consA (n := 0) ?_ ?h1 ?h2); (case h1 => exact rfl); (case h2 => exact rfl))
  | ((with_reducible refine' gks_consB ?h0 ?_ ?h1 ?h2); (case h0 => exact rfl); (case h1 => exact rfl); (case h2 => exact rfl))
  | (with_reducible refine gks_nil ?_)
  | (with_reducible refine ok_none ?_)
  | (with_reducible refine ok_some ?_))
local macro_rules | `(tactic| walk_at "s") => `(tactic| first
  | (with_reducible refine sx_guard ?_ ?_)
  | (with_reducible refine sx_seq ?_)
  | ((with_reducible refine' sx_retO ?h1 ?_); (case h1 => exact rfl))
  | (with_reducible refine sx_ret ?_)
  | (with_reducible refine sx_if ?_)
  | (with_reducible refine sx_next ?_)
  | (with_reducible refine sx_break ?_)
  | (with_reducible refine sx_cont ?_)
  | ((with_reducible refine' sx_append ?h1 ?_); (case h1 => exact rfl))
  | ((with_reducible refine' sx_setI ?h1 ?_); (case h1 => exact rfl))
  | ((with_reducible refine' sx_set ?h1 ?_); (case h1 => exact rfl))
  | (with_reducible refine sx_asg ?_)
  | ((with_reducible refine' sx_par ?h1 ?h2 ?_); (case h1 => exact rfl); (case h2 => exact rfl))
  | (with_reducible refine sx_drop ?_)
  | ((with_reducible refine' k_fldS (‹Tx _ _›) ?h1 ?h2 ?h3 ?_); (case h1 => exact rfl); (case h2 => decide); (case h3 => exact rfl)))
/-! plain existentials that the rules leave -/
local macro_rules | `(tactic| walk_at "x") => `(tactic| first
  | (with_reducible refine x_bl ?_)
  | (with_reducible refine x_int ?_)
  | (with_reducible refine x_frac ?_)
  | (with_reducible refine x_lst ?_)
  | (with_reducible refine x_tup ?_)
  | (with_reducible refine x_kd ?_)
  | (with_reducible refine x_oneL ?_)
  | (with_reducible refine x_oneT ?_)
  | (with_reducible refine x_one ?_)
  | ((with_reducible refine' x_at ?h1 ?_); (case h1 => exact rfl))
  | ((with_reducible refine' x_dic ?h1 ?_); (case h1 => exact rfl))
  | (with_reducible refine (⟨rfl, ?_⟩ : Kd.l = Kd.l ∧ _))
  | ((with_reducible refine' x_len ?h1 ?_); (case h1 => exact rfl))
  | ((with_reducible refine' br_t ?h1 ?_); (case h1 => exact rfl))
  | ((with_reducible refine' br_f ?h1 ?_); (case h1 => exact rfl)))
local macro_rules | `(tactic| walk_at "f") => `(tactic| first
  | ((with_reducible refine' sx_forW ?h1 ?_); (case h1 => exact rfl))
  | (with_reducible refine sx_forGW ?_))
local macro_rules | `(tactic| walk_at "g") => `(tactic| repeat (first | walk_at "s" | walk_at "f" | walk_at "e" | walk_at "x"))
local macro_rules | `(tactic| walk_at "v") => `(tactic| repeat (first | walk_at "e" | walk_at "x"))
local macro_rules | `(tactic| walk_at "h") => `(tactic| repeat (first | walk_at "s" | walk_at "e" | walk_at "x"))
variable {P : Program} {w : World} {K : PySem.W.Frag} {mg : Str → Option Value} {base : Heap}

theorem ck_len (T : Tx K mg) {nn : Hp} {B : Bs} {Q : D → Prop} {rs : List D} (hl : rs.length ≤ 1000) (h : Q (.int (rs.length : Nat))) : CK (CL K nn) B (rLenO (He.ga K "Boxes") (SpFam (CL K) S_BoxesD_lenD)) [boxesD rs] Q :=
  ck_lenO (F := CL K) (n := nn) (c := 0) rfl ⟨rs, rfl, _, rfl, by omega, by omega, h⟩
def S__law_unchanged : List D → (D → Prop) → Prop := fun l K => ∃ (kd : Kd) (ds : List D) (bs : List BxT), l = [Kd.d kd ds, .lst (bs.map boxL)] ∧ bs.length ≤ 8 ∧ (∀ b ∈ bs, BOk b) ∧ All2 GvR ds bs ∧ K (.bl true)
theorem ok__law_unchanged (T : Tx K mg)  : Cal P w K mg base 1 "_law_unchanged" ["rows", "boxes"] (SpFam (CL K) S__law_unchanged) := by
  refine cal_mkF (N := ["rows", "boxes", "k", "j"]) T.g__law_unchanged T.d__law_unchanged sc__law_unchanged (fun _ _ _ _ _ _ us hl => match us, hl with | [_, _], _ => rfl) (by intro l Q h; first | (obtain ⟨rfl, _⟩ := h; rfl) | (obtain ⟨_, rfl, _⟩ := h; rfl) | (obtain ⟨_, _, rfl, _⟩ := h; rfl) | (obtain ⟨_, _, _, rfl, _⟩ := h; rfl) | (obtain ⟨_, _, _, _, rfl, _⟩ := h; rfl) | (obtain ⟨_, _, _, _, _, rfl, _⟩ := h; rfl) | (obtain ⟨_, _, _, _, _, _, rfl, _⟩ := h; rfl) | (obtain ⟨_, _, _, _, _, _, _, rfl, _⟩ := h; rfl) | (obtain ⟨_, _, _, _, _, _, _, _, rfl, _⟩ := h; rfl) | (obtain ⟨_, _, _, _, _, _, _, _, _, rfl, _⟩ := h; rfl) | (obtain ⟨_, _, _, _, _, _, _, _, _, _, rfl, _⟩ := h; rfl) | (obtain ⟨_, _, _, _, _, _, _, _, _, _, _, rfl, _⟩ := h; rfl)) (fun f cdv A outer s H E hr => ⟨_, (pss_cons (ps_if (pt_cmpR op_ne (pe_callB (cr_lenK K rfl) (by rfl) T.b_len PySem.boot_len (pa_cons (pv 0) pa_nil)) (pe_callB (cr_lenK K rfl) (by rfl) T.b_len PySem.boot_len (pa_cons (pv 1) pa_nil)) (nomark _)) (pss_one (ps_ret pe_bl)) pss_nil) (pss_cons (ps_for PassesOwn.never rfl (pi_range1 (by rfl) T.b_range (pa_cons (pe_callB (cr_lenK K rfl) (by rfl) T.b_len PySem.boot_len (pa_cons (pv 1) pa_nil)) pa_nil)) (pg_name (i := 2) sc__law_unchanged.nd rfl (by first | exact Or.inl rfl | exact Or.inr rfl)) (pss_cons (ps_if (PW.pt (pw_or (pt_cmpR op_ne (pe_callB (cr_lenK K rfl) (by rfl) T.b_len PySem.boot_len (pa_cons (pe_ix (ix_seqK K rfl) (pv 0) (pv 2) (fun _ _ => rfl)) pa_nil)) pe_int (nomark _)) (pw_or1 (pt_cmpR op_ne (pe_callB (cr_lenK K rfl) (by rfl) T.b_len PySem.boot_len (pa_cons (pe_ix (ix_seqK K rfl) (pe_ix (ix_seqK K rfl) (pv 0) (pv 2) (fun _ _ => rfl)) pe_int (fun _ _ => rfl)) pa_nil)) (pe_callB (cr_lenK K rfl) (by rfl) T.b_len PySem.boot_len (pa_cons (pe_ix (ix_seqK K rfl) (pe_ix (ix_seqK K rfl) (pv 1) (pv 2) (fun _ _ => rfl)) pe_int (fun _ _ => rfl)) pa_nil)) (nomark _))))) (pss_one (ps_ret pe_bl)) pss_nil) (pss_one (ps_for PassesOwn.never rfl (pi_range1 (by rfl) T.b_range (pa_cons (pe_callB (cr_lenK K rfl) (by rfl) T.b_len PySem.boot_len (pa_cons (pe_ix (ix_seqK K rfl) (pe_ix (ix_seqK K rfl) (pv 1) (pv 2) (fun _ _ => rfl)) pe_int (fun _ _ => rfl)) pa_nil)) pa_nil)) (pg_name (i := 3) sc__law_unchanged.nd rfl (by first | exact Or.inl rfl | exact Or.inr rfl)) (pss_one (ps_if (PW.pt (pw_or (pt_cmpR op_ne (pe_callB (cr_lenK K rfl) (by rfl) T.b_len PySem.boot_len (pa_cons (pe_ix (ix_seqK K rfl) (pe_ix (ix_seqK K rfl) (pe_ix (ix_seqK K rfl) (pv 0) (pv 2) (fun _ _ => rfl)) pe_int (fun _ _ => rfl)) (pv 3) (fun _ _ => rfl)) pa_nil)) pe_int (nomark _)) (pw_or1 (pt_cmpR op_ne (pe_ix (ix_seqK K rfl) (pe_ix (ix_seqK K rfl) (pe_ix (ix_seqK K rfl) (pe_ix (ix_seqK K rfl) (pv 0) (pv 2) (fun _ _ => rfl)) pe_int (fun _ _ => rfl)) (pv 3) (fun _ _ => rfl)) pe_int (fun _ _ => rfl)) (pe_ix (ix_seqK K rfl) (pe_ix (ix_seqK K rfl) (pe_ix (ix_seqK K rfl) (pe_ix (ix_seqK K rfl) (pv 1) (pv 2) (fun _ _ => rfl)) pe_int (fun _ _ => rfl)) (pv 3) (fun _ _ => rfl)) pe_int (fun _ _ => rfl)) (nomark _))))) (pss_one (ps_ret pe_bl)) pss_nil)))))) (pss_one (ps_ret pe_bl)))), ?_⟩)
  intro nn B l Q h
  obtain ⟨kd, ds, bs, rfl, hl, ok, hg, h⟩ := h
  have hdl := hg.length
  refine sx_skip ?_ ?_
  · walk_at "h"
    rw [List.length_map, hdl]
    exact decide_not_refl
  walk_at "h"
  refine sx_forGS ?_
  walk_at "v"
  refine ⟨(bs.length : Nat), by rw [List.length_map], by omega, by omega, ?_⟩
  refine ⟨Nat, List.range bs.length, _, Unit, fun j _ => [.d (Kd.d kd ds), .d (.lst (bs.map boxL)), .no, .no], fun _ _ => True, rng1, ⟨(), trivial, Wk.refl⟩, fun B' j x s hx hs => ?_, fun Γ' s hs w => sx_weak w ?_⟩
  · obtain ⟨rfl, hj⟩ := rng_get hx
    obtain ⟨b, hb⟩ : ∃ b, bs[x]? = some b := ⟨_, List.getElem?_eq_getElem hj⟩
    obtain ⟨k, k2, c, cs, hd, g1, g2, g3⟩ := gv_at hg hb
    have okb := ok b (List.mem_of_getElem? hb)
    have hcl : cs.length = b.2.length := by rw [← g2, List.length_map]
    have l4 := okb.p.l4
    have hbL : (bs.map boxL)[x]? = some (boxL b) := by rw [List.getElem?_map, hb]; rfl
    walk_at "v"
    refine sx_skip ?_ ?_
    · walk_at "v"
      refine x_at (atI_nat hd) ?_
      walk_at "v"
      refine x_at (atI_nat hd) ?_
      walk_at "v"
      refine x_at (atI_nat hbL) ?_
      unfold boxL
      walk_at "v"
      rw [List.length_map, List.length_map, hcl]
      exact decide_not_refl
    refine sx_forGS ?_
    walk_at "v"
    refine x_at (atI_nat hbL) ?_
    unfold boxL
    walk_at "v"
    refine ⟨(b.2.length : Nat), by rw [List.length_map], by omega, by omega, ?_⟩
    refine ⟨Nat, List.range b.2.length, _, Unit, fun j _ => [.d (Kd.d kd ds), .d (.lst (bs.map boxL)), .d (.int (x : Nat)), .no], fun _ _ => True, rng1, ⟨(), trivial, Wk.refl⟩, fun B2 i y s hy hs => ?_, fun Γ2 s hs w => ⟨(), trivial, w.trans (.same (.same (.no (.no .nil))))⟩⟩
    · obtain ⟨rfl, hi⟩ := rng_get hy
      obtain ⟨p, hp⟩ : ∃ p, b.2[y]? = some p := ⟨_, List.getElem?_eq_getElem hi⟩
      obtain ⟨e, he⟩ : ∃ e, cs[y]? = some e := ⟨_, List.getElem?_eq_getElem (by omega)⟩
      have hpe : e.p = p := by
        have : (cs.map Cell.p)[y]? = some p := by rw [g2]; exact hp
        rw [List.getElem?_map, he] at this
        exact Option.some.inj this
      have hw : e.w = p.1 := by rw [← hpe]; rfl
      have hcL : (cs.map Cell.d)[y]? = some e.d := by rw [List.getElem?_map, he]; rfl
      have hpL : (b.2.map pairL)[y]? = some (pairL p) := by rw [List.getElem?_map, hp]; rfl
      walk_at "v"
      refine sx_if ?_
      walk_at "v"
      refine x_at (atI_nat hd) ?_
      walk_at "v"
      refine x_at (atI_nat hcL) ?_
      walk_at "v"
      refine x_at (atI_nat hd) ?_
      walk_at "v"
      refine x_at (atI_nat hcL) ?_
      walk_at "v"
      refine x_at (atI_nat hbL) ?_
      unfold boxL
      walk_at "v"
      refine x_at (atI_nat hpL) ?_
      unfold pairL
      walk_at "v"
      refine br_n (fun z => absurd hw z) (fun _ => ?_)
      walk_at "h"
      exact ⟨(), trivial, .same (.same (.same (.no .nil)))⟩
  · walk_at "h"
    exact h

def S__law_rows_right : List D → (D → Prop) → Prop := fun l K => ∃ bs : List BxT, l = [boxesD (bs.map boxR), .lst (bs.map boxL)] ∧ bs.length ≤ 8 ∧ (∀ b ∈ bs, BOk b) ∧ K (.bl true)
theorem ok__law_rows_right (T : Tx K mg) (l_Boxes : CalS P w K mg base 1 (He.ga K "Boxes") "__len__" (SpFam (CL K) S_BoxesD_lenD)) (c__law_is : Cal P w K mg base 1 "_law_is" ["actual", "due"] (SpFam (CL K) S__law_is)) (c__law_like_0 : Cal P w K mg base 1 "_law_like" ["actual", "due"] (SpFam (CL K) S__law_like_0)) : Cal P w K mg base 3 "_law_rows_right" ["made", "boxes"] (SpFam (CL K) S__law_rows_right) := by
  refine cal_mkF (N := ["made", "boxes", "k", "row", "j", "pair"]) T.g__law_rows_right T.d__law_rows_right sc__law_rows_right (fun _ _ _ _ _ _ us hl => match us, hl with | [_, _], _ => rfl) (by intro l Q h; first | (obtain ⟨rfl, _⟩ := h; rfl) | (obtain ⟨_, rfl, _⟩ := h; rfl) | (obtain ⟨_, _, rfl, _⟩ := h; rfl) | (obtain ⟨_, _, _, rfl, _⟩ := h; rfl) | (obtain ⟨_, _, _, _, rfl, _⟩ := h; rfl) | (obtain ⟨_, _, _, _, _, rfl, _⟩ := h; rfl) | (obtain ⟨_, _, _, _, _, _, rfl, _⟩ := h; rfl) | (obtain ⟨_, _, _, _, _, _, _, rfl, _⟩ := h; rfl) | (obtain ⟨_, _, _, _, _, _, _, _, rfl, _⟩ := h; rfl) | (obtain ⟨_, _, _, _, _, _, _, _, _, rfl, _⟩ := h; rfl) | (obtain ⟨_, _, _, _, _, _, _, _, _, _, rfl, _⟩ := h; rfl) | (obtain ⟨_, _, _, _, _, _, _, _, _, _, _, rfl, _⟩ := h; rfl)) (fun f cdv A outer s H E hr => ⟨_, (pss_cons (ps_if (PW.pt (pw_or (pt_cmpR op_ne (pe_callB (l_Boxes.len hr (by decide)) (by rfl) T.b_len PySem.boot_len (pa_cons (pv 0) pa_nil)) (pe_callB (cr_lenK K rfl) (by rfl) T.b_len PySem.boot_len (pa_cons (pv 1) pa_nil)) (nomark _)) (pw_or (pt_not (pt_val (pe_callB (cr_isK K rfl) (by rfl) T.b_isinstance (by decide +kernel) (pa_cons (pe_fldK K rfl (pv 0) rfl) (pa_cons (pe_bltn (v := .ty "tuple") (by rfl) T.b_tuple (by decide +kernel) rfl) pa_nil))))) (pw_or1 (pt_cmpR op_ne (pe_callB (cr_lenK K rfl) (by rfl) T.b_len PySem.boot_len (pa_cons (pe_fldK K rfl (pv 0) rfl) pa_nil)) (pe_callB (cr_lenK K rfl) (by rfl) T.b_len PySem.boot_len (pa_cons (pv 1) pa_nil)) (nomark _)))))) (pss_one (ps_ret pe_bl)) pss_nil) (pss_cons (ps_for PassesOwn.never rfl (pi_range1 (by rfl) T.b_range (pa_cons (pe_callB (cr_lenK K rfl) (by rfl) T.b_len PySem.boot_len (pa_cons (pv 1) pa_nil)) pa_nil)) (pg_name (i := 2) sc__law_rows_right.nd rfl (by first | exact Or.inl rfl | exact Or.inr rfl)) (pss_cons (ps_set (i := 3) sc__law_rows_right.nd rfl (by first | exact Or.inl rfl | exact Or.inr rfl) (pe_ix (ix_seqK K rfl) (pe_fldK K rfl (pv 0) rfl) (pv 2) (fun _ _ => rfl))) (pss_cons (ps_if (PW.pt (pw_or (pt_not (pt_val (pe_callB (cr_isK K rfl) (by rfl) T.b_isinstance (by decide +kernel) (pa_cons (pv 3) (pa_cons (pe_bltn (v := .ty "tuple") (by rfl) T.b_tuple (by decide +kernel) rfl) pa_nil))))) (pw_or (pt_cmpR op_ne (pe_callB (cr_lenK K rfl) (by rfl) T.b_len PySem.boot_len (pa_cons (pv 3) pa_nil)) pe_int (nomark _)) (pw_or1 (pt_not (pt_val (pe_calC c__law_is hr (by decide) (by rfl) (pa_cons (pe_ix (ix_seqK K rfl) (pv 3) pe_int (fun _ _ => rfl)) (pa_cons (pe_ix (ix_seqK K rfl) (pe_ix (ix_seqK K rfl) (pv 1) (pv 2) (fun _ _ => rfl)) pe_int (fun _ _ => rfl)) pa_nil))))))))) (pss_one (ps_ret pe_bl)) pss_nil) (pss_cons (ps_if (PW.pt (pw_or (pt_not (pt_val (pe_callB (cr_isK K rfl) (by rfl) T.b_isinstance (by decide +kernel) (pa_cons (pe_ix (ix_seqK K rfl) (pv 3) pe_int (fun _ _ => rfl)) (pa_cons (pe_bltn (v := .ty "tuple") (by rfl) T.b_tuple (by decide +kernel) rfl) pa_nil))))) (pw_or1 (pt_cmpR op_ne (pe_callB (cr_lenK K rfl) (by rfl) T.b_len PySem.boot_len (pa_cons (pe_ix (ix_seqK K rfl) (pv 3) pe_int (fun _ _ => rfl)) pa_nil)) (pe_callB (cr_lenK K rfl) (by rfl) T.b_len PySem.boot_len (pa_cons (pe_ix (ix_seqK K rfl) (pe_ix (ix_seqK K rfl) (pv 1) (pv 2) (fun _ _ => rfl)) pe_int (fun _ _ => rfl)) pa_nil)) (nomark _))))) (pss_one (ps_ret pe_bl)) pss_nil) (pss_one (ps_for PassesOwn.never rfl (pi_range1 (by rfl) T.b_range (pa_cons (pe_callB (cr_lenK K rfl) (by rfl) T.b_len PySem.boot_len (pa_cons (pe_ix (ix_seqK K rfl) (pv 3) pe_int (fun _ _ => rfl)) pa_nil)) pa_nil)) (pg_name (i := 4) sc__law_rows_right.nd rfl (by first | exact Or.inl rfl | exact Or.inr rfl)) (pss_cons (ps_set (i := 5) sc__law_rows_right.nd rfl (by first | exact Or.inl rfl | exact Or.inr rfl) (pe_ix (ix_seqK K rfl) (pe_ix (ix_seqK K rfl) (pv 3) pe_int (fun _ _ => rfl)) (pv 4) (fun _ _ => rfl))) (pss_cons (ps_if (PW.pt (pw_or (pt_not (pt_val (pe_callB (cr_isK K rfl) (by rfl) T.b_isinstance (by decide +kernel) (pa_cons (pv 5) (pa_cons (pe_bltn (v := .ty "tuple") (by rfl) T.b_tuple (by decide +kernel) rfl) pa_nil))))) (pw_or (pt_cmpR op_ne (pe_callB (cr_lenK K rfl) (by rfl) T.b_len PySem.boot_len (pa_cons (pv 5) pa_nil)) pe_int (nomark _)) (pw_or1 (pt_not (pt_val (pe_calC c__law_like_0 hr (by decide) (by rfl) (pa_cons (pe_ix (ix_seqK K rfl) (pv 5) pe_int (fun _ _ => rfl)) (pa_cons (pe_ix (ix_seqK K rfl) (pe_ix (ix_seqK K rfl) (pe_ix (ix_seqK K rfl) (pe_ix (ix_seqK K rfl) (pv 1) (pv 2) (fun _ _ => rfl)) pe_int (fun _ _ => rfl)) (pv 4) (fun _ _ => rfl)) pe_int (fun _ _ => rfl)) pa_nil))))))))) (pss_one (ps_ret pe_bl)) pss_nil) (pss_one (ps_if (pt_not (pt_val (pe_calC c__law_is hr (by decide) (by rfl) (pa_cons (pe_ix (ix_seqK K rfl) (pv 5) pe_int (fun _ _ => rfl)) (pa_cons (pe_ix (ix_seqK K rfl) (pe_ix (ix_seqK K rfl) (pe_ix (ix_seqK K rfl) (pe_ix (ix_seqK K rfl) (pv 1) (pv 2) (fun _ _ => rfl)) pe_int (fun _ _ => rfl)) (pv 4) (fun _ _ => rfl)) pe_int (fun _ _ => rfl)) pa_nil))))) (pss_one (ps_ret pe_bl)) pss_nil)))))))))) (pss_one (ps_ret pe_bl)))), ?_⟩)
  intro nn B l Q h
  obtain ⟨bs, rfl, hl, ok, h⟩ := h
  refine sx_skip ?_ ?_
  · walk_at "v"
    refine ck_len T (by rw [List.length_map]; omega) ?_
    walk_at "v"
    rw [List.length_map, List.length_map]
    refine br_n (fun z => absurd rfl z) (fun _ => ?_)
    walk_at "v"
    refine k_rows T ?_
    walk_at "v"
    refine ⟨_, rfl, ?_⟩
    walk_at "v"
    refine ck_ty T (.tup _) (.inr (.inr (.inr (.inl rfl)))) ?_
    walk_at "v"
    refine k_rows T ?_
    walk_at "v"
    refine ⟨_, rfl, ?_⟩
    walk_at "v"
    rw [List.length_map, List.length_map]
    exact decide_not_refl
  walk_at "h"
  refine sx_forGS ?_
  walk_at "v"
  refine ⟨(bs.length : Nat), by rw [List.length_map], by omega, by omega, ?_⟩
  refine ⟨Nat, List.range bs.length, _, Unit, fun j _ => [.d (boxesD (bs.map boxR)), .d (.lst (bs.map boxL)), .no, .no, .no, .no], fun _ _ => True, rng1, ⟨(), trivial, Wk.refl⟩, fun B' j x s hx hs => ?_, fun Γ' s hs w => sx_weak w ?_⟩
  · obtain ⟨rfl, hj⟩ := rng_get hx
    obtain ⟨b, hb⟩ : ∃ b, bs[x]? = some b := ⟨_, List.getElem?_eq_getElem hj⟩
    have okb := ok b (List.mem_of_getElem? hb)
    have l4 := okb.p.l4
    have hbL : (bs.map boxL)[x]? = some (boxL b) := by rw [List.getElem?_map, hb]; rfl
    have hbR : (bs.map boxR)[x]? = some (boxR b) := by rw [List.getElem?_map, hb]; rfl
    walk_at "v"
    refine sx_seq (sx_set rfl (ek_ix (el_ek (k_rows T (ek_var rfl ⟨_, rfl, ?_⟩)))))
    walk_at "v"
    refine x_at (atI_nat hbR) ?_
    have ebR : boxR b = .tup [.frac b.1, .tup (b.2.map pairR)] := rfl
    have ebL : boxL b = .tup [lowD b.1, .lst (b.2.map pairL)] := rfl
    refine sx_skip ?_ ?_
    · rw [ebR]
      walk_at "v"
      refine ck_ty T (.tup _) (.inr (.inr (.inr (.inl rfl)))) ?_
      walk_at "v"
      refine x_at (atI_nat hbL) ?_
      rw [ebL]
      walk_at "v"
      refine ⟨_, _, rfl, .frac _, (fun z => nomatch (show true = false from z)), fun p hp => ?_⟩
      cases hp
      rw [decide_eq_true rfl]
      walk_at "v"
      rfl
    refine sx_skip ?_ ?_
    · rw [ebR]
      walk_at "v"
      refine ck_ty T (.tup _) (.inr (.inr (.inr (.inl rfl)))) ?_
      walk_at "v"
      refine x_at (atI_nat hbL) ?_
      rw [ebL]
      walk_at "v"
      rw [List.length_map, List.length_map]
      exact decide_not_refl
    refine sx_forGS ?_
    rw [ebR]
    walk_at "v"
    refine ⟨(b.2.length : Nat), by rw [List.length_map], by omega, by omega, ?_⟩
    refine ⟨Nat, List.range b.2.length, _, Unit, fun j _ => [.d (boxesD (bs.map boxR)), .d (.lst (bs.map boxL)), .d (.int (x : Nat)), .d (.tup [.frac b.1, .tup (b.2.map pairR)]), .no, .no], fun _ _ => True, rng1, ⟨(), trivial, Wk.refl⟩, fun B2 i y s hy hs => ?_, fun Γ2 s hs w => ⟨(), trivial, w.trans (.same (.same (.no (.no (.no (.no .nil))))))⟩⟩
    obtain ⟨rfl, hi⟩ := rng_get hy
    obtain ⟨p, hp⟩ : ∃ p, b.2[y]? = some p := ⟨_, List.getElem?_eq_getElem hi⟩
    have hpR : (b.2.map pairR)[y]? = some (pairR p) := by rw [List.getElem?_map, hp]; rfl
    have hpL : (b.2.map pairL)[y]? = some (pairL p) := by rw [List.getElem?_map, hp]; rfl
    have epR : pairR p = .tup [.int p.1, .frac p.2] := rfl
    have epL : pairL p = .tup [.int p.1, lowD p.2] := rfl
    walk_at "v"
    refine sx_seq (sx_set rfl ?_)
    walk_at "v"
    refine x_at (atI_nat hpR) ?_
    rw [epR]
    refine sx_skip ?_ ?_
    · walk_at "v"
      refine ck_ty T (.tup _) (.inr (.inr (.inr (.inl rfl)))) ?_
      walk_at "v"
      refine x_at (atI_nat hbL) ?_
      rw [ebL]
      walk_at "v"
      refine x_at (atI_nat hpL) ?_
      rw [epL]
      walk_at "v"
      refine ⟨_, _, rfl, .int _, .inl ⟨_, rfl⟩, ?_⟩
      rw [show likeB (.int p.1) (.int p.1) = true from decide_eq_true rfl]
      walk_at "v"
      rfl
    refine sx_if ?_
    walk_at "v"
    refine x_at (atI_nat hbL) ?_
    rw [ebL]
    walk_at "v"
    refine x_at (atI_nat hpL) ?_
    rw [epL]
    walk_at "v"
    refine ⟨_, _, rfl, .frac _, (fun z => nomatch (show true = false from z)), fun q hq => ?_⟩
    cases hq
    rw [decide_eq_true rfl]
    walk_at "h"
    exact ⟨(), trivial, .same (.same (.same (.same (.no (.no .nil)))))⟩
  · walk_at "h"
    exact h

end

end K
end

section
set_option maxRecDepth 100000
set_option maxHeartbeats 4000000
namespace K
open PySem PySem.Spec PyProof.Rows L2 G

def SpoilS (top : Addr) (cs : List (Addr × List D)) : Prop := ∃ (ds : List D) (rest : List (Addr × List D)) (bs : List BxT), cs = (top, ds) :: rest ∧ All2 (RowC rest) ds bs ∧ bs.length ≤ 8 ∧ ∀ b ∈ bs, b.2.length ≤ 4
/-- the lists of a row -/
structure Rws (H : Hp) (L : List (Addr × Addr)) (n : Nat) : Prop where
  at_ : ∀ q ∈ L, ∃ x l, H q.1 = some (.lst [x, .ref q.2]) ∧ H q.2 = some (.lst l) ∧ l.length ≤ n
theorem Rws.mono {H : Hp} {L : List (Addr × Addr)} {n m : Nat} (h : Rws H L n) (k : n ≤ m) : Rws H L m := ⟨fun q hq => let ⟨x, l, h1, h2, h3⟩ := h.at_ q hq; ⟨x, l, h1, h2, Nat.le_trans h3 k⟩⟩
theorem vb_isT {σ : L2.St} {H : Hp} {te : TE} {K : PySem.W.Frag} {a : Addr} {xs : List V} (h : VB σ H te (.ref a)) (ha : H a = some (.tup xs)) : VB σ H (tCB (rIsU K) (tCons te (tCons (tC (.ty "list")) tNil))) (.bl false) := fun Q q =>
  h _ (.inl ⟨_, _, .type "tuple", .type "list", false, rfl, .ty "list", .base (.tup ha), kit_ty (by decide +kernel : kitB "tuple" "list" = some false), q⟩)
theorem vb_isL {σ : L2.St} {H : Hp} {te : TE} {K : PySem.W.Frag} {a : Addr} {xs : List V} (h : VB σ H te (.ref a)) (ha : H a = some (.lst xs)) : VB σ H (tCB (rIsU K) (tCons te (tCons (tC (.ty "list")) tNil))) (.bl true) := fun Q q =>
  h _ (.inl ⟨_, _, .type "list", .type "list", true, rfl, .ty "list", .base (.lst ha), kit_ty (by decide +kernel : kitB "list" "list" = some true), q⟩)
theorem tb_B {σ : L2.St} {H : Hp} {te : TE} {b : Bool} (h : VB σ H te (.bl b)) : TB σ H (tB te) b := fun Q q => h _ ⟨b, rfl, q⟩
theorem rows_facts {C : Cl} {P : Option Addr} {W H : Hp} {top : Addr} {cs : List (Addr × List D)} (hS : SpoilS top cs) (nd : (cs.map (·.1)).Nodup) (hw : Same W H) (hc : ∀ p ∈ cs, ∃ us, H p.1 = some (.lst us) ∧ W p.1 = none ∧ RepL C P W us p.2) :
    ∃ (us : List V) (L : List (Addr × Addr)), H top = some (.lst us) ∧ us.length ≤ 8 ∧ Rws H L 4 ∧ (∀ q ∈ L, q.1 ≠ top ∧ q.2 ≠ top ∧ (∃ l, (q.1, l) ∈ cs) ∧ (∃ l, (q.2, l) ∈ cs)) ∧ (∀ q ∈ L, ∀ q' ∈ L, q.1 ≠ q'.2) ∧ (∀ q ∈ L, ∀ q' ∈ L, q.1 = q'.1 → q.2 = q'.2) ∧ (∃ l, (top, l) ∈ cs) ∧
      ∀ v ∈ us, (∃ a t, v = .ref a ∧ H a = some (.tup t) ∧ ∀ p ∈ cs, p.1 ≠ a) ∨ ∃ q ∈ L, v = .ref q.1 := by
  obtain ⟨ds, rest, bs, rfl, hA, hl, hb⟩ := hS
  obtain ⟨us, h1, h2, h3⟩ := hc (top, ds) List.mem_cons_self
  have dist : ∀ {a : Addr} {l l' : List D}, (a, l) ∈ (top, ds) :: rest → (a, l') ∈ (top, ds) :: rest → l = l' := fun {a l l'} g1 g2 => by
    obtain ⟨i, hi⟩ := List.mem_iff_getElem?.mp g1
    obtain ⟨j, hj⟩ := List.mem_iff_getElem?.mp g2
    have e1 : (((top, ds) :: rest).map (·.1))[i]? = some a := by rw [List.getElem?_map, hi]; rfl
    have e2 : (((top, ds) :: rest).map (·.1))[j]? = some a := by rw [List.getElem?_map, hj]; rfl
    have hlt := (List.getElem?_eq_some_iff.mp e1).1
    have := (List.getElem?_inj hlt nd).mp (e1.trans e2.symm)
    subst this
    rw [hi] at hj
    cases hj; rfl
  have notop : ∀ {a : Addr} {l : List D}, (a, l) ∈ rest → a ≠ top := fun {a l} g z => by
    subst z
    rw [List.map_cons] at nd
    exact (List.nodup_cons.mp nd).1 (List.mem_map_of_mem (f := (·.1)) g)
  let Lp : Addr × Addr → Prop := fun q => ∃ (c : D) (cl : List Cell), (q.1, [c, .adr q.2]) ∈ rest ∧ (q.2, cl.map Cell.d) ∈ rest ∧ cl.length ≤ 4
  have hL : ∃ L : List (Addr × Addr), (∀ q ∈ L, Lp q) ∧ ∀ d ∈ ds, (∃ t, d = .tup t) ∨ ∃ q ∈ L, d = .adr q.1 := by
    clear h1 h2 h3 nd dist notop hc hl
    induction hA with
    | nil => exact ⟨[], (fun _ h => (nomatch h)), (fun _ h => (nomatch h))⟩
    | @cons d b ds bs hr ht ih =>
      obtain ⟨L, l1, l2⟩ := ih (fun b' hb' => hb b' (List.mem_cons_of_mem _ hb'))
      rcases hr with ⟨_, t, rfl⟩ | ⟨r, p, c, cl, rfl, g1, g2, g3, g4, g5⟩
      · exact ⟨L, l1, fun x hx => by
          rcases List.mem_cons.mp hx with rfl | hx
          · exact .inl ⟨_, rfl⟩
          · exact l2 x hx⟩
      · refine ⟨(r, p) :: L, fun q hq => ?_, fun x hx => ?_⟩
        · rcases List.mem_cons.mp hq with rfl | hq
          · refine ⟨c, cl, g1, g2, ?_⟩
            have := hb b List.mem_cons_self
            have e : cl.length = b.2.length := by rw [← g4, List.length_map]
            omega
          · exact l1 q hq
        · rcases List.mem_cons.mp hx with rfl | hx
          · exact .inr ⟨(r, p), List.mem_cons_self, rfl⟩
          · rcases l2 x hx with z | ⟨q, hq, e⟩
            · exact .inl z
            · exact .inr ⟨q, List.mem_cons_of_mem _ hq, e⟩
  obtain ⟨L, l1, l2⟩ := hL
  refine ⟨us, L, h1, by rw [h3.length, hA.length]; exact hl, ⟨fun q hq => ?_⟩, fun q hq => ?_, fun q hq q' hq' z => ?_, fun q hq q' hq' z => ?_, ⟨ds, List.mem_cons_self⟩, fun v hv => ?_⟩
  · obtain ⟨c, cl, g1, g2, g3⟩ := l1 q hq
    obtain ⟨u1, k1, k2, k3⟩ := hc _ (List.mem_cons_of_mem _ g1)
    obtain ⟨u2, k4, k5, k6⟩ := hc _ (List.mem_cons_of_mem _ g2)
    cases k3 with
    | cons r1 k3 =>
      cases k3 with
      | cons r2 k3 =>
        cases k3; cases r2
        exact ⟨_, u2, k1, k4, by rw [k6.length, List.length_map]; exact g3⟩
  · obtain ⟨c, cl, g1, g2, g3⟩ := l1 q hq
    exact ⟨notop g1, notop g2, ⟨_, List.mem_cons_of_mem _ g1⟩, ⟨_, List.mem_cons_of_mem _ g2⟩⟩
  · obtain ⟨c, cl, g1, g2, g3⟩ := l1 q hq
    obtain ⟨c', cl', g4, g5, g6⟩ := l1 q' hq'
    rw [← z] at g5
    have e := dist (List.mem_cons_of_mem _ g1) (List.mem_cons_of_mem _ g5)
    have e := congrArg (fun l => l[1]?) e
    simp only [List.getElem?_map] at e
    cases hy : cl'[1]? with
    | none => rw [hy] at e; cases e
    | some y =>
      rw [hy] at e
      simp at e
      unfold Cell.d at e
      cases hk : y.k <;> rw [hk] at e <;> cases e
  · obtain ⟨c, cl, g1, g2, g3⟩ := l1 q hq
    obtain ⟨c', cl', g4, g5, g6⟩ := l1 q' hq'
    rw [← z] at g4
    have e := dist (List.mem_cons_of_mem _ g1) (List.mem_cons_of_mem _ g4)
    simp at e
    exact e.2
  · obtain ⟨i, hi⟩ := List.mem_iff_getElem?.mp hv
    obtain ⟨d, hd, rd⟩ := h3.getV hi
    rcases l2 d (List.mem_of_getElem? hd) with ⟨t, rfl⟩ | ⟨q, hq, rfl⟩
    · cases rd with
      | @tup a xs _ ha _ =>
        refine .inl ⟨a, _, rfl, hw _ _ ha, fun p hp z => ?_⟩
        obtain ⟨u, _, k2, _⟩ := hc p hp
        rw [z, ha] at k2; cases k2
    · cases rd
      exact .inr ⟨q, hq, rfl⟩
section
local macro_rules | `(tactic| walk_at "e") => `(tactic| first
  | ((with_reducible refine' ek_var ?h1 ?_); (case h1 => exact rfl))
  | (with_reducible refine ek_int ?_)
  | (with_reducible refine ek_bl ?_)
  | (with_reducible refine ek_non ?_)
  | (with_reducible refine ek_str ?_)
  | (with_reducible refine ek_ty ?_)
  | (with_reducible refine ek_cls ?_)
  | (with_reducible refine ek_ix ?_)
  | (with_reducible refine ek_un ?_)
  | (with_reducible refine ek_tup ?_)
  | (with_reducible refine k_call ?_)
  | (with_reducible refine ek_len ?_)
  | (with_reducible refine ek_tuple ?_)
  | (with_reducible refine ek_sum ?_)
  | (with_reducible refine ek_all ?_)
  | (with_reducible refine ek_any ?_)
  | (with_reducible refine ek_chain ?_)
  | (with_reducible refine ek_andV ?_)
  | (with_reducible refine ek_orV ?_)
  | (with_reducible refine ek_notV ?_)
  | (with_reducible refine ek_if ?_)
  | (with_reducible refine ek_ef (ef_lst ?_))
  | (with_reducible refine ek_ef (ef_list ?_))
  | (with_reducible refine ek_ef (ef_cat ?_))
  | (with_reducible refine ek_ef (ef_rep ?_))
  | (with_reducible refine ek_ef (ef_slice ?_))
  | (with_reducible refine ek_ef (ef_rev ?_))
  | (with_reducible refine ek_ef (ef_lstRev ?_))
  | (with_reducible refine ek_ef (ef_map ?_))
  | (with_reducible refine ek_ef (ef_filt ?_))
  | (with_reducible refine ef_lst ?_)
  | (with_reducible refine ef_list ?_)
  | (with_reducible refine ef_cat ?_)
  | (with_reducible refine ef_rep ?_)
  | (with_reducible refine ef_slice ?_)
  | (with_reducible refine ef_rev ?_)
  | (with_reducible refine ef_lstRev ?_)
  | (with_reducible refine ef_map ?_)
  | (with_reducible refine ef_filt ?_)
  | ((with_reducible refine' el_var ?h1 ?_); (case h1 => exact rfl))
  | ((with_reducible refine' el_own ?h1 ?_); (case h1 => exact rfl))
  | (with_reducible refine el_ef (ef_lst ?_))
  | (with_reducible refine el_ef (ef_list ?_))
  | (with_reducible refine el_ef (ef_cat ?_))
  | (with_reducible refine el_ef (ef_rep ?_))
  | (with_reducible refine el_ef (ef_slice ?_))
  | (with_reducible refine el_ef (ef_rev ?_))
  | (with_reducible refine el_ef (ef_lstRev ?_))
  | (with_reducible refine el_ef (ef_map ?_))
  | (with_reducible refine el_ef (ef_filt ?_))
  | (with_reducible refine ek_op ?_)
  | (with_reducible refine ek_cb ?_)
  | (with_reducible refine el_ek ?_)
  | (with_reducible refine tk_test ?_)
  | (with_reducible refine tk_B ?_)
  | (with_reducible refine tk_and ?_)
  | (with_reducible refine tk_or ?_)
  | (with_reducible refine tk_not ?_)
  | (with_reducible refine tk_yes ?_)
  | (with_reducible refine ak_nil ?_)
  | (with_reducible refine ak_cons ?_)
  | (with_reducible refine k_num (‹Tx _ _›) ?_)
  | (with_reducible refine k_den (‹Tx _ _›) ?_)
  | (with_reducible refine k_mk2 ?_)
  | (with_reducible refine k_mk1 ?_)
  | (with_reducible refine k_bel ?_)
  | (with_reducible refine k_own ?_)
  | (with_reducible refine rk_U2 (k_own ?_))
  | (with_reducible refine rk_mul (Sz.mul (by assumption) (by assumption)) ?_)
  | (with_reducible refine rk_U1 (rk_mul (Sz.mul (by assumption) (by assumption)) ?_))
  | (with_reducible refine ek_dget ?_)
  | (with_reducible refine uk_neg ?_)
  | (with_reducible refine ek_disp ?_)
  | (with_reducible refine pk_cons ?_)
  | (with_reducible refine pk_nil ?_)
  | (with_reducible refine rk_mod (by assumption) ?_)
  | (with_reducible refine rk_add ?_)
  | (with_reducible refine rk_sub ?_)
  | (with_reducible refine rk_lt ?_)
  | (with_reducible refine rk_le ?_)
  | (with_reducible refine rk_gt ?_)
  | (with_reducible refine rk_ge ?_)
  | (with_reducible refine rk_eqI ?_)
  | (with_reducible refine rk_neI ?_)
  | (with_reducible refine rk_isN ?_)
  | (with_reducible refine rk_notN ?_)
  | (with_reducible refine rk_U1 (rk_add ?_))
  | (with_reducible refine rk_U1 (rk_sub ?_))
  | (with_reducible refine ck_gcd ?_)
  | (with_reducible refine ck_abs ?_)
  | (with_reducible refine ck_int ?_)
  | (with_reducible refine ik_seq ?_)
  | (with_reducible refine ik_range1 ?_)
  | (with_reducible refine ik_range2 ?_)
  | (with_reducible refine ik_enumA ?_)
  | (with_reducible refine ik_zip ?_)
  | (with_reducible refine ik_rev ?_)
  | ((with_reducible refine' cg_name ?_ ?h1 ?h2); (case h1 => exact rfl); (case h2 => decide))
  | ((with_reducible refine' cg_anyT ?h1 ?_); (case h1 => exact rfl))
  | ((with_reducible refine' cg_anyL ?h1 ?_); (case h1 => exact rfl))
  | ((with_reducible refine' cg_anyK ?h1 ?_); (case h1 => exact rfl))
  | ((with_reducible refine' cgs_cons ?_ ?h1 ?h2); (case h1 => exact rfl); (case h2 => decide))
  | (with_reducible refine cgs_nil ?_)
  | ((with_reducible refine' gk_name ?_ ?h1); (case h1 => exact rfl))
  | ((with_reducible refine' gk_anyT ?h1 ?_); (case h1 => exact rfl))
  | ((with_reducible refine' gk_anyL ?h1 ?_); (case h1 => exact rfl))
  | ((with_reducible refine' gk_anyK ?h1 ?_); (case h1 => exact rfl))
  | ((with_reducible refine' gks_cons ?_ ?h1); (case h1 => exact rfl))
  | ((with_reducible refine' gks_consA (n := 0) ?_ ?h1 ?h2); (case h1 => exact rfl); (case h2 => exact rfl))
  | ((with_reducible refine' gks_consB ?h0 ?_ ?h1 ?h2); (case h0 => exact rfl); (case h1 => exact rfl); (case h2 => exact rfl))
  | (with_reducible refine gks_nil ?_)
  | (with_reducible refine ok_none ?_)
  | (with_reducible refine ok_some ?_))
local macro_rules | `(tactic| walk_at "s") => `(tactic| first
  | (with_reducible refine sx_guard ?_ ?_)
  | (with_reducible refine sx_seq ?_)
  | ((with_reducible refine' sx_retO ?h1 ?_); (case h1 => exact rfl))
  | (with_reducible refine sx_ret ?_)
  | (with_reducible refine sx_if ?_)
  | (with_reducible refine sx_next ?_)
  | (with_reducible refine sx_break ?_)
  | (with_reducible refine sx_cont ?_)
  | ((with_reducible refine' sx_append ?h1 ?_); (case h1 => exact rfl))
  | ((with_reducible refine' sx_setI ?h1 ?_); (case h1 => exact rfl))
  | ((with_reducible refine' sx_set ?h1 ?_); (case h1 => exact rfl))
  | (with_reducible refine sx_asg ?_)
  | ((with_reducible refine' sx_par ?h1 ?h2 ?_); (case h1 => exact rfl); (case h2 => exact rfl))
  | (with_reducible refine sx_drop ?_)
  | ((with_reducible refine' k_fldS (‹Tx _ _›) ?h1 ?h2 ?h3 ?_); (case h1 => exact rfl); (case h2 => decide); (case h3 => exact rfl)))
/-! plain existentials that the rules leave -/
local macro_rules | `(tactic| walk_at "x") => `(tactic| first
  | (with_reducible refine x_bl ?_)
  | (with_reducible refine x_int ?_)
  | (with_reducible refine x_frac ?_)
  | (with_reducible refine x_lst ?_)
  | (with_reducible refine x_tup ?_)
  | (with_reducible refine x_kd ?_)
  | (with_reducible refine x_oneL ?_)
  | (with_reducible refine x_oneT ?_)
  | (with_reducible refine x_one ?_)
  | ((with_reducible refine' x_at ?h1 ?_); (case h1 => exact rfl))
  | ((with_reducible refine' x_dic ?h1 ?_); (case h1 => exact rfl))
  | (with_reducible refine (⟨rfl, ?_⟩ : Kd.l = Kd.l ∧ _))
  | ((with_reducible refine' x_len ?h1 ?_); (case h1 => exact rfl))
  | ((with_reducible refine' br_t ?h1 ?_); (case h1 => exact rfl))
  | ((with_reducible refine' br_f ?h1 ?_); (case h1 => exact rfl)))
local macro_rules | `(tactic| walk_at "f") => `(tactic| first
  | ((with_reducible refine' sx_forW ?h1 ?_); (case h1 => exact rfl))
  | (with_reducible refine sx_forGW ?_))
local macro_rules | `(tactic| walk_at "g") => `(tactic| repeat (first | walk_at "s" | walk_at "f" | walk_at "e" | walk_at "x"))
local macro_rules | `(tactic| walk_at "v") => `(tactic| repeat (first | walk_at "e" | walk_at "x"))
local macro_rules | `(tactic| walk_at "h") => `(tactic| repeat (first | walk_at "s" | walk_at "e" | walk_at "x"))
variable {P : Program} {w : World} {K : PySem.W.Frag} {mg : Str → Option Value} {base : Heap}

theorem ok__law_spoil (T : Tx K mg)  : Cal P w K mg base 1 "_law_spoil" ["rows"] (SpSpoil (CL K) SpoilS) := by
  obtain ⟨fd, Fd⟩ := T.d__law_spoil
  refine ⟨T.g__law_spoil, Fd.kp, fd, Fd.ok (N := ["rows", "k", "row"]) sc__law_spoil (fun vs H Q E ⟨n, P, W, top, cs, e, _⟩ => by rw [e]; rfl) (fun cdv A outer s H vs Q E hr hsp => ⟨_, PSs.nox (pss_cons (ps_for PassesOwn.never rfl (pi_range1 (by rfl) T.b_range (pa_cons (pe_callB (cr_lenK K rfl) (by rfl) T.b_len PySem.boot_len (pa_cons (pv 0) pa_nil)) pa_nil)) (pg_name (i := 1) sc__law_spoil.nd rfl (by first | exact Or.inl rfl | exact Or.inr rfl)) (pss_cons (ps_set (i := 2) sc__law_spoil.nd rfl (by first | exact Or.inl rfl | exact Or.inr rfl) (pe_ix (ix_seqK K rfl) (pv 0) (pv 1) (fun _ _ => rfl))) (pss_cons (ps_if (pt_val (pe_callB (cr_isK K rfl) (by rfl) T.b_isinstance (by decide +kernel) (pa_cons (pv 2) (pa_cons (pe_bltn (v := .ty "list") (by rfl) T.b_list (by decide +kernel) rfl) pa_nil)))) (pss_cons (ps_asg pe_int (pg_sub (pv 2) pe_int set_list)) (pss_one (ps_expr (pe_bm PySem.F.plainAttrs_list PySem.F.slot_list_append PySem.F.type_list_append mt_append (pe_ix (ix_seqK K rfl) (pv 2) pe_int (fun _ _ => rfl)) (pa_cons (pe_lst (pa_cons pe_int (pa_cons pe_int pa_nil))) pa_nil))))) pss_nil) (pss_one (ps_asg pe_non (pg_sub (pv 0) (pv 1) set_list)))))) (pss_one (ps_expr (pe_bm PySem.F.plainAttrs_list PySem.F.slot_list_append PySem.F.type_list_append mt_append (pv 0) (pa_cons pe_int pa_nil))))), ?_⟩), Fd.bindsN (fun _ _ _ _ _ _ us hl => match us, hl with | [_], _ => rfl)⟩
  obtain ⟨n, P', W, top, cs, rfl, hw, pl, hS, nd, hc, fin⟩ := hsp
  obtain ⟨us, L, h1, h2, h3, h4, h5, h6, h7, h8⟩ := rows_facts hS nd hw hc
  have ctop : ∀ a o, H a = some o → (∀ p ∈ cs, p.1 ≠ a) → a ≠ top := fun a o _ g z => by
    obtain ⟨l, hl⟩ := h7
    exact g _ hl z.symm
  refine rs_cut (fun σ1 H1 => σ1[0]? = some (some (.ref top)) ∧ (∃ us', H1 top = some (.lst us') ∧ us'.length = us.length) ∧ (∀ a o, H a = some o → (∀ p ∈ cs, p.1 ≠ a) → H1 a = some o) ∧ ∀ a o, H a = some o → ∃ o', H1 a = some o') (fun D1 hD hR => ?_) ?_
  · refine vb_len (K := K) (vb_var (i := 0) rfl) h1 _ ?_
    refine ⟨us.length, rfl, by omega, by omega, ?_⟩
    refine ⟨fun i m σ1 H1 => m = us.length - i ∧ i ≤ us.length ∧ σ1[0]? = some (some (.ref top)) ∧ σ1.length = 3 ∧ (∃ us', H1 top = some (.lst us') ∧ us'.length = us.length ∧ ∀ k, i ≤ k → us'[k]? = us[k]?) ∧ Rws H1 L (4 + i) ∧ (∀ a o, H a = some o → (∀ p ∈ cs, p.1 ≠ a) → H1 a = some o) ∧ ∀ a o, H a = some o → ∃ o', H1 a = some o', ⟨us.length, rfl, Nat.zero_le _, rfl, rfl, ⟨us, h1, rfl, fun _ _ => rfl⟩, h3, fun a o z _ => z, fun a o z => ⟨o, z⟩⟩, ?_⟩
    rintro i m σ1 H1 ⟨rfl, hi, s0, sl, ⟨us', u1, u2, u3⟩, rw1, c1, c2⟩
    rw [Int.toNat_natCast]
    by_cases hlt : i < us.length
    · refine .inr ⟨hlt, fun σ' H' => i + 1 ≤ us.length ∧ σ'[0]? = some (some (.ref top)) ∧ σ'.length = 3 ∧ (∃ us', H' top = some (.lst us') ∧ us'.length = us.length ∧ ∀ k, i + 1 ≤ k → us'[k]? = us[k]?) ∧ Rws H' L (4 + (i + 1)) ∧ (∀ a o, H a = some o → (∀ p ∈ cs, p.1 ≠ a) → H' a = some o) ∧ ∀ a o, H a = some o → ∃ o', H' a = some o', fun σ' H' z => ⟨us.length - (i + 1), by omega, rfl, z⟩, fun x H' ⟨e1, e2⟩ => ?_⟩
      subst e1; subst e2
      rw [Int.zero_add]
      show tSeq _ _ _ (σ1.set 1 (some (.int (i : Nat)))) H'
      have t0 : (σ1.set 1 (some (V.int (i : Nat))))[0]? = some (some (.ref top)) := by rw [List.getElem?_set_ne (by decide)]; exact s0
      have t1 : (σ1.set 1 (some (V.int (i : Nat))))[1]? = some (some (.int (i : Nat))) := by rw [List.getElem?_set_self (by omega)]
      have hv : us'[i]? = some us[i] := by rw [u3 i (Nat.le_refl _)]; simp [hlt]
      refine rs_seq (rs_asg (vb_ix (vb_var t0) (vb_var t1) u1 (atI_nat hv)) ?_)
      have w0 : ((σ1.set 1 (some (V.int (i : Nat)))).set 2 (some us[i]))[0]? = some (some (.ref top)) := by rw [List.getElem?_set_ne (by decide)]; exact t0
      have w1 : ((σ1.set 1 (some (V.int (i : Nat)))).set 2 (some us[i]))[1]? = some (some (.int (i : Nat))) := by rw [List.getElem?_set_ne (by decide)]; exact t1
      have w2 : ((σ1.set 1 (some (V.int (i : Nat)))).set 2 (some us[i]))[2]? = some (some us[i]) := by rw [List.getElem?_set_self (by simp; omega)]
      have wl : ((σ1.set 1 (some (V.int (i : Nat)))).set 2 (some us[i])).length = 3 := by simp; omega
      dsimp only
      refine rs_cut (fun σ2 H2 => σ2 = ((σ1.set 1 (some (V.int (i : Nat)))).set 2 (some us[i])) ∧ H2 top = some (.lst us') ∧ Rws H2 L (4 + (i + 1)) ∧ (∀ a o, H a = some o → (∀ p ∈ cs, p.1 ≠ a) → H2 a = some o) ∧ ∀ a o, H a = some o → ∃ o', H2 a = some o') (fun D2 hD2 hR2 => ?_) ?_
      · rcases h8 us[i] (List.getElem_mem hlt) with ⟨a, t, ea, ha, hn⟩ | ⟨q, hq, eq⟩
        · rw [ea] at w2
          rw [ea]
          refine rs_if (tb_B (vb_isT (vb_var w2) (c1 a _ ha hn))) (fun z => nomatch z) (fun _ => rs_next (hD2 _ _ ⟨by rw [ea], u1, rw1.mono (by omega), c1, c2⟩))
        · rw [eq] at w2
          rw [eq]
          obtain ⟨x, l, k1, k2, k3⟩ := rw1.at_ q hq
          obtain ⟨n1, n2, ⟨l1, hl1⟩, ⟨l2, hl2⟩⟩ := h4 q hq
          refine rs_if (tb_B (vb_isL (vb_var w2) k1)) (fun _ => ?_) (fun z => nomatch z)
          refine rs_seq (rs_setL vb_c (vb_var w2) vb_c k1 rfl ?_)
          have nq : q.2 ≠ q.1 := fun z => h5 q hq q hq z.symm
          have m1 : (upd H' q.1 (.lst (([x, .ref q.2] : List V).set 0 (.int 77)))) q.1 = some (.lst [.int 77, .ref q.2]) := upd_same
          have m2 : (upd H' q.1 (.lst (([x, .ref q.2] : List V).set 0 (.int 77)))) q.2 = some (.lst l) := by rw [upd_ne nq]; exact k2
          refine (vb_at (K := K) (i := 1) (v := .ref q.2) (vb_var w2) m1 rfl) _ ?_
          refine ⟨.inl ⟨rfl, _, SqL.of m2⟩, ?_⟩
          refine ⟨Nat.le_of_lt (small1000 (by simp)), fun p hp => ?_⟩
          have pq2 : q.2 ≠ p := fun z => by rw [← z, m2] at hp; cases hp
          have pq1 : q.1 ≠ p := fun z => by rw [← z, m1] at hp; cases hp
          refine ⟨q.2, l, .ref p, rfl, rfl, by rw [upd_ne pq2]; exact m2, small1000 (by omega), ?_⟩
          have at2 : ∀ a, a ≠ q.1 → a ≠ q.2 → (∃ o, H' a = some o) → upd (upd (upd H' q.1 (.lst (([x, .ref q.2] : List V).set 0 (.int 77)))) p (.lst [.int 1, .int 7777])) q.2 (.lst (l ++ [.ref p])) a = H' a := fun a z1 z2 ⟨o, z3⟩ => by
            have z4 : a ≠ p := fun y => by
              rw [← y, upd_ne z1, z3] at hp; cases hp
            rw [upd_ne z2, upd_ne z4, upd_ne z1]
          refine hD2 _ _ ⟨by rw [eq], by rw [at2 top (Ne.symm n1) (Ne.symm n2) ⟨_, u1⟩]; exact u1, ⟨fun q' hq' => ?_⟩, fun a o z1 z2 => ?_, fun a o z1 => ?_⟩
          · obtain ⟨x', l', g1, g2, g3⟩ := rw1.at_ q' hq'
            have e1 : ∃ x'', upd (upd (upd H' q.1 (.lst (([x, .ref q.2] : List V).set 0 (.int 77)))) p (.lst [.int 1, .int 7777])) q.2 (.lst (l ++ [.ref p])) q'.1 = some (.lst [x'', .ref q'.2]) := by
              have z2 : q'.1 ≠ q.2 := h5 q' hq' q hq
              by_cases z1 : q'.1 = q.1
              · have z3 := h6 q' hq' q hq z1
                rw [z1, z3]
                exact ⟨.int 77, by rw [upd_ne (Ne.symm nq), upd_ne pq1]; exact m1⟩
              · exact ⟨x', by rw [at2 _ z1 z2 ⟨_, g1⟩]; exact g1⟩
            have e2 : ∃ l'', upd (upd (upd H' q.1 (.lst (([x, .ref q.2] : List V).set 0 (.int 77)))) p (.lst [.int 1, .int 7777])) q.2 (.lst (l ++ [.ref p])) q'.2 = some (.lst l'') ∧ l''.length ≤ 4 + (i + 1) := by
              by_cases z1 : q'.2 = q.2
              · rw [z1]
                exact ⟨_, upd_same, by simp; omega⟩
              · have z2 : q'.2 ≠ q.1 := fun y => h5 q hq q' hq' y.symm
                exact ⟨l', by rw [at2 _ z2 z1 ⟨_, g2⟩]; exact g2, by omega⟩
            obtain ⟨x'', e1⟩ := e1
            obtain ⟨l'', e2, e3⟩ := e2
            exact ⟨x'', l'', e1, e2, e3⟩
          · have y := c1 a o z1 z2
            rw [at2 a (fun w => z2 _ hl1 w.symm) (fun w => z2 _ hl2 w.symm) ⟨o, y⟩]
            exact y
          · obtain ⟨o', y⟩ := c2 a o z1
            by_cases y1 : a = q.2
            · subst y1; exact ⟨_, upd_same⟩
            · by_cases y2 : a = q.1
              · subst y2
                exact ⟨_, by rw [upd_ne (Ne.symm nq), upd_ne pq1]; exact m1⟩
              · exact ⟨o', by rw [at2 a y2 y1 ⟨_, y⟩]; exact y⟩
      · rintro σ2 H2 ⟨rfl, v1, v2, v3, v4⟩
        have hix : ixN us'.length ((i : Nat) : Int) = some i := by
          unfold ixN
          rw [if_pos (by omega), if_pos (by omega)]; simp
        refine rs_setL vb_c (vb_var w0) (vb_var w1) v1 hix ?_
        have nt : ∀ q ∈ L, q.1 ≠ top ∧ q.2 ≠ top := fun q hq => ⟨(h4 q hq).1, (h4 q hq).2.1⟩
        refine ⟨hlt, w0, wl, ⟨us'.set i .non, upd_same, by rw [List.length_set]; exact u2, fun k hk => ?_⟩, ⟨fun q hq => ?_⟩, fun a o z1 z2 => ?_, fun a o z1 => ?_⟩
        · rw [List.getElem?_set_ne (by omega)]
          exact u3 k (by omega)
        · obtain ⟨x, l, g1, g2, g3⟩ := v2.at_ q hq
          exact ⟨x, l, by rw [upd_ne (nt q hq).1]; exact g1, by rw [upd_ne (nt q hq).2]; exact g2, g3⟩
        · rw [upd_ne (ctop a o z1 z2)]
          exact v3 a o z1 z2
        · obtain ⟨o', y⟩ := v4 a o z1
          by_cases ya : a = top
          · subst ya; exact ⟨_, upd_same⟩
          · exact ⟨o', by rw [upd_ne ya]; exact y⟩
    · have hh : i = us.length := by omega
      subst hh
      exact .inl ⟨Nat.le_refl _, hD _ _ ⟨s0, ⟨us', u1, u2⟩, c1, c2⟩⟩
  · rintro σ1 H1 ⟨s0, ⟨us', u1, u2⟩, c1, c2⟩
    refine ⟨_, s0, .inl ⟨rfl, _, SqL.of u1⟩, ?_⟩
    refine ⟨top, us', .int 5, rfl, rfl, u1, small1000 (by omega), ?_⟩
    refine fin _ (fun a o z1 z2 => ?_) fun a o z1 => ?_
    · rw [upd_ne (ctop a o z1 z2)]
      exact c1 a o z1 z2
    · obtain ⟨o', y⟩ := c2 a o z1
      by_cases ya : a = top
      · subst ya; exact ⟨_, upd_same⟩
      · exact ⟨o', by rw [upd_ne ya]; exact y⟩

end

end K
end

section
set_option maxRecDepth 100000
set_option maxHeartbeats 4000000
namespace K
open PySem PySem.Spec PyProof.Rows L2 G

def BadN (d : D) : Prop := KnR d ∧ (amtB d && decide (0 ≤ (valA d).num)) = false
theorem bad_int {i : Int} (h : i < 0 ∨ 9999 < i) : BadN (.int i) := ⟨.int i, by
  show (decide (-9999 ≤ i ∧ i ≤ 9999) && decide (0 ≤ ((i : Rat)).num)) = false
  rw [Rat.num_intCast]
  rcases h with h | h
  · rw [decide_eq_false (show ¬ 0 ≤ i by omega), Bool.and_false]
  · rw [decide_eq_false (show ¬ (-9999 ≤ i ∧ i ≤ 9999) by omega), Bool.false_and]⟩
theorem bad_frac {q : Rat} (s : SzQ q) (h : q.num < 0 ∨ 9999 < q.num ∨ 99 < q.den) : BadN (.frac q) := ⟨.frac s, by
  show (decide (-9999 ≤ q.num ∧ q.num ≤ 9999 ∧ q.den ≤ 99) && decide (0 ≤ q.num)) = false
  rcases h with h | h
  · rw [decide_eq_false (show ¬ 0 ≤ q.num by omega), Bool.and_false]
  · rw [decide_eq_false (show ¬ (-9999 ≤ q.num ∧ q.num ≤ 9999 ∧ q.den ≤ 99) by omega), Bool.false_and]⟩
theorem sz_div {n d : Int} (hd : 0 < d) (h1 : n.natAbs ≤ 20000) (h2 : d ≤ 20000) : SzQ (Rat.divInt n d) := by
  refine ⟨of_small (n := 20000) ?_ (by decide), of_small (n := 20000) ?_ (by decide)⟩
  · rw [divInt_num hd]
    have := Int.natAbs_ediv_le_natAbs n ((n.natAbs.gcd d.natAbs : Nat) : Int)
    omega
  · rw [divInt_den hd]
    have : (d / ((n.natAbs.gcd d.natAbs : Nat) : Int)) ≤ d := Int.ediv_le_self _ (by omega)
    have : 0 ≤ (d / ((n.natAbs.gcd d.natAbs : Nat) : Int)) := Int.ediv_nonneg (by omega) (by omega)
    omega
theorem den_gt {n d : Int} (hd : 0 < d) (h : 99 < d / ((n.natAbs.gcd d.natAbs : Nat) : Int)) : 99 < (Rat.divInt n d).den := by
  have := divInt_den (n := n) hd
  have e : ((n.gcd d : Nat) : Int) = ((n.natAbs.gcd d.natAbs : Nat) : Int) := rfl
  first
    | omega
    | (rw [e] at this; omega)
theorem big_of {i : Int} (h : i.natAbs ≤ 20000) : i.natAbs < 2 ^ 9000 := Nat.lt_of_le_of_lt h (Nat.lt_trans (show 20000 < 2 ^ 64 by decide) (by exact Nat.pow_lt_pow_right (by decide) (by decide)))
/-- cells of a drawn row -/
def ci (p : Addr × Cell) : Addr × List D := (p.1, [D.int p.2.w, p.2.x])
def ai (p : Addr × Cell) : D := .adr p.1
def di (p : Addr × Cell) : D := .lst [D.int p.2.w, p.2.x]
theorem resL_ai {R : List (Addr × List D)} : ∀ {L : List (Addr × Cell)}, (∀ p ∈ L, ci p ∈ R) → ResFL R (L.map ai) (L.map di)
  | [], _ => .nil
  | p :: L, h => .cons (.adr (h p List.mem_cons_self) (.cons .id (.cons .id .nil))) (resL_ai fun q hq => h q (List.mem_cons_of_mem _ hq))
theorem resL_id {R : List (Addr × List D)} : ∀ {l : List D}, ResFL R l l
  | [] => .nil
  | _ :: _ => .cons .id resL_id
theorem resL_append {R : List (Addr × List D)} : ∀ {l l' m m' : List D}, ResFL R l l' → ResFL R m m' → ResFL R (l ++ m) (l' ++ m')
  | [], _, _, _, .nil, h => h
  | _ :: _, _, _, _, .cons a b, h => .cons a (resL_append b h)
theorem resL_set {R : List (Addr × List D)} {x y : D} (hx : ResF R x y) : ∀ {n : Nat} {l l' : List D}, ResFL R l l' → ResFL R (l.set n x) (l'.set n y)
  | _, [], _, .nil => .nil
  | 0, _ :: _, _, .cons _ b => .cons hx b
  | _ + 1, _ :: _, _, .cons a b => .cons a (resL_set hx b)
theorem pz_bad {k : Kd} {ds : List D} {x : D} (hx : x ∈ ds) (h : shownB x = false) : prizesB (Kd.d k ds) = false := by
  unfold prizesB
  rw [seqOf_kd]
  have : ds.all shownB = false := by
    rw [← Bool.not_eq_true, List.all_eq_true]
    intro z
    rw [z x hx] at h; cases h
  dsimp only
  rw [this, Bool.false_and, Bool.and_false, Bool.and_false]
theorem pz_asc {k : Kd} {ds : List D} {i : Nat} {x y : D} (h1 : ds[i]? = some x) (h2 : ds[i + 1]? = some y) (h : ¬ worthA x < worthA y) : prizesB (Kd.d k ds) = false := by
  unfold prizesB
  rw [seqOf_kd]
  have : ascB (ds.map worthA) = false := by
    unfold ascB
    rw [← Bool.not_eq_true, List.all_eq_true]
    intro z
    have l2 := (List.getElem?_eq_some_iff.mp h2).1
    have := z i (List.mem_range.mpr (by rw [List.length_map]; omega))
    rw [List.getD_eq_getElem?_getD, List.getD_eq_getElem?_getD, List.getElem?_map, List.getElem?_map, h1, h2] at this
    exact h (of_decide_eq_true this)
  dsimp only
  rw [this, Bool.and_false, Bool.and_false, Bool.and_false]
theorem no_box {c : D} {ds : List D} {k k2 : Kd} (hc : KnR c) (hd : ∀ x ∈ ds, KnR x) (hl : ds.length ≤ 1000) (hb : prizesB (Kd.d k2 ds) = false) : KnR (Kd.d k [c, Kd.d k2 ds]) ∧ boxB (Kd.d k [c, Kd.d k2 ds]) = false := by
  refine ⟨.kd (fun x hx => ?_) (by simp), ?_⟩
  · simp only [List.mem_cons, List.not_mem_nil, or_false] at hx
    rcases hx with rfl | rfl
    · exact hc
    · exact .kd hd hl
  · unfold boxB
    rw [seqOf_kd]
    dsimp only
    rw [hb, Bool.and_false, Bool.and_false]
theorem no_cost {v x : D} {k : Kd} (h : BadN v) (kx : KnR x) : KnR (Kd.d k [v, x]) ∧ boxB (Kd.d k [v, x]) = false := by
  refine ⟨.kd (fun y hy => ?_) (by simp), ?_⟩
  · simp only [List.mem_cons, List.not_mem_nil, or_false] at hy
    rcases hy with rfl | rfl
    · exact h.1
    · exact kx
  · unfold boxB
    rw [seqOf_kd]
    dsimp only
    rw [← Bool.and_assoc, h.2, Bool.false_and]
theorem no_boxX {c x : D} {k : Kd} (hc : KnR c) (hx : KnR x) (hb : prizesB x = false) : KnR (Kd.d k [c, x]) ∧ boxB (Kd.d k [c, x]) = false := by
  refine ⟨.kd (fun y hy => ?_) (by simp), ?_⟩
  · simp only [List.mem_cons, List.not_mem_nil, or_false] at hy
    rcases hy with rfl | rfl
    · exact hc
    · exact hx
  · unfold boxB
    rw [seqOf_kd]
    dsimp only
    rw [hb, Bool.and_false, Bool.and_false]
theorem resL_take {R : List (Addr × List D)} : ∀ {n : Nat} {l l' : List D}, ResFL R l l' → ResFL R (l.take n) (l'.take n)
  | 0, _, _, _ => by rw [List.take_zero, List.take_zero]; exact .nil
  | _ + 1, [], _, .nil => .nil
  | _ + 1, _ :: _, _, .cons a b => .cons a (resL_take b)
theorem resL_drop {R : List (Addr × List D)} : ∀ {n : Nat} {l l' : List D}, ResFL R l l' → ResFL R (l.drop n) (l'.drop n)
  | 0, _, _, h => h
  | _ + 1, [], _, .nil => .nil
  | n + 1, _ :: _, _, .cons _ b => resL_drop (n := n) b
theorem resL_ins {R : List (Addr × List D)} {n : Nat} {x : D} {l l' : List D} (h : ResFL R l l') : ResFL R (insD l n x) (insD l' n x) := resL_append (resL_append (resL_take h) (.cons .id .nil)) (resL_drop h)
theorem ixN_nat {m n : Nat} (h : n < m) : ixN m (n : Int) = some n := by
  unfold ixN
  rw [if_pos (by omega), if_pos (by omega)]; simp
theorem cutD_mem {l : List D} {lo hi : Option Int} {x : D} (h : x ∈ G.cutD l lo hi) : x ∈ l := List.mem_of_mem_drop (List.mem_of_mem_take h)
theorem cutD_len {l : List D} {lo hi : Option Int} : (G.cutD l lo hi).length ≤ l.length := by
  unfold G.cutD
  rw [List.length_take, List.length_drop]; omega
theorem shown_badN {w v : D} {k : Kd} (h : BadN v) : shownB (Kd.d k [w, v]) = false := by
  unfold shownB
  rw [seqOf_kd]
  dsimp only
  rw [h.2, Bool.and_false]
theorem shown_badW {w v : D} {k : Kd} (h : btwB 1 99 w = false) : shownB (Kd.d k [w, v]) = false := by
  unfold shownB
  rw [seqOf_kd]
  dsimp only
  rw [h, Bool.false_and]
theorem getR_ci {L : List (Addr × Cell)} {n : Nat} {p : Addr × Cell} {z : List (Addr × List D)} (h : L[n]? = some p) : (L.map ci ++ z)[n]? = some (ci p) := by
  have hl := (List.getElem?_eq_some_iff.mp h).1
  rw [List.getElem?_append_left (by rw [List.length_map]; exact hl), List.getElem?_map, h]; rfl
theorem getR_top {L : List (Addr × Cell)} {z : Addr × List D} : (L.map ci ++ [z])[L.length]? = some z := by
  rw [List.getElem?_append_right (by rw [List.length_map]; exact Nat.le_refl _), List.length_map, Nat.sub_self]; rfl
theorem resL_ix {R : List (Addr × List D)} : ∀ {l l' : List D}, l.length = l'.length → (∀ (k : Nat) (d d' : D), l[k]? = some d → l'[k]? = some d' → ResF R d d') → ResFL R l l'
  | [], [], _, _ => .nil
  | [], _ :: _, h, _ => by cases h
  | _ :: _, [], h, _ => by cases h
  | _ :: _, _ :: _, h, k => .cons (k 0 _ _ rfl rfl) (resL_ix (by simpa using h) fun i d d' h1 h2 => k (i + 1) d d' (by simpa using h1) (by simpa using h2))
theorem set_ci {L : List (Addr × Cell)} {n k : Nat} {q : Addr × Cell} {y : Addr × List D} {z : List (Addr × List D)} (h : L[k]? = some q) (hk : k ≠ n) : ci q ∈ (L.map ci ++ z).set n y := List.mem_of_getElem? (i := k) (by rw [List.getElem?_set_ne (Ne.symm hk)]; exact getR_ci h)
theorem res_inner {L : List (Addr × Cell)} {n : Nat} {p : Addr × Cell} {a : Addr} {l' : List D} (hp : L[n]? = some p) : ResF ((L.map ci ++ [(a, L.map ai)]).set n (p.1, l')) (.adr a) (.lst ((L.map di).set n (.lst l'))) := by
  have hn := (List.getElem?_eq_some_iff.mp hp).1
  refine .adr (l := L.map ai) (List.mem_of_getElem? (i := L.length) (by rw [List.getElem?_set_ne (by omega)]; exact getR_top)) (resL_ix (by simp) fun k d d' h1 h2 => ?_)
  rw [List.getElem?_map] at h1
  cases hq : L[k]? with
  | none => rw [hq] at h1; cases h1
  | some q =>
    rw [hq] at h1; cases h1
    by_cases hk : k = n
    · subst hk
      rw [hp] at hq; cases hq
      rw [List.getElem?_set_self (by rw [List.length_map]; exact hn)] at h2
      cases h2
      exact .adr (l := l') (List.mem_of_getElem? (i := k) (List.getElem?_set_self (by rw [List.length_append, List.length_map]; omega))) resL_id
    · rw [List.getElem?_set_ne (Ne.symm hk), List.getElem?_map, hq] at h2
      cases h2
      exact .adr (set_ci hq hk) resL_id
theorem res_outer {L : List (Addr × Cell)} {a : Addr} {O O' : List D} (h : ∀ R, ResFL R (L.map ai) (L.map di) → ResFL R O O') : ResF ((L.map ci ++ [(a, L.map ai)]).set L.length (a, O)) (.adr a) (.lst O') :=
  .adr (l := O) (List.mem_of_getElem? (i := L.length) (List.getElem?_set_self (by simp))) (h _ (resL_ai fun q hq => by
    obtain ⟨k, hk⟩ := List.mem_iff_getElem?.mp hq
    exact set_ci hk (by have := (List.getElem?_eq_some_iff.mp hk).1; omega)))
theorem mem_set {α : Type} {l : List α} {n : Nat} {x y : α} (h : x ∈ l.set n y) : x ∈ l ∨ x = y := List.mem_or_eq_of_mem_set h
section
local macro_rules | `(tactic| walk_at "e") => `(tactic| first
  | ((with_reducible refine' ek_var ?h1 ?_); (case h1 => exact rfl))
  | (with_reducible refine ek_int ?_)
  | (with_reducible refine ek_bl ?_)
  | (with_reducible refine ek_non ?_)
  | (with_reducible refine ek_str ?_)
  | (with_reducible refine ek_ty ?_)
  | (with_reducible refine ek_cls ?_)
  | (with_reducible refine ek_ix ?_)
  | (with_reducible refine ek_un ?_)
  | (with_reducible refine ek_tup ?_)
  | (with_reducible refine k_call ?_)
  | (with_reducible refine ek_len ?_)
  | (with_reducible refine ek_tuple ?_)
  | (with_reducible refine ek_sum ?_)
  | (with_reducible refine ek_all ?_)
  | (with_reducible refine ek_any ?_)
  | (with_reducible refine ek_chain ?_)
  | (with_reducible refine ek_andV ?_)
  | (with_reducible refine ek_orV ?_)
  | (with_reducible refine ek_notV ?_)
  | (with_reducible refine ek_if ?_)
  | (with_reducible refine ek_ef (ef_lst ?_))
  | (with_reducible refine ek_ef (ef_list ?_))
  | (with_reducible refine ek_ef (ef_cat ?_))
  | (with_reducible refine ek_ef (ef_rep ?_))
  | (with_reducible refine ek_ef (ef_slice ?_))
  | (with_reducible refine ek_ef (ef_rev ?_))
  | (with_reducible refine ek_ef (ef_lstRev ?_))
  | (with_reducible refine ek_ef (ef_map ?_))
  | (with_reducible refine ek_ef (ef_filt ?_))
  | (with_reducible refine ef_lst ?_)
  | (with_reducible refine ef_list ?_)
  | (with_reducible refine ef_cat ?_)
  | (with_reducible refine ef_rep ?_)
  | (with_reducible refine ef_slice ?_)
  | (with_reducible refine ef_rev ?_)
  | (with_reducible refine ef_lstRev ?_)
  | (with_reducible refine ef_map ?_)
  | (with_reducible refine ef_filt ?_)
  | ((with_reducible refine' el_var ?h1 ?_); (case h1 => exact rfl))
  | ((with_reducible refine' el_own ?h1 ?_); (case h1 => exact rfl))
  | (with_reducible refine el_ef (ef_lst ?_))
  | (with_reducible refine el_ef (ef_list ?_))
  | (with_reducible refine el_ef (ef_cat ?_))
  | (with_reducible refine el_ef (ef_rep ?_))
  | (with_reducible refine el_ef (ef_slice ?_))
  | (with_reducible refine el_ef (ef_rev ?_))
  | (with_reducible refine el_ef (ef_lstRev ?_))
  | (with_reducible refine el_ef (ef_map ?_))
  | (with_reducible refine el_ef (ef_filt ?_))
  | (with_reducible refine ek_op ?_)
  | (with_reducible refine ek_cb ?_)
  | (with_reducible refine el_ek ?_)
  | (with_reducible refine tk_test ?_)
  | (with_reducible refine tk_B ?_)
  | (with_reducible refine tk_and ?_)
  | (with_reducible refine tk_or ?_)
  | (with_reducible refine tk_not ?_)
  | (with_reducible refine tk_yes ?_)
  | (with_reducible refine ak_nil ?_)
  | (with_reducible refine ak_cons ?_)
  | (with_reducible refine k_num (‹Tx _ _›) ?_)
  | (with_reducible refine k_den (‹Tx _ _›) ?_)
  | (with_reducible refine k_mk2 ?_)
  | (with_reducible refine k_mk1 ?_)
  | (with_reducible refine k_bel ?_)
  | (with_reducible refine k_own ?_)
  | (with_reducible refine rk_U2 (k_own ?_))
  | (with_reducible refine rk_mul (Sz.mul (by assumption) (by assumption)) ?_)
  | (with_reducible refine rk_U1 (rk_mul (Sz.mul (by assumption) (by assumption)) ?_))
  | (with_reducible refine ek_dget ?_)
  | (with_reducible refine uk_neg ?_)
  | (with_reducible refine ek_disp ?_)
  | (with_reducible refine pk_cons ?_)
  | (with_reducible refine pk_nil ?_)
  | (with_reducible refine rk_mod (by assumption) ?_)
  | (with_reducible refine rk_add ?_)
  | (with_reducible refine rk_sub ?_)
  | (with_reducible refine rk_lt ?_)
  | (with_reducible refine rk_le ?_)
  | (with_reducible refine rk_gt ?_)
  | (with_reducible refine rk_ge ?_)
  | (with_reducible refine rk_eqI ?_)
  | (with_reducible refine rk_neI ?_)
  | (with_reducible refine rk_isN ?_)
  | (with_reducible refine rk_notN ?_)
  | (with_reducible refine rk_U1 (rk_add ?_))
  | (with_reducible refine rk_U1 (rk_sub ?_))
  | (with_reducible refine ck_gcd ?_)
  | (with_reducible refine ck_abs ?_)
  | (with_reducible refine ck_int ?_)
  | (with_reducible refine ik_seq ?_)
  | (with_reducible refine ik_range1 ?_)
  | (with_reducible refine ik_range2 ?_)
  | (with_reducible refine ik_enumA ?_)
  | (with_reducible refine ik_zip ?_)
  | (with_reducible refine ik_rev ?_)
  | ((with_reducible refine' cg_name ?_ ?h1 ?h2); (case h1 => exact rfl); (case h2 => decide))
  | ((with_reducible refine' cg_anyT ?h1 ?_); (case h1 => exact rfl))
  | ((with_reducible refine' cg_anyL ?h1 ?_); (case h1 => exact rfl))
  | ((with_reducible refine' cg_anyK ?h1 ?_); (case h1 => exact rfl))
  | ((with_reducible refine' cgs_cons ?_ ?h1 ?h2); (case h1 => exact rfl); (case h2 => decide))
  | (with_reducible refine cgs_nil ?_)
  | ((with_reducible refine' gk_name ?_ ?h1); (case h1 => exact rfl))
  | ((with_reducible refine' gk_anyT ?h1 ?_); (case h1 => exact rfl))
  | ((with_reducible refine' gk_anyL ?h1 ?_); (case h1 => exact rfl))
  | ((with_reducible refine' gk_anyK ?h1 ?_); (case h1 => exact rfl))
  | ((with_reducible refine' gks_cons ?_ ?h1); (case h1 => exact rfl))
  | ((with_reducible refine' gks_consA (n := 0) ?_ ?h1 ?h2); (case h1 => exact rfl); (case h2 => exact rfl))
  | ((with_reducible refine' gks_consB ?h0 ?_ ?h1 ?h2); (case h0 => exact rfl); (case h1 => exact rfl); (case h2 => exact rfl))
  | (with_reducible refine gks_nil ?_)
  | (with_reducible refine ok_none ?_)
  | (with_reducible refine ok_some ?_))
local macro_rules | `(tactic| walk_at "s") => `(tactic| first
  | (with_reducible refine sx_guard ?_ ?_)
  | (with_reducible refine sx_seq ?_)
  | ((with_reducible refine' sx_retO ?h1 ?_); (case h1 => exact rfl))
  | (with_reducible refine sx_ret ?_)
  | (with_reducible refine sx_if ?_)
  | (with_reducible refine sx_next ?_)
  | (with_reducible refine sx_break ?_)
  | (with_reducible refine sx_cont ?_)
  | ((with_reducible refine' sx_append ?h1 ?_); (case h1 => exact rfl))
  | ((with_reducible refine' sx_setI ?h1 ?_); (case h1 => exact rfl))
  | ((with_reducible refine' sx_set ?h1 ?_); (case h1 => exact rfl))
  | (with_reducible refine sx_asg ?_)
  | ((with_reducible refine' sx_par ?h1 ?h2 ?_); (case h1 => exact rfl); (case h2 => exact rfl))
  | (with_reducible refine sx_drop ?_)
  | ((with_reducible refine' k_fldS (‹Tx _ _›) ?h1 ?h2 ?h3 ?_); (case h1 => exact rfl); (case h2 => decide); (case h3 => exact rfl)))
/-! plain existentials that the rules leave -/
local macro_rules | `(tactic| walk_at "x") => `(tactic| first
  | (with_reducible refine x_bl ?_)
  | (with_reducible refine x_int ?_)
  | (with_reducible refine x_frac ?_)
  | (with_reducible refine x_lst ?_)
  | (with_reducible refine x_tup ?_)
  | (with_reducible refine x_kd ?_)
  | (with_reducible refine x_oneL ?_)
  | (with_reducible refine x_oneT ?_)
  | (with_reducible refine x_one ?_)
  | ((with_reducible refine' x_at ?h1 ?_); (case h1 => exact rfl))
  | ((with_reducible refine' x_dic ?h1 ?_); (case h1 => exact rfl))
  | (with_reducible refine (⟨rfl, ?_⟩ : Kd.l = Kd.l ∧ _))
  | ((with_reducible refine' x_len ?h1 ?_); (case h1 => exact rfl))
  | ((with_reducible refine' br_t ?h1 ?_); (case h1 => exact rfl))
  | ((with_reducible refine' br_f ?h1 ?_); (case h1 => exact rfl)))
local macro_rules | `(tactic| walk_at "f") => `(tactic| first
  | ((with_reducible refine' sx_forW ?h1 ?_); (case h1 => exact rfl))
  | (with_reducible refine sx_forGW ?_))
local macro_rules | `(tactic| walk_at "g") => `(tactic| repeat (first | walk_at "s" | walk_at "f" | walk_at "e" | walk_at "x"))
local macro_rules | `(tactic| walk_at "v") => `(tactic| repeat (first | walk_at "e" | walk_at "x"))
local macro_rules | `(tactic| walk_at "h") => `(tactic| repeat (first | walk_at "s" | walk_at "e" | walk_at "x"))
variable {P : Program} {w : World} {K : PySem.W.Frag} {mg : Str → Option Value} {base : Heap}

def S__law_no_number : List D → (D → Prop) → Prop := fun l K => l = [.pool] ∧ ∀ d, BadN d → K d
theorem ok__law_no_number (T : Tx K mg) (c__law_take : Cal P w K mg base 1 "_law_take" ["pool", "many"] (SpFam (CL K) S__law_take)) (m_Frac2 : CalM P w K mg base 2 "Frac" [] (SpFamI (CL K) (He.ga K "Frac") S_FracD_initD)) : Cal P w K mg base 4 "_law_no_number" ["pool"] (SpFam (CL K) S__law_no_number) := by
  refine cal_mkF (N := ["pool", "kind"]) T.g__law_no_number T.d__law_no_number sc__law_no_number (fun _ _ _ _ _ _ us hl => match us, hl with | [_], _ => rfl) (by intro l Q h; first | (obtain ⟨rfl, _⟩ := h; rfl) | (obtain ⟨_, rfl, _⟩ := h; rfl) | (obtain ⟨_, _, rfl, _⟩ := h; rfl) | (obtain ⟨_, _, _, rfl, _⟩ := h; rfl) | (obtain ⟨_, _, _, _, rfl, _⟩ := h; rfl) | (obtain ⟨_, _, _, _, _, rfl, _⟩ := h; rfl) | (obtain ⟨_, _, _, _, _, _, rfl, _⟩ := h; rfl) | (obtain ⟨_, _, _, _, _, _, _, rfl, _⟩ := h; rfl) | (obtain ⟨_, _, _, _, _, _, _, _, rfl, _⟩ := h; rfl) | (obtain ⟨_, _, _, _, _, _, _, _, _, rfl, _⟩ := h; rfl) | (obtain ⟨_, _, _, _, _, _, _, _, _, _, rfl, _⟩ := h; rfl) | (obtain ⟨_, _, _, _, _, _, _, _, _, _, _, rfl, _⟩ := h; rfl)) (fun f cdv A outer s H E hr => ⟨_, (pss_cons (ps_set (i := 1) sc__law_no_number.nd rfl (by first | exact Or.inl rfl | exact Or.inr rfl) (pe_calC c__law_take hr (by decide) (by rfl) (pa_cons (pv 0) (pa_cons pe_int pa_nil)))) (pss_cons (ps_if (pt_cmpR op_eq (pv 1) pe_int (nomark _)) (pss_one (ps_ret (pe_op op_subI (pe_op op_subI pe_int pe_int) (pe_calC c__law_take hr (by decide) (by rfl) (pa_cons (pv 0) (pa_cons pe_int pa_nil)))))) pss_nil) (pss_cons (ps_if (pt_cmpR op_eq (pv 1) pe_int (nomark _)) (pss_one (ps_ret (pe_op op_addI pe_int (pe_calC c__law_take hr (by decide) (by rfl) (pa_cons (pv 0) (pa_cons pe_int pa_nil)))))) pss_nil) (pss_cons (ps_if (pt_cmpR op_eq (pv 1) pe_int (nomark _)) (pss_one (ps_ret (pe_mkK K rfl m_Frac2 hr (by decide) (by rfl) (pa_cons (pe_op op_addI pe_int (pe_op op_mulI pe_int (pe_calC c__law_take hr (by decide) (by rfl) (pa_cons (pv 0) (pa_cons pe_int pa_nil))))) (pa_cons pe_int pa_nil))))) pss_nil) (pss_cons (ps_if (pt_cmpR op_eq (pv 1) pe_int (nomark _)) (pss_one (ps_ret (pe_mkK K rfl m_Frac2 hr (by decide) (by rfl) (pa_cons pe_int (pa_cons pe_int pa_nil))))) pss_nil) (pss_cons (ps_if (pt_cmpR op_eq (pv 1) pe_int (nomark _)) (pss_one (ps_ret (pe_mkK K rfl m_Frac2 hr (by decide) (by rfl) (pa_cons (pe_op op_subI pe_int pe_int) (pa_cons (pe_op op_addI pe_int (pe_calC c__law_take hr (by decide) (by rfl) (pa_cons (pv 0) (pa_cons pe_int pa_nil)))) pa_nil))))) pss_nil) (pss_cons (ps_if (pt_cmpR op_eq (pv 1) pe_int (nomark _)) (pss_one (ps_ret (pe_mkK K rfl m_Frac2 hr (by decide) (by rfl) (pa_cons pe_int (pa_cons (pe_op op_addI pe_int (pe_calC c__law_take hr (by decide) (by rfl) (pa_cons (pv 0) (pa_cons pe_int pa_nil)))) pa_nil))))) pss_nil) (pss_one (ps_ret (pe_ix (ix_seqK K rfl) (pe_tup (pa_cons pe_non (pa_cons pe_bl (pa_cons pe_bl (pa_cons pe_str (pa_cons (pe_tup (pa_cons pe_int (pa_cons pe_int pa_nil))) (pa_cons (pe_lst (pa_cons pe_int pa_nil)) pa_nil))))))) (pe_calC c__law_take hr (by decide) (by rfl) (pa_cons (pv 0) (pa_cons pe_int pa_nil))) (fun _ _ => rfl))))))))))), ?_⟩)
  intro nn B l Q h
  obtain ⟨rfl, h⟩ := h
  walk_at "h"
  refine ⟨7, rfl, by decide, by decide, fun kind k0 k1 => ?_⟩
  walk_at "h"
  refine br_p (fun z => ?_) (fun z => ?_)
  · walk_at "h"
    refine ⟨9999, rfl, by decide, by decide, fun r r0 r1 => ?_⟩
    walk_at "h"
    exact h _ (bad_int (.inl (by omega)))
  walk_at "h"
  refine br_p (fun z => ?_) (fun z => ?_)
  · walk_at "h"
    refine ⟨2, rfl, by decide, by decide, fun r r0 r1 => ?_⟩
    walk_at "h"
    exact h _ (bad_int (.inr (by omega)))
  walk_at "h"
  refine br_p (fun z => ?_) (fun z => ?_)
  · walk_at "h"
    refine ⟨5, rfl, by decide, by decide, fun r r0 r1 => ?_⟩
    walk_at "h"
    refine rk_mul (Sz.mul (of_small (n := 2) (by decide) (by decide)) (of_small (n := 5) (by omega) (by decide))) ?_
    walk_at "h"
    refine ⟨_, _, rfl, by decide, big_of (by decide), _, rfl, h _ (bad_frac (sz_div (by omega) (by omega) (by decide)) (.inr (.inr ?_)))⟩
    obtain rfl | rfl | rfl | rfl | rfl : r = 0 ∨ r = 1 ∨ r = 2 ∨ r = 3 ∨ r = 4 := by omega
    all_goals exact den_gt (by decide) (by decide)
  walk_at "h"
  refine br_p (fun z => ?_) (fun z => ?_)
  · walk_at "h"
    refine ⟨_, _, rfl, by decide, big_of (by decide), _, rfl, h _ (bad_frac (sz_div (by decide) (by decide) (by decide)) (.inr (.inr ?_)))⟩
    exact den_gt (by decide) (by decide)
  walk_at "h"
  refine br_p (fun z => ?_) (fun z => ?_)
  · walk_at "h"
    refine ⟨99, rfl, by decide, by decide, fun r r0 r1 => ?_⟩
    walk_at "h"
    refine ⟨_, _, rfl, by omega, big_of (by omega), _, rfl, h _ (bad_frac (sz_div (by omega) (by decide) (by omega)) (.inl ?_))⟩
    rw [divInt_num (by omega), show (((0 - 1 : Int).natAbs.gcd (1 + r).natAbs : Nat) : Int) = 1 from by rw [show ((0 - 1 : Int).natAbs) = 1 from rfl, Nat.gcd_one_left]; rfl]
    decide
  walk_at "h"
  refine br_p (fun z => ?_) (fun z => ?_)
  · walk_at "h"
    refine ⟨3, rfl, by decide, by decide, fun r r0 r1 => ?_⟩
    walk_at "h"
    refine ⟨_, _, rfl, by omega, big_of (by omega), _, rfl, h _ (bad_frac (sz_div (by omega) (by decide) (by omega)) (.inr (.inl ?_)))⟩
    obtain rfl | rfl | rfl : r = 0 ∨ r = 1 ∨ r = 2 := by omega
    all_goals (rw [divInt_num (by decide)]; decide)
  walk_at "h"
  refine ⟨6, rfl, by decide, by decide, fun r r0 r1 => ?_⟩
  obtain rfl | rfl | rfl | rfl | rfl | rfl : r = 0 ∨ r = 1 ∨ r = 2 ∨ r = 3 ∨ r = 4 ∨ r = 5 := by omega
  · exact x_at rfl (h _ ⟨.non, rfl⟩)
  · exact x_at rfl (h _ ⟨.bl _, rfl⟩)
  · exact x_at rfl (h _ ⟨.bl _, rfl⟩)
  · exact x_at rfl (h _ ⟨.str _, rfl⟩)
  · exact x_at rfl (h _ ⟨.tup (fun x hx => by simp at hx; rcases hx with rfl | rfl <;> exact .int _) (by simp), rfl⟩)
  · exact x_at rfl (h _ ⟨.lst (fun x hx => by simp at hx; subst hx; exact .int _) (by simp), rfl⟩)

def S__law_no_row : List D → (D → Prop) → Prop := fun l K => ∃ b : BxT, l = [.pool, boxL b] ∧ BOk b ∧ ∀ d, KnR d → boxB d = false → K d
theorem ok__law_no_row (T : Tx K mg) (c__law_hand : Cal P w K mg base 4 "_law_hand" ["pool", "pair"] (SpFam (CL K) S__law_hand)) (c__law_take : Cal P w K mg base 1 "_law_take" ["pool", "many"] (SpFam (CL K) S__law_take)) (c__law_no_number : Cal P w K mg base 4 "_law_no_number" ["pool"] (SpFam (CL K) S__law_no_number)) (m_Frac1 : CalM P w K mg base 2 "Frac" [.int 1] (SpFamI (CL K) (He.ga K "Frac") S_FracD_initD)) : Cal P w K mg base 5 "_law_no_row" ["pool", "box"] (SpFam (CL K) S__law_no_row) := by
  refine cal_mkF (N := ["pool", "box", "cost", "prizes", "at", "kind", "prize"]) T.g__law_no_row T.d__law_no_row sc__law_no_row (fun _ _ _ _ _ _ us hl => match us, hl with | [_, _], _ => rfl) (by intro l Q h; first | (obtain ⟨rfl, _⟩ := h; rfl) | (obtain ⟨_, rfl, _⟩ := h; rfl) | (obtain ⟨_, _, rfl, _⟩ := h; rfl) | (obtain ⟨_, _, _, rfl, _⟩ := h; rfl) | (obtain ⟨_, _, _, _, rfl, _⟩ := h; rfl) | (obtain ⟨_, _, _, _, _, rfl, _⟩ := h; rfl) | (obtain ⟨_, _, _, _, _, _, rfl, _⟩ := h; rfl) | (obtain ⟨_, _, _, _, _, _, _, rfl, _⟩ := h; rfl) | (obtain ⟨_, _, _, _, _, _, _, _, rfl, _⟩ := h; rfl) | (obtain ⟨_, _, _, _, _, _, _, _, _, rfl, _⟩ := h; rfl) | (obtain ⟨_, _, _, _, _, _, _, _, _, _, rfl, _⟩ := h; rfl) | (obtain ⟨_, _, _, _, _, _, _, _, _, _, _, rfl, _⟩ := h; rfl)) (fun f cdv A outer s H E hr => ⟨_, (pss_cons (ps_set (i := 2) sc__law_no_row.nd rfl (by first | exact Or.inl rfl | exact Or.inr rfl) (pe_calC c__law_hand hr (by decide) (by rfl) (pa_cons (pv 0) (pa_cons (pe_ix (ix_seqK K rfl) (pv 1) pe_int (fun _ _ => rfl)) pa_nil)))) (pss_cons (ps_setLc (i := 3) (own := [("prize", 6)]) (g := gName 6) (tt := tYes) rfl sc__law_no_row.nd rfl rfl (sw_true rfl rfl rfl (by decide +kernel)) (pi_seqK K rfl (pe_ix (ix_seqK K rfl) (pv 1) pe_int (fun _ _ => rfl))) (blkOk_by (own := [("prize", 6)]) (N := ["pool", "box", "cost", "prizes", "at", "kind", "prize"]) (sc := defScope s__law_no_row) (by decide +kernel)) (fun _ _ _ _ _ => (pg_name (i := 6) sc__law_no_row.nd rfl (by first | exact Or.inl rfl | exact Or.inr rfl))) (fun _ _ _ _ _ => pts_nil) (fun _ _ _ _ _ => (pe_lst (pa_cons (pe_ix (ix_seqK K rfl) (pv 6) pe_int (fun _ _ => rfl)) (pa_cons (pe_calC c__law_hand hr (by decide) (by rfl) (pa_cons (pv 0) (pa_cons (pe_ix (ix_seqK K rfl) (pv 6) pe_int (fun _ _ => rfl)) pa_nil))) pa_nil))))) (pss_cons (ps_set (i := 4) sc__law_no_row.nd rfl (by first | exact Or.inl rfl | exact Or.inr rfl) (pe_calC c__law_take hr (by decide) (by rfl) (pa_cons (pv 0) (pa_cons (pe_callB (cr_lenK K rfl) (by rfl) T.b_len PySem.boot_len (pa_cons (pv 3) pa_nil)) pa_nil)))) (pss_cons (ps_set (i := 5) sc__law_no_row.nd rfl (by first | exact Or.inl rfl | exact Or.inr rfl) (pe_calC c__law_take hr (by decide) (by rfl) (pa_cons (pv 0) (pa_cons pe_int pa_nil)))) (pss_cons (ps_if (pt_cmpR op_ltI (pv 5) pe_int (nomark _)) (pss_one (ps_ret (pe_lst (pa_cons (pe_calC c__law_no_number hr (by decide) (by rfl) (pa_cons (pv 0) pa_nil)) (pa_cons (pv 3) pa_nil))))) pss_nil) (pss_cons (ps_if (pt_cmpR op_ltI (pv 5) pe_int (nomark _)) (pss_one (ps_asg (pe_calC c__law_no_number hr (by decide) (by rfl) (pa_cons (pv 0) pa_nil)) (pg_sub (pe_ix (ix_seqK K rfl) (pv 3) (pv 4) (fun _ _ => rfl)) pe_int set_list))) pss_nil) (pss_cons (ps_if (pt_cmpR op_eq (pv 5) pe_int (nomark _)) (pss_one (ps_asg (pe_ix (ix_seqK K rfl) (pe_tup (pa_cons pe_int (pa_cons pe_int (pa_cons (pe_un un_neg pe_int) (pa_cons pe_bl (pa_cons pe_non (pa_cons pe_str (pa_cons (pe_mkK K rfl m_Frac1 hr (by decide) (by rfl) (pa_cons pe_int pa_nil)) pa_nil)))))))) (pe_calC c__law_take hr (by decide) (by rfl) (pa_cons (pv 0) (pa_cons pe_int pa_nil))) (fun _ _ => rfl)) (pg_sub (pe_ix (ix_seqK K rfl) (pv 3) (pv 4) (fun _ _ => rfl)) pe_int set_list))) pss_nil) (pss_cons (ps_if (pt_cmpR op_eq (pv 5) pe_int (nomark _)) (pss_one (ps_asg (pe_op op_addI pe_int (pe_calC c__law_take hr (by decide) (by rfl) (pa_cons (pv 0) (pa_cons pe_int pa_nil)))) (pg_sub (pe_ix (ix_seqK K rfl) (pv 3) (pv 4) (fun _ _ => rfl)) pe_int set_list))) pss_nil) (pss_cons (ps_if (pt_cmpR op_eq (pv 5) pe_int (nomark _)) (pss_one (ps_asg (pe_slice (sl_listK K rfl) (pe_ix (ix_seqK K rfl) (pv 3) (pv 4) (fun _ _ => rfl)) po_none (po_some pe_int)) (pg_sub (pv 3) (pv 4) set_list))) pss_nil) (pss_cons (ps_if (pt_cmpR op_eq (pv 5) pe_int (nomark _)) (pss_one (ps_asg (pe_op op_cat (pe_ix (ix_seqK K rfl) (pv 3) (pv 4) (fun _ _ => rfl)) (pe_lst (pa_cons pe_int pa_nil))) (pg_sub (pv 3) (pv 4) set_list))) pss_nil) (pss_cons (ps_if (pt_cmpR op_eq (pv 5) pe_int (nomark _)) (pss_one (ps_asg (pe_ix (ix_seqK K rfl) (pe_tup (pa_cons pe_non (pa_cons pe_int (pa_cons pe_str (pa_cons pe_bl pa_nil))))) (pe_calC c__law_take hr (by decide) (by rfl) (pa_cons (pv 0) (pa_cons pe_int pa_nil))) (fun _ _ => rfl)) (pg_sub (pv 3) (pv 4) set_list))) pss_nil) (pss_cons (ps_if (pt_cmpR op_eq (pv 5) pe_int (nomark _)) (pss_one (ps_set (i := 3) sc__law_no_row.nd rfl (by first | exact Or.inl rfl | exact Or.inr rfl) (pe_lst (pa_cons (pe_lst (pa_cons pe_int (pa_cons pe_int pa_nil))) (pa_cons (pe_lst (pa_cons pe_int (pa_cons pe_int pa_nil))) (pa_cons (pe_lst (pa_cons pe_int (pa_cons pe_int pa_nil))) (pa_cons (pe_lst (pa_cons pe_int (pa_cons pe_int pa_nil))) (pa_cons (pe_lst (pa_cons pe_int (pa_cons pe_int pa_nil))) pa_nil)))))))) pss_nil) (pss_cons (ps_if (pt_cmpR op_eq (pv 5) pe_int (nomark _)) (pss_one (ps_set (i := 3) sc__law_no_row.nd rfl (by first | exact Or.inl rfl | exact Or.inr rfl) (pe_lst pa_nil))) pss_nil) (pss_cons (ps_if (pt_cmpR op_eq (pv 5) pe_int (nomark _)) (pss_one (ps_expr (pe_bm PySem.F.plainAttrs_list PySem.F.slot_list_insert PySem.F.type_list_insert mt_ins (pv 3) (pa_cons (pv 4) (pa_cons (pe_lst (pa_cons (pe_op op_addI pe_int (pe_calC c__law_take hr (by decide) (by rfl) (pa_cons (pv 0) (pa_cons pe_int pa_nil)))) (pa_cons (pe_ix (ix_seqK K rfl) (pe_ix (ix_seqK K rfl) (pv 3) (pv 4) (fun _ _ => rfl)) pe_int (fun _ _ => rfl)) pa_nil))) pa_nil))))) pss_nil) (pss_cons (ps_if (pt_cmpR op_eq (pv 5) pe_int (nomark _)) (pss_one (ps_set (i := 3) sc__law_no_row.nd rfl (by first | exact Or.inl rfl | exact Or.inr rfl) (pe_lst (pa_cons (pe_lst (pa_cons pe_int (pa_cons (pe_calC c__law_hand hr (by decide) (by rfl) (pa_cons (pv 0) (pa_cons (pe_tup (pa_cons pe_int (pa_cons pe_int pa_nil))) pa_nil))) pa_nil))) (pa_cons (pe_lst (pa_cons pe_int (pa_cons (pe_calC c__law_hand hr (by decide) (by rfl) (pa_cons (pv 0) (pa_cons (pe_tup (pa_cons pe_int (pa_cons pe_int pa_nil))) pa_nil))) pa_nil))) pa_nil))))) pss_nil) (pss_cons (ps_if (pt_cmpR op_eq (pv 5) pe_int (nomark _)) (pss_one (ps_ret (pe_ix (ix_seqK K rfl) (pe_tup (pa_cons pe_non (pa_cons pe_int (pa_cons pe_str (pa_cons pe_bl (pa_cons (pe_lst (pa_cons (pv 2) pa_nil)) (pa_cons (pe_lst (pa_cons (pv 2) (pa_cons (pv 3) (pa_cons pe_int pa_nil)))) (pa_cons (pe_lst pa_nil) pa_nil)))))))) (pe_calC c__law_take hr (by decide) (by rfl) (pa_cons (pv 0) (pa_cons pe_int pa_nil))) (fun _ _ => rfl)))) pss_nil) (pss_cons (ps_if (pt_cmpR op_eq (pv 5) pe_int (nomark _)) (pss_one (ps_ret (pe_lst (pa_cons (pv 2) (pa_cons (pe_ix (ix_seqK K rfl) (pe_tup (pa_cons pe_non (pa_cons pe_int (pa_cons pe_str (pa_cons pe_bl pa_nil))))) (pe_calC c__law_take hr (by decide) (by rfl) (pa_cons (pv 0) (pa_cons pe_int pa_nil))) (fun _ _ => rfl)) pa_nil))))) pss_nil) (pss_cons (ps_if (pt_cmpR op_eq (pv 5) pe_int (nomark _)) (pss_one (ps_set (i := 3) sc__law_no_row.nd rfl (by first | exact Or.inl rfl | exact Or.inr rfl) (pe_op op_cat (pe_slice (sl_listK K rfl) (pv 3) po_none (po_some pe_int)) (pe_lst (pa_cons (pe_lst (pa_cons pe_int (pa_cons pe_int pa_nil))) (pa_cons (pe_lst (pa_cons pe_int (pa_cons pe_int pa_nil))) pa_nil)))))) pss_nil) (pss_one (ps_ret (pe_tup (pa_cons (pv 2) (pa_cons (pe_callTy (cr_tupK K rfl) (by rfl) T.b_tuple (by decide +kernel) (pa_cons (pv 3) pa_nil)) pa_nil))))))))))))))))))))))), ?_⟩)
  intro nn B l Q h
  obtain ⟨b, rfl, ok, h⟩ := h
  have hl4 := ok.p.l4
  have hl1 := ok.p.l1
  refine sx_reg rfl ?_
  unfold boxL
  refine sx_seq ?_
  refine sx_set rfl ?_
  walk_at "v"
  refine ⟨b.1, rfl, ok.c.sz, fun c hc => ?_⟩
  have kc := amt_kn hc ok.c.sz
  refine sx_seq ?_
  refine sx_setN (j := 7) (cs := []) rfl rfl (en_lc ?_)
  walk_at "v"
  refine ⟨fun i ds acc => ∃ L : List (Addr × Cell), ds = L.map ci ∧ acc = L.map ai ∧ (L.map (·.2.p)) = b.2.take i ∧ ∀ e ∈ L, AmtD e.2.x e.2.q, ⟨[], rfl, rfl, rfl, fun _ h => (nomatch h)⟩, fun W1 i d ds acc hd hJ => ?_, fun ds acc hJ a => ?_⟩
  · obtain ⟨L, rfl, rfl, h3, h4⟩ := hJ
    rw [List.getElem?_map] at hd
    cases hp : b.2[i]? with
    | none => rw [hp] at hd; cases hd
    | some p =>
      rw [hp] at hd; cases hd
      have okp := ok.p.ok p (List.mem_of_getElem? hp)
      have hll := congrArg List.length h3
      rw [List.length_map, List.length_take] at hll
      unfold pairL
      walk_at "v"
      refine en_ef ?_
      walk_at "v"
      refine ⟨p.2, rfl, okp.sz, fun x hx => ?_⟩
      walk_at "v"
      refine fun r => ⟨small1000 (by rw [List.length_map]; omega), L ++ [(r, ⟨.l, x, p.1, p.2⟩)], ?_, ?_, ?_, fun e he => ?_⟩
      · rw [List.map_append]; rfl
      · rw [List.map_append]; rfl
      · rw [List.map_append, h3, List.take_succ, hp]; rfl
      · rcases List.mem_append.mp he with he | he
        · exact h4 e he
        · cases List.mem_singleton.mp he
          exact hx
  obtain ⟨L, rfl, rfl, h3, h4⟩ := hJ
  rw [List.length_map, List.take_length] at h3
  have hLl : L.length = b.2.length := by rw [← h3, List.length_map]
  have hat : (a, L.map ai) ∈ L.map ci ++ [(a, L.map ai)] := by simp
  show SX (CL K nn) B [.d .pool, .d (.tup [lowD b.1, .lst (b.2.map pairL)]), .d c, .d (.adr a), .no, .no, .no, .reg (L.map ci ++ [(a, L.map ai)])] _ _ _ _ _
  have hci : ∀ p ∈ L, ci p ∈ L.map ci ++ [(a, L.map ai)] := fun p hp => List.mem_append_left _ (List.mem_map_of_mem hp)
  have kdi : ∀ x ∈ L.map di, KnR x := fun x hx => by
    obtain ⟨e, he, rfl⟩ := List.mem_map.mp hx
    have hp : e.2.p ∈ b.2 := by rw [← h3]; exact List.mem_map_of_mem (f := fun x : Addr × Cell => x.2.p) he
    exact .lst (fun x hx => by
      simp only [List.mem_cons, List.not_mem_nil, or_false] at hx
      rcases hx with rfl | rfl
      · exact .int _
      · exact amt_kn (h4 e he) (ok.p.ok _ hp).sz) (by simp)
  refine sx_seq ?_
  refine sx_set rfl ?_
  refine k_call ?_
  refine ak_cons (ek_var rfl ?_)
  refine ak_cons (ek_len (el_adr (j := 7) rfl (ek_var rfl ⟨a, _, rfl, hat, ?_⟩)))
  walk_at "v"
  refine ⟨(L.length : Nat), by rw [List.length_map], by omega, by omega, fun t t0 t1 => ?_⟩
  obtain ⟨n, rfl⟩ : ∃ n : Nat, t = (n : Int) := ⟨t.toNat, by omega⟩
  obtain ⟨p, hp⟩ : ∃ p, L[n]? = some p := ⟨_, List.getElem?_eq_getElem (by omega)⟩
  have fin : ∀ ds : List D, (∀ x ∈ ds, KnR x) → ds.length ≤ 1000 → prizesB (.tup ds) = false → Q (.tup [c, .tup ds]) := fun ds k1 k2 k3 => by
    obtain ⟨g1, g2⟩ := no_box (k := .t) (k2 := .t) kc k1 k2 k3
    exact h _ g1 g2
  have hna : (L.map ai)[n]? = some (.adr p.1) := by rw [List.getElem?_map, hp]; rfl
  have hnd : (L.map di)[n]? = some (di p) := by rw [List.getElem?_map, hp]; rfl
  have hn := (List.getElem?_eq_some_iff.mp hp).1
  have kx : KnR p.2.x := (kdi _ (List.mem_of_getElem? hnd)).seq (xs := [D.int p.2.w, p.2.x]) rfl |>.1 _ (by simp)
  have finO : ∀ y : D, KnR y → shownB y = false → Q (.tup [c, .tup ((L.map di).set n y)]) := fun y k1 k3 => by
    refine fin _ (fun x hx => ?_) (by rw [List.length_set, List.length_map]; omega) (pz_bad (k := .t) (x := y) ?_ k3)
    · rcases mem_set hx with hx | rfl
      · exact kdi x hx
      · exact k1
    · exact List.mem_of_getElem? (i := n) (List.getElem?_set_self (by rw [List.length_map]; exact hn))
  have finI : ∀ v w : D, KnR v → KnR w → shownB (.lst [w, v]) = false → Q (.tup [c, .tup ((L.map di).set n (.lst [w, v]))]) := fun v w k1 k2 k3 => by
    refine fin _ (fun x hx => ?_) (by rw [List.length_set, List.length_map]; omega) (pz_bad (k := .t) (x := .lst [w, v]) ?_ k3)
    · rcases mem_set hx with hx | rfl
      · exact kdi x hx
      · exact .lst (fun x hx => by
          simp only [List.mem_cons, List.not_mem_nil, or_false] at hx
          rcases hx with rfl | rfl
          · exact k2
          · exact k1) (by simp)
    · exact List.mem_of_getElem? (i := n) (List.getElem?_set_self (by rw [List.length_map]; exact hn))
  walk_at "h"
  refine ⟨16, rfl, by decide, by decide, fun m m0 m1 => ?_⟩
  walk_at "h"
  refine br_p (fun z => ?_) (fun z => ?_)
  · refine sx_frz (i := 3) (j := 7) rfl rfl (.adr hat (resL_ai hci)) ?_
    walk_at "h"
    refine ⟨rfl, fun v hv => ?_⟩
    walk_at "h"
    obtain ⟨g1, g2⟩ := no_cost (k := .l) hv (.lst kdi (by rw [List.length_map]; omega) : KnR (.lst (L.map di)))
    exact h _ g1 g2
  walk_at "h"
  refine br_p (fun z => ?_) (fun z => ?_)
  · refine sx_setC (j := 7) rfl (en_ek ?_)
    walk_at "v"
    refine ⟨rfl, fun v hv => ?_⟩
    rw [List.append_nil]
    refine ek_ix ?_
    refine el_adr (j := 7) rfl (ek_var rfl ⟨a, _, rfl, hat, ?_⟩)
    refine ek_var rfl ?_
    refine x_at (atI_nat hna) ?_
    refine ⟨p.1, rfl, ?_⟩
    walk_at "v"
    refine ⟨n, _, 1, 1, getR_ci hp, rfl, rfl, ?_⟩
    repeat (refine sx_skip ?h1 ?_; case h1 => (walk_at "v"; exact decide_eq_false (by omega)))
    refine sx_frz (i := 3) (j := 7) rfl rfl (res_inner hp) ?_
    walk_at "h"
    exact finI v _ hv.1 (.int _) (shown_badN (k := .l) hv)
  walk_at "h"
  refine br_p (fun z => ?_) (fun z => ?_)
  · refine sx_setC (j := 7) rfl (en_ek ?_)
    walk_at "v"
    refine ⟨_, _, rfl, by decide, by decide, 1, rfl, ?_⟩
    walk_at "v"
    refine ⟨7, rfl, by decide, by decide, fun r r0 r1 => ?_⟩
    obtain ⟨w, kw, bw, hw⟩ : ∃ w, KnR w ∧ btwB 1 99 w = false ∧ atI [D.int 0, D.int 100, D.int (-1), D.bl true, D.non, D.str "1", D.frac 1] r = some w := by
      obtain rfl | rfl | rfl | rfl | rfl | rfl | rfl : r = 0 ∨ r = 1 ∨ r = 2 ∨ r = 3 ∨ r = 4 ∨ r = 5 ∨ r = 6 := by omega
      · exact ⟨_, .int _, rfl, rfl⟩
      · exact ⟨_, .int _, rfl, rfl⟩
      · exact ⟨_, .int _, rfl, rfl⟩
      · exact ⟨_, .bl _, rfl, rfl⟩
      · exact ⟨_, .non, rfl, rfl⟩
      · exact ⟨_, .str _, rfl, rfl⟩
      · exact ⟨_, .frac ⟨of_small (n := 1) (by decide) (by decide), of_small (n := 1) (by decide) (by decide)⟩, rfl, rfl⟩
    refine x_at hw ?_
    rw [List.append_nil]
    refine ek_ix ?_
    refine el_adr (j := 7) rfl (ek_var rfl ⟨a, _, rfl, hat, ?_⟩)
    refine ek_var rfl ?_
    refine x_at (atI_nat hna) ?_
    refine ⟨p.1, rfl, ?_⟩
    walk_at "v"
    refine ⟨n, _, 0, 0, getR_ci hp, rfl, rfl, ?_⟩
    repeat (refine sx_skip ?h1 ?_; case h1 => (walk_at "v"; exact decide_eq_false (by omega)))
    refine sx_frz (i := 3) (j := 7) rfl rfl (res_inner hp) ?_
    walk_at "h"
    exact finI _ w kx kw (shown_badW (k := .l) bw)
  walk_at "h"
  refine br_p (fun z => ?_) (fun z => ?_)
  · refine sx_setC (j := 7) rfl (en_ek ?_)
    walk_at "v"
    refine ⟨900, rfl, by decide, by decide, fun r r0 r1 => ?_⟩
    refine rk_add ?_
    rw [List.append_nil]
    refine ek_ix ?_
    refine el_adr (j := 7) rfl (ek_var rfl ⟨a, _, rfl, hat, ?_⟩)
    refine ek_var rfl ?_
    refine x_at (atI_nat hna) ?_
    refine ⟨p.1, rfl, ?_⟩
    walk_at "v"
    refine ⟨n, _, 0, 0, getR_ci hp, rfl, rfl, ?_⟩
    repeat (refine sx_skip ?h1 ?_; case h1 => (walk_at "v"; exact decide_eq_false (by omega)))
    refine sx_frz (i := 3) (j := 7) rfl rfl (res_inner hp) ?_
    walk_at "h"
    exact finI _ _ kx (.int _) (shown_badW (k := .l) (decide_eq_false (by omega)))
  walk_at "h"
  refine br_p (fun z => ?_) (fun z => ?_)
  · refine sx_setC (j := 7) rfl (en_ek (ek_ef (ef_slice ?_)))
    refine el_adr (j := 7) rfl (ek_ix (el_adr (j := 7) rfl (ek_var rfl ⟨a, _, rfl, hat, ek_var rfl (x_at (atI_nat hna) ⟨p.1, _, rfl, hci p (List.mem_of_getElem? hp), ?_⟩)⟩)))
    walk_at "v"
    refine ⟨a, rfl, ?_⟩
    walk_at "v"
    rw [List.append_nil]
    refine ⟨L.length, _, (n : Nat), n, getR_top, rfl, ixN_nat (by rw [List.length_map]; exact hn), ?_⟩
    repeat (refine sx_skip ?h1 ?_; case h1 => (walk_at "v"; exact decide_eq_false (by omega)))
    refine sx_frz (i := 3) (j := 7) rfl rfl (res_outer fun R hR => resL_set .id hR) ?_
    walk_at "h"
    refine finO _ (.lst (fun x hx => ?_) (Nat.le_of_ble_eq_true rfl)) rfl
    cases List.mem_singleton.mp hx
    exact .int _
  walk_at "h"
  refine br_p (fun z => ?_) (fun z => ?_)
  · refine sx_setC (j := 7) rfl (en_ek (ek_ef (ef_cat ?_)))
    refine el_adr (j := 7) rfl (ek_ix (el_adr (j := 7) rfl (ek_var rfl ⟨a, _, rfl, hat, ek_var rfl (x_at (atI_nat hna) ⟨p.1, _, rfl, hci p (List.mem_of_getElem? hp), ?_⟩)⟩)))
    walk_at "v"
    refine ⟨Nat.le_of_lt (small1000 (by simp)), ?_⟩
    walk_at "v"
    refine ⟨a, rfl, ?_⟩
    walk_at "v"
    rw [List.append_nil]
    refine ⟨L.length, _, (n : Nat), n, getR_top, rfl, ixN_nat (by rw [List.length_map]; exact hn), ?_⟩
    repeat (refine sx_skip ?h1 ?_; case h1 => (walk_at "v"; exact decide_eq_false (by omega)))
    refine sx_frz (i := 3) (j := 7) rfl rfl (res_outer fun R hR => resL_set .id hR) ?_
    walk_at "h"
    refine finO _ (.lst (fun x hx => ?_) (by simp)) rfl
    simp only [List.mem_append, List.mem_cons, List.not_mem_nil, or_false] at hx
    rcases hx with (rfl | rfl) | rfl
    · exact .int _
    · exact kx
    · exact .int _
  walk_at "h"
  refine br_p (fun z => ?_) (fun z => ?_)
  · refine sx_setC (j := 7) rfl (en_ek ?_)
    walk_at "v"
    refine ⟨4, rfl, by decide, by decide, fun r r0 r1 => ?_⟩
    obtain ⟨y, ky, by', hy⟩ : ∃ y, KnR y ∧ shownB y = false ∧ atI [D.non, D.int 5, D.str "12", D.bl true] r = some y := by
      obtain rfl | rfl | rfl | rfl : r = 0 ∨ r = 1 ∨ r = 2 ∨ r = 3 := by omega
      · exact ⟨_, .non, rfl, rfl⟩
      · exact ⟨_, .int _, rfl, rfl⟩
      · exact ⟨_, .str _, rfl, rfl⟩
      · exact ⟨_, .bl _, rfl, rfl⟩
    refine x_at hy ?_
    walk_at "v"
    refine ⟨a, rfl, ?_⟩
    walk_at "v"
    rw [List.append_nil]
    refine ⟨L.length, _, (n : Nat), n, getR_top, rfl, ixN_nat (by rw [List.length_map]; exact hn), ?_⟩
    repeat (refine sx_skip ?h1 ?_; case h1 => (walk_at "v"; exact decide_eq_false (by omega)))
    refine sx_frz (i := 3) (j := 7) rfl rfl (res_outer fun R hR => resL_set .id hR) ?_
    walk_at "h"
    exact finO _ ky by'
  walk_at "h"
  refine br_p (fun z => ?_) (fun z => ?_)
  · walk_at "s"
    walk_at "v"
    repeat (refine sx_skip ?h1 ?_; case h1 => (walk_at "v"; exact decide_eq_false (by omega)))
    walk_at "h"
    refine fin _ (fun x hx => ?_) (by decide) rfl
    simp only [List.mem_cons, List.not_mem_nil, or_false] at hx
    rcases hx with rfl | rfl | rfl | rfl | rfl <;> exact .lst (fun x hx => by
      simp only [List.mem_cons, List.not_mem_nil, or_false] at hx
      rcases hx with rfl | rfl <;> exact .int _) (by decide)
  walk_at "h"
  refine br_p (fun z => ?_) (fun z => ?_)
  · walk_at "s"
    walk_at "v"
    repeat (refine sx_skip ?h1 ?_; case h1 => (walk_at "v"; exact decide_eq_false (by omega)))
    walk_at "h"
    exact fin _ (fun x hx => nomatch hx) (by decide) rfl
  walk_at "h"
  refine br_p (fun z => ?_) (fun z => ?_)
  · refine sx_insC (j := 7) rfl ?_
    refine ek_var rfl ⟨a, rfl, ⟨_, hat⟩, ek_var rfl ⟨n, rfl, by omega, en_ek (ek_ef (ef_lst (ak_cons ?_)))⟩⟩
    walk_at "v"
    refine ⟨99, rfl, by decide, by decide, fun r r0 r1 => ?_⟩
    refine rk_add ?_
    refine ak_cons (ek_ix (el_adr (j := 7) rfl (ek_ix (el_adr (j := 7) rfl (ek_var rfl ⟨a, _, rfl, hat, ek_var rfl (x_at (atI_nat hna) ⟨p.1, _, rfl, hci p (List.mem_of_getElem? hp), ?_⟩)⟩)))))
    walk_at "v"
    rw [List.append_nil]
    refine ⟨L.length, _, getR_top, small1000 (by rw [List.length_map]; omega), ?_⟩
    repeat (refine sx_skip ?h1 ?_; case h1 => (walk_at "v"; exact decide_eq_false (by omega)))
    refine sx_frz (i := 3) (j := 7) rfl rfl (res_outer fun R hR => resL_ins hR) ?_
    walk_at "h"
    refine fin _ (fun x hx => ?_) ?_ (pz_asc (k := .t) (i := n) (x := .lst [.int (1 + r), p.2.x]) (y := di p) ?_ ?_ ?_)
    · unfold insD at hx
      rcases List.mem_append.mp hx with hx | hx
      · rcases List.mem_append.mp hx with hx | hx
        · exact kdi _ (List.mem_of_mem_take hx)
        · cases List.mem_singleton.mp hx
          exact .lst (fun x hx => by
            simp only [List.mem_cons, List.not_mem_nil, or_false] at hx
            rcases hx with rfl | rfl
            · exact .int _
            · exact kx) (by simp)
      · exact kdi _ (List.mem_of_mem_drop hx)
    · unfold insD; simp; omega
    · unfold insD
      rw [List.append_assoc, List.getElem?_append_right (by rw [List.length_take]; omega), List.length_take, List.length_map, Nat.min_eq_left (Nat.le_of_lt hn), Nat.sub_self]; rfl
    · unfold insD
      rw [List.append_assoc, List.getElem?_append_right (by rw [List.length_take]; omega), List.length_take, List.length_map, Nat.min_eq_left (Nat.le_of_lt hn), show n + 1 - n = 1 by omega]
      show ((L.map di).drop n)[0]? = _
      rw [List.getElem?_drop, Nat.add_zero]; exact hnd
    · exact Rat.lt_irrefl
  walk_at "h"
  refine br_p (fun z => ?_) (fun z => ?_)
  · walk_at "s"
    walk_at "v"
    refine ⟨⟨7, 2, by decide, by decide⟩, rfl, ⟨of_small (n := 7) (by decide) (by decide), of_small (n := 2) (by decide) (by decide)⟩, fun x hx => ?_⟩
    walk_at "v"
    refine ⟨⟨3, 1, by decide, by decide⟩, rfl, ⟨of_small (n := 3) (by decide) (by decide), of_small (n := 1) (by decide) (by decide)⟩, fun y hy => ?_⟩
    walk_at "v"
    repeat (refine sx_skip ?h1 ?_; case h1 => (walk_at "v"; exact decide_eq_false (by omega)))
    walk_at "h"
    have kx' := amt_kn hx ⟨of_small (n := 7) (by decide) (by decide), of_small (n := 2) (by decide) (by decide)⟩
    have ky' := amt_kn hy ⟨of_small (n := 3) (by decide) (by decide), of_small (n := 1) (by decide) (by decide)⟩
    refine fin _ (fun x hx => ?_) (by simp) (pz_asc (k := .t) (i := 0) rfl rfl ?_)
    · simp only [List.mem_cons, List.not_mem_nil, or_false] at hx
      rcases hx with rfl | rfl <;> refine .lst (fun x hx => ?_) (by simp) <;> simp only [List.mem_cons, List.not_mem_nil, or_false] at hx <;> rcases hx with rfl | rfl <;> first | exact .int _ | assumption
    · show ¬ valA x < valA y
      rw [(amt_b hx).2, (amt_b hy).2]
      decide
  walk_at "h"
  refine br_p (fun z => ?_) (fun z => ?_)
  · refine sx_frz (i := 3) (j := 7) rfl rfl (.adr hat (resL_ai hci)) ?_
    walk_at "h"
    refine ⟨7, rfl, by decide, by decide, fun r r0 r1 => ?_⟩
    have kz : KnR (.lst (L.map di)) := .lst kdi (by rw [List.length_map]; omega)
    obtain rfl | rfl | rfl | rfl | rfl | rfl | rfl : r = 0 ∨ r = 1 ∨ r = 2 ∨ r = 3 ∨ r = 4 ∨ r = 5 ∨ r = 6 := by omega
    · exact x_at rfl (h _ .non rfl)
    · exact x_at rfl (h _ (.int _) rfl)
    · exact x_at rfl (h _ (.str _) rfl)
    · exact x_at rfl (h _ (.bl _) rfl)
    · exact x_at rfl (h _ (.lst (fun x hx => by cases List.mem_singleton.mp hx; exact kc) (by simp)) rfl)
    · refine x_at rfl (h _ (.lst (fun x hx => ?_) (by simp)) rfl)
      simp only [List.mem_cons, List.not_mem_nil, or_false] at hx
      rcases hx with rfl | rfl | rfl
      · exact kc
      · exact kz
      · exact .int _
    · exact x_at rfl (h _ (.lst (fun x hx => nomatch hx) (by simp)) rfl)
  walk_at "h"
  refine br_p (fun z => ?_) (fun z => ?_)
  · walk_at "h"
    refine ⟨4, rfl, by decide, by decide, fun r r0 r1 => ?_⟩
    obtain ⟨y, ky, by', hy⟩ : ∃ y, KnR y ∧ prizesB y = false ∧ atI [D.non, D.int 3, D.str "ab", D.bl true] r = some y := by
      obtain rfl | rfl | rfl | rfl : r = 0 ∨ r = 1 ∨ r = 2 ∨ r = 3 := by omega
      · exact ⟨_, .non, rfl, rfl⟩
      · exact ⟨_, .int _, rfl, rfl⟩
      · exact ⟨_, .str _, rfl, rfl⟩
      · exact ⟨_, .bl _, rfl, rfl⟩
    refine x_at hy ?_
    walk_at "v"
    obtain ⟨g1, g2⟩ := no_boxX (k := .l) kc ky by'
    exact h _ g1 g2
  walk_at "h"
  refine br_p (fun z => ?_) (fun z => ?_)
  · refine sx_frz (i := 3) (j := 7) rfl rfl (.adr hat (resL_ai hci)) ?_
    walk_at "s"
    walk_at "v"
    have hcl := cutD_len (l := L.map di) (lo := none) (hi := some 3)
    rw [List.length_map] at hcl
    refine ⟨Nat.le_of_lt (small1000 (by simp; omega)), ?_⟩
    walk_at "h"
    refine fin _ (fun x hx => ?_) (by simp; omega) (pz_asc (k := .t) (i := (G.cutD (L.map di) none (some 3)).length) (x := .lst [.int 1, .int 9999]) (y := .lst [.int 1, .int 9998]) ?_ ?_ ?_)
    · rcases List.mem_append.mp hx with hx | hx
      · exact kdi _ (cutD_mem hx)
      · simp only [List.mem_cons, List.not_mem_nil, or_false] at hx
        rcases hx with rfl | rfl <;> refine .lst (fun x hx => ?_) (by simp) <;> simp only [List.mem_cons, List.not_mem_nil, or_false] at hx <;> rcases hx with rfl | rfl <;> exact .int _
    · rw [List.getElem?_append_right (Nat.le_refl _), Nat.sub_self]; rfl
    · rw [List.getElem?_append_right (Nat.le_succ _), Nat.succ_sub (Nat.le_refl _), Nat.sub_self]; rfl
    · show ¬ ((9999 : Int) : Rat) < ((9998 : Int) : Rat)
      decide
  exfalso; omega

end

end K
end

section
set_option maxRecDepth 100000
set_option maxHeartbeats 4000000
namespace K
open PySem PySem.Spec PyProof.Rows L2 G

section
variable {C : Cl} {B : Bs} {Γ : List Sl} {t u : TS} {nx bk ct : List Sl → Prop} {rt : List Sl → D → Prop}
theorem sx_cut (M : List Sl → Prop) (h1 : SX C B Γ t M rt bk ct) (h2 : ∀ Γ', M Γ' → SX C B Γ' u nx rt bk ct) : SX C B Γ (tSeq t u) nx rt bk ct := sx_seq (sx_mono h1 h2 (fun _ _ z => z) (fun _ z => z) (fun _ z => z))
end
theorem atI_nat1 {l : List D} {n : Nat} {x : D} (h : l[n + 1]? = some x) : atI l ((n : Int) + 1) = some x := by
  have := atI_nat h
  rw [show ((n + 1 : Nat) : Int) = (n : Int) + 1 by omega] at this
  exact this
theorem ixN_nat1 {m n : Nat} (h : n + 1 < m) : ixN m ((n : Int) + 1) = some (n + 1) := by
  have := ixN_nat h
  rw [show ((n + 1 : Nat) : Int) = (n : Int) + 1 by omega] at this
  exact this
theorem like_int {i : Int} : likeB (.int i) (.int i) = true := by
  show decide (i = i) = true
  simp
theorem all_set {P : D → Prop} {l : List D} {n : Nat} {x : D} (h : ∀ y ∈ l, P y) (hx : P x) : ∀ y ∈ l.set n x, P y := fun y hy => by
  rcases mem_set hy with z | rfl
  · exact h y z
  · exact hx
section
local macro_rules | `(tactic| walk_at "e") => `(tactic| first
  | ((with_reducible refine' ek_var ?h1 ?_); (case h1 => exact rfl))
  | (with_reducible refine ek_int ?_)
  | (with_reducible refine ek_bl ?_)
  | (with_reducible refine ek_non ?_)
  | (with_reducible refine ek_str ?_)
  | (with_reducible refine ek_ty ?_)
  | (with_reducible refine ek_cls ?_)
  | (with_reducible refine ek_ix ?_)
  | (with_reducible refine ek_un ?_)
  | (with_reducible refine ek_tup ?_)
  | (with_reducible refine k_call ?_)
  | (with_reducible refine ek_len ?_)
  | (with_reducible refine ek_tuple ?_)
  | (with_reducible refine ek_sum ?_)
  | (with_reducible refine ek_all ?_)
  | (with_reducible refine ek_any ?_)
  | (with_reducible refine ek_chain ?_)
  | (with_reducible refine ek_andV ?_)
  | (with_reducible refine ek_orV ?_)
  | (with_reducible refine ek_notV ?_)
  | (with_reducible refine ek_if ?_)
  | (with_reducible refine ek_ef (ef_lst ?_))
  | (with_reducible refine ek_ef (ef_list ?_))
  | (with_reducible refine ek_ef (ef_cat ?_))
  | (with_reducible refine ek_ef (ef_rep ?_))
  | (with_reducible refine ek_ef (ef_slice ?_))
  | (with_reducible refine ek_ef (ef_rev ?_))
  | (with_reducible refine ek_ef (ef_lstRev ?_))
  | (with_reducible refine ek_ef (ef_map ?_))
  | (with_reducible refine ek_ef (ef_filt ?_))
  | (with_reducible refine ef_lst ?_)
  | (with_reducible refine ef_list ?_)
  | (with_reducible refine ef_cat ?_)
  | (with_reducible refine ef_rep ?_)
  | (with_reducible refine ef_slice ?_)
  | (with_reducible refine ef_rev ?_)
  | (with_reducible refine ef_lstRev ?_)
  | (with_reducible refine ef_map ?_)
  | (with_reducible refine ef_filt ?_)
  | ((with_reducible refine' el_var ?h1 ?_); (case h1 => exact rfl))
  | ((with_reducible refine' el_own ?h1 ?_); (case h1 => exact rfl))
  | (with_reducible refine el_ef (ef_lst ?_))
  | (with_reducible refine el_ef (ef_list ?_))
  | (with_reducible refine el_ef (ef_cat ?_))
  | (with_reducible refine el_ef (ef_rep ?_))
  | (with_reducible refine el_ef (ef_slice ?_))
  | (with_reducible refine el_ef (ef_rev ?_))
  | (with_reducible refine el_ef (ef_lstRev ?_))
  | (with_reducible refine el_ef (ef_map ?_))
  | (with_reducible refine el_ef (ef_filt ?_))
  | (with_reducible refine ek_op ?_)
  | (with_reducible refine ek_cb ?_)
  | (with_reducible refine el_ek ?_)
  | (with_reducible refine tk_test ?_)
  | (with_reducible refine tk_B ?_)
  | (with_reducible refine tk_and ?_)
  | (with_reducible refine tk_or ?_)
  | (with_reducible refine tk_not ?_)
  | (with_reducible refine tk_yes ?_)
  | (with_reducible refine ak_nil ?_)
  | (with_reducible refine ak_cons ?_)
  | (with_reducible refine k_num (‹Tx _ _›) ?_)
  | (with_reducible refine k_den (‹Tx _ _›) ?_)
  | (with_reducible refine k_mk2 ?_)
  | (with_reducible refine k_mk1 ?_)
  | (with_reducible refine k_bel ?_)
  | (with_reducible refine k_own ?_)
  | (with_reducible refine rk_U2 (k_own ?_))
  | (with_reducible refine rk_mul (Sz.mul (by assumption) (by assumption)) ?_)
  | (with_reducible refine rk_U1 (rk_mul (Sz.mul (by assumption) (by assumption)) ?_))
  | (with_reducible refine ek_dget ?_)
  | (with_reducible refine uk_neg ?_)
  | (with_reducible refine ek_disp ?_)
  | (with_reducible refine pk_cons ?_)
  | (with_reducible refine pk_nil ?_)
  | (with_reducible refine rk_mod (by assumption) ?_)
  | (with_reducible refine rk_add ?_)
  | (with_reducible refine rk_sub ?_)
  | (with_reducible refine rk_lt ?_)
  | (with_reducible refine rk_le ?_)
  | (with_reducible refine rk_gt ?_)
  | (with_reducible refine rk_ge ?_)
  | (with_reducible refine rk_eqI ?_)
  | (with_reducible refine rk_neI ?_)
  | (with_reducible refine rk_isN ?_)
  | (with_reducible refine rk_notN ?_)
  | (with_reducible refine rk_U1 (rk_add ?_))
  | (with_reducible refine rk_U1 (rk_sub ?_))
  | (with_reducible refine ck_gcd ?_)
  | (with_reducible refine ck_abs ?_)
  | (with_reducible refine ck_int ?_)
  | (with_reducible refine ik_seq ?_)
  | (with_reducible refine ik_range1 ?_)
  | (with_reducible refine ik_range2 ?_)
  | (with_reducible refine ik_enumA ?_)
  | (with_reducible refine ik_zip ?_)
  | (with_reducible refine ik_rev ?_)
  | ((with_reducible refine' cg_name ?_ ?h1 ?h2); (case h1 => exact rfl); (case h2 => decide))
  | ((with_reducible refine' cg_anyT ?h1 ?_); (case h1 => exact rfl))
  | ((with_reducible refine' cg_anyL ?h1 ?_); (case h1 => exact rfl))
  | ((with_reducible refine' cg_anyK ?h1 ?_); (case h1 => exact rfl))
  | ((with_reducible refine' cgs_cons ?_ ?h1 ?h2); (case h1 => exact rfl); (case h2 => decide))
  | (with_reducible refine cgs_nil ?_)
  | ((with_reducible refine' gk_name ?_ ?h1); (case h1 => exact rfl))
  | ((with_reducible refine' gk_anyT ?h1 ?_); (case h1 => exact rfl))
  | ((with_reducible refine' gk_anyL ?h1 ?_); (case h1 => exact rfl))
  | ((with_reducible refine' gk_anyK ?h1 ?_); (case h1 => exact rfl))
  | ((with_reducible refine' gks_cons ?_ ?h1); (case h1 => exact rfl))
  | ((with_reducible refine' gks_consA (n := 0) ?_ ?h1 ?h2); (case h1 => exact rfl); (case h2 => exact rfl))
  | ((with_reducible refine' gks_consB ?h0 ?_ ?h1 ?h2); (case h0 => exact rfl); (case h1 => exact rfl); (case h2 => exact rfl))
  | (with_reducible refine gks_nil ?_)
  | (with_reducible refine ok_none ?_)
  | (with_reducible refine ok_some ?_))
local macro_rules | `(tactic| walk_at "s") => `(tactic| first
  | (with_reducible refine sx_guard ?_ ?_)
  | (with_reducible refine sx_seq ?_)
  | ((with_reducible refine' sx_retO ?h1 ?_); (case h1 => exact rfl))
  | (with_reducible refine sx_ret ?_)
  | (with_reducible refine sx_if ?_)
  | (with_reducible refine sx_next ?_)
  | (with_reducible refine sx_break ?_)
  | (with_reducible refine sx_cont ?_)
  | ((with_reducible refine' sx_append ?h1 ?_); (case h1 => exact rfl))
  | ((with_reducible refine' sx_setI ?h1 ?_); (case h1 => exact rfl))
  | ((with_reducible refine' sx_set ?h1 ?_); (case h1 => exact rfl))
  | (with_reducible refine sx_asg ?_)
  | ((with_reducible refine' sx_par ?h1 ?h2 ?_); (case h1 => exact rfl); (case h2 => exact rfl))
  | (with_reducible refine sx_drop ?_)
  | ((with_reducible refine' k_fldS (‹Tx _ _›) ?h1 ?h2 ?h3 ?_); (case h1 => exact rfl); (case h2 => decide); (case h3 => exact rfl)))
/-! plain existentials that the rules leave -/
local macro_rules | `(tactic| walk_at "x") => `(tactic| first
  | (with_reducible refine x_bl ?_)
  | (with_reducible refine x_int ?_)
  | (with_reducible refine x_frac ?_)
  | (with_reducible refine x_lst ?_)
  | (with_reducible refine x_tup ?_)
  | (with_reducible refine x_kd ?_)
  | (with_reducible refine x_oneL ?_)
  | (with_reducible refine x_oneT ?_)
  | (with_reducible refine x_one ?_)
  | ((with_reducible refine' x_at ?h1 ?_); (case h1 => exact rfl))
  | ((with_reducible refine' x_dic ?h1 ?_); (case h1 => exact rfl))
  | (with_reducible refine (⟨rfl, ?_⟩ : Kd.l = Kd.l ∧ _))
  | ((with_reducible refine' x_len ?h1 ?_); (case h1 => exact rfl))
  | ((with_reducible refine' br_t ?h1 ?_); (case h1 => exact rfl))
  | ((with_reducible refine' br_f ?h1 ?_); (case h1 => exact rfl)))
local macro_rules | `(tactic| walk_at "f") => `(tactic| first
  | ((with_reducible refine' sx_forW ?h1 ?_); (case h1 => exact rfl))
  | (with_reducible refine sx_forGW ?_))
local macro_rules | `(tactic| walk_at "g") => `(tactic| repeat (first | walk_at "s" | walk_at "f" | walk_at "e" | walk_at "x"))
local macro_rules | `(tactic| walk_at "v") => `(tactic| repeat (first | walk_at "e" | walk_at "x"))
local macro_rules | `(tactic| walk_at "h") => `(tactic| repeat (first | walk_at "s" | walk_at "e" | walk_at "x"))
variable {P : Program} {w : World} {K : PySem.W.Frag} {mg : Str → Option Value} {base : Heap}

def S__law_wrong_row : List D → (D → Prop) → Prop := fun l K => ∃ bs : List BxT, l = [.pool, .lst (bs.map boxL)] ∧ 1 ≤ bs.length ∧ bs.length ≤ 4 ∧ (∀ b ∈ bs, BOk b) ∧ K (.bl true)
theorem ok__law_wrong_row (T : Tx K mg) (c__law_rows_T : Cal P w K mg base 5 "_law_rows" ["pool", "boxes"] (SpFamN (CL K) S__law_rows_T)) (c__law_take : Cal P w K mg base 1 "_law_take" ["pool", "many"] (SpFam (CL K) S__law_take)) (c__law_no_row : Cal P w K mg base 5 "_law_no_row" ["pool", "box"] (SpFam (CL K) S__law_no_row)) (c__law_ask : Cal P w K mg base 11 "_law_ask" ["rows"] (SpFam (CL K) S__law_ask)) (c__law_like_0 : Cal P w K mg base 1 "_law_like" ["actual", "due"] (SpFam (CL K) S__law_like_0)) : Cal P w K mg base 12 "_law_wrong_row" ["pool", "boxes"] (SpFam (CL K) S__law_wrong_row) := by
  refine cal_mkF (N := ["pool", "boxes", "rows", "at", "told"]) T.g__law_wrong_row T.d__law_wrong_row sc__law_wrong_row (fun _ _ _ _ _ _ us hl => match us, hl with | [_, _], _ => rfl) (by intro l Q h; first | (obtain ⟨rfl, _⟩ := h; rfl) | (obtain ⟨_, rfl, _⟩ := h; rfl) | (obtain ⟨_, _, rfl, _⟩ := h; rfl) | (obtain ⟨_, _, _, rfl, _⟩ := h; rfl) | (obtain ⟨_, _, _, _, rfl, _⟩ := h; rfl) | (obtain ⟨_, _, _, _, _, rfl, _⟩ := h; rfl) | (obtain ⟨_, _, _, _, _, _, rfl, _⟩ := h; rfl) | (obtain ⟨_, _, _, _, _, _, _, rfl, _⟩ := h; rfl) | (obtain ⟨_, _, _, _, _, _, _, _, rfl, _⟩ := h; rfl) | (obtain ⟨_, _, _, _, _, _, _, _, _, rfl, _⟩ := h; rfl) | (obtain ⟨_, _, _, _, _, _, _, _, _, _, rfl, _⟩ := h; rfl) | (obtain ⟨_, _, _, _, _, _, _, _, _, _, _, rfl, _⟩ := h; rfl)) (fun f cdv A outer s H E hr => ⟨_, (pss_cons (ps_set (i := 2) sc__law_wrong_row.nd rfl (by first | exact Or.inl rfl | exact Or.inr rfl) (pe_calC c__law_rows_T hr (by decide) (by rfl) (pa_cons (pv 0) (pa_cons (pv 1) pa_nil)))) (pss_cons (ps_set (i := 3) sc__law_wrong_row.nd rfl (by first | exact Or.inl rfl | exact Or.inr rfl) (pe_calC c__law_take hr (by decide) (by rfl) (pa_cons (pv 0) (pa_cons (pe_callB (cr_lenK K rfl) (by rfl) T.b_len PySem.boot_len (pa_cons (pv 2) pa_nil)) pa_nil)))) (pss_cons (ps_asg (pe_calC c__law_no_row hr (by decide) (by rfl) (pa_cons (pv 0) (pa_cons (pe_ix (ix_seqK K rfl) (pv 1) (pv 3) (fun _ _ => rfl)) pa_nil))) (pg_sub (pv 2) (pv 3) set_list)) (pss_cons (ps_if (PW.pt (pw_and (pt_cmpR op_ltI (pe_op op_addI (pv 3) pe_int) (pe_callB (cr_lenK K rfl) (by rfl) T.b_len PySem.boot_len (pa_cons (pv 2) pa_nil)) (nomark _)) (pw_and1 (pt_cmpR op_eq (pe_calC c__law_take hr (by decide) (by rfl) (pa_cons (pv 0) (pa_cons pe_int pa_nil))) pe_int (nomark _))))) (pss_one (ps_asg (pe_calC c__law_no_row hr (by decide) (by rfl) (pa_cons (pv 0) (pa_cons (pe_ix (ix_seqK K rfl) (pv 1) (pe_op op_addI (pv 3) pe_int) (fun _ _ => rfl)) pa_nil))) (pg_sub (pv 2) (pe_op op_addI (pv 3) pe_int) set_list))) pss_nil) (pss_cons (ps_if (pt_cmpR op_eq (pe_calC c__law_take hr (by decide) (by rfl) (pa_cons (pv 0) (pa_cons pe_int pa_nil))) pe_int (nomark _)) (pss_one (ps_set (i := 2) sc__law_wrong_row.nd rfl (by first | exact Or.inl rfl | exact Or.inr rfl) (pe_callTy (cr_tupK K rfl) (by rfl) T.b_tuple (by decide +kernel) (pa_cons (pv 2) pa_nil)))) pss_nil) (pss_cons (ps_set (i := 4) sc__law_wrong_row.nd rfl (by first | exact Or.inl rfl | exact Or.inr rfl) (pe_calC c__law_ask hr (by decide) (by rfl) (pa_cons (pv 2) pa_nil))) (pss_one (ps_ret (pe_and (pe_cmpR op_eq (pe_callB (cr_lenK K rfl) (by rfl) T.b_len PySem.boot_len (pa_cons (pv 4) pa_nil)) pe_int (nomark _)) (pe_and (pe_cmpR op_eq (pe_ix (ix_seqK K rfl) (pv 4) pe_int (fun _ _ => rfl)) pe_str (nomark _)) (pe_one (pe_calC c__law_like_0 hr (by decide) (by rfl) (pa_cons (pe_ix (ix_seqK K rfl) (pv 4) pe_int (fun _ _ => rfl)) (pa_cons (pv 3) pa_nil)))))))))))))), ?_⟩)
  intro nn B l Q h
  obtain ⟨bs, rfl, hl1, hl, ok, h⟩ := h
  refine sx_reg rfl ?_
  refine sx_seq ?_
  refine sx_setN (j := 5) (cs := []) rfl rfl (en_call ?_)
  walk_at "v"
  refine ⟨bs, rfl, by omega, ok, fun ds hds a => ?_⟩
  have hdl := hds.length
  obtain ⟨g1, _, g3⟩ := gvs_ok hds ok
  show SX (CL K nn) B [.d .pool, .d (.lst (bs.map boxL)), .d (.adr a), .no, .no, .reg [(a, ds)]] _ _ _ _ _
  refine sx_seq ?_
  refine sx_set rfl ?_
  refine k_call ?_
  refine ak_cons (ek_var rfl ?_)
  refine ak_cons (ek_len (el_adr (j := 5) rfl (ek_var rfl ⟨a, _, rfl, List.mem_singleton.mpr rfl, ?_⟩)))
  walk_at "v"
  refine ⟨(ds.length : Nat), rfl, by omega, by omega, fun t t0 t1 => ?_⟩
  obtain ⟨n, rfl⟩ : ∃ n : Nat, t = (n : Int) := ⟨t.toNat, by omega⟩
  obtain ⟨b, hb⟩ : ∃ b, bs[n]? = some b := ⟨_, List.getElem?_eq_getElem (by omega)⟩
  have hbL : (bs.map boxL)[n]? = some (boxL b) := by rw [List.getElem?_map, hb]; rfl
  refine sx_cut (fun Γ => ∃ d, KnR d ∧ boxB d = false ∧ Γ = [.d .pool, .d (.lst (bs.map boxL)), .d (.adr a), .d (.int (n : Nat)), .no, .reg [(a, ds.set n d)]]) ?_ ?_
  · refine sx_setC (j := 5) rfl (en_ek ?_)
    walk_at "v"
    refine x_at (atI_nat hbL) ?_
    walk_at "v"
    refine ⟨b, rfl, ok b (List.mem_of_getElem? hb), fun d kd bd => ?_⟩
    walk_at "v"
    refine ⟨a, rfl, ?_⟩
    walk_at "v"
    exact ⟨0, ds, (n : Nat), n, rfl, rfl, ixN_nat (by omega), d, kd, bd, rfl⟩
  rintro _ ⟨d, kd, bd, rfl⟩
  refine sx_cut (fun Γ => ∃ es, es.length = bs.length ∧ (∀ y ∈ es, KnR y) ∧ es[n]? = some d ∧ (∀ j y, j < n → es[j]? = some y → boxB y = true) ∧ Γ = [.d .pool, .d (.lst (bs.map boxL)), .d (.adr a), .d (.int (n : Nat)), .no, .reg [(a, es)]]) ?_ ?_
  · have e1 : (ds.set n d).length = bs.length := by rw [List.length_set]; exact hdl
    have e2 : ∀ y ∈ ds.set n d, KnR y := all_set g3 kd
    have e3 : (ds.set n d)[n]? = some d := List.getElem?_set_self (by omega)
    have e4 : ∀ (j : Nat) (y : D), j < n → (ds.set n d)[j]? = some y → boxB y = true := fun j y hj hy => by
      rw [List.getElem?_set_ne (by omega)] at hy
      exact g1 y (List.mem_of_getElem? hy)
    refine sx_if ?_
    refine tk_and ?_
    refine tk_test ?_
    refine ek_op (ek_op (ek_var rfl (ek_int (rk_add (ek_len (el_adr (j := 5) rfl (ek_var rfl ⟨a, _, rfl, List.mem_singleton.mpr rfl, ?_⟩)))))))
    walk_at "v"
    refine br_p (fun z => ?_) (fun z => ?_)
    · rw [e1] at z
      walk_at "v"
      refine ⟨2, rfl, by decide, by decide, fun r r0 r1 => ?_⟩
      walk_at "v"
      refine br_p (fun _ => ?_) (fun _ => ?_)
      · obtain ⟨b2, hb2⟩ : ∃ b2, bs[n + 1]? = some b2 := ⟨_, List.getElem?_eq_getElem (by omega)⟩
        have hbL2 : (bs.map boxL)[n + 1]? = some (boxL b2) := by rw [List.getElem?_map, hb2]; rfl
        refine sx_setC (j := 5) rfl (en_ek ?_)
        walk_at "v"
        refine x_at (atI_nat1 hbL2) ?_
        walk_at "v"
        refine ⟨b2, rfl, ok b2 (List.mem_of_getElem? hb2), fun d2 kd2 bd2 => ?_⟩
        walk_at "v"
        refine ⟨a, rfl, ?_⟩
        walk_at "v"
        refine ⟨0, ds.set n d, (n : Int) + 1, n + 1, rfl, rfl, ixN_nat1 (by omega), _, ?_, all_set e2 kd2, ?_, fun j y hj hy => ?_, rfl⟩
        · rw [List.length_set]; exact e1
        · rw [List.getElem?_set_ne (by omega)]; exact e3
        · rw [List.getElem?_set_ne (by omega)] at hy
          exact e4 j y hj hy
      · refine sx_next ?_
        exact ⟨_, e1, e2, e3, e4, rfl⟩
    · refine ⟨fun q => (by cases q), fun _ => ?_⟩
      refine sx_next ?_
      exact ⟨_, e1, e2, e3, e4, rfl⟩
  rintro _ ⟨es, e1, e2, e3, e4, rfl⟩
  refine sx_frz (i := 2) (j := 5) rfl rfl (.adr (List.mem_singleton.mpr rfl) resL_id) ?_
  refine sx_cut (fun Γ => ∃ kd, Γ = [.d .pool, .d (.lst (bs.map boxL)), .d (Kd.d kd es), .d (.int (n : Nat)), .no, .reg []]) ?_ ?_
  · refine sx_if ?_
    walk_at "v"
    refine ⟨2, rfl, by decide, by decide, fun r r0 r1 => ?_⟩
    walk_at "v"
    refine br_p (fun _ => ?_) (fun _ => ?_)
    · walk_at "h"
      exact ⟨.t, rfl⟩
    · refine sx_next ?_
      exact ⟨.l, rfl⟩
  rintro _ ⟨kd, rfl⟩
  walk_at "h"
  refine ⟨_, rfl, .kd e2 (by omega), fun z => (by rw [seqOf_kd] at z; cases z), fun xs hxs => ?_⟩
  rw [seqOf_kd] at hxs
  cases hxs
  refine ⟨fun z => absurd ⟨by omega, by omega⟩ z, fun _ _ => ⟨fun i x h1 h2 h3 => ?_, fun z => by rw [z d (List.mem_of_getElem? e3)] at bd; cases bd⟩⟩
  have hi : i = n := by
    rcases Nat.lt_trichotomy i n with z | z | z
    · rw [e4 i x z h2] at h3; cases h3
    · exact z
    · rw [h1 n d z e3] at bd; cases bd
  subst hi
  walk_at "h"
  refine rk_eq (v1 := .str "project") (v2 := .str "project") rfl rfl rfl ?_
  rw [decide_eq_true rfl]
  walk_at "h"
  refine ⟨_, _, rfl, .int _, .inl ⟨_, rfl⟩, ?_⟩
  rw [like_int]
  exact h

def S__law_wrong_whole : List D → (D → Prop) → Prop := fun l K => ∃ bs : List BxT, l = [.pool, .lst (bs.map boxL)] ∧ 1 ≤ bs.length ∧ bs.length ≤ 4 ∧ (∀ b ∈ bs, BOk b) ∧ K (.bl true)
theorem ok__law_wrong_whole (T : Tx K mg) (m_Frac2 : CalM P w K mg base 2 "Frac" [] (SpFamI (CL K) (He.ga K "Frac") S_FracD_initD)) (c__law_take : Cal P w K mg base 1 "_law_take" ["pool", "many"] (SpFam (CL K) S__law_take)) (c__law_ask : Cal P w K mg base 11 "_law_ask" ["rows"] (SpFam (CL K) S__law_ask)) (c__law_rows_T : Cal P w K mg base 5 "_law_rows" ["pool", "boxes"] (SpFamN (CL K) S__law_rows_T)) (c__law_like_0 : Cal P w K mg base 1 "_law_like" ["actual", "due"] (SpFam (CL K) S__law_like_0)) : Cal P w K mg base 12 "_law_wrong_whole" ["pool", "boxes"] (SpFam (CL K) S__law_wrong_whole) := by
  refine cal_mkF (N := ["pool", "boxes", "wrong", "told", "rows", "k"]) T.g__law_wrong_whole T.d__law_wrong_whole sc__law_wrong_whole (fun _ _ _ _ _ _ us hl => match us, hl with | [_, _], _ => rfl) (by intro l Q h; first | (obtain ⟨rfl, _⟩ := h; rfl) | (obtain ⟨_, rfl, _⟩ := h; rfl) | (obtain ⟨_, _, rfl, _⟩ := h; rfl) | (obtain ⟨_, _, _, rfl, _⟩ := h; rfl) | (obtain ⟨_, _, _, _, rfl, _⟩ := h; rfl) | (obtain ⟨_, _, _, _, _, rfl, _⟩ := h; rfl) | (obtain ⟨_, _, _, _, _, _, rfl, _⟩ := h; rfl) | (obtain ⟨_, _, _, _, _, _, _, rfl, _⟩ := h; rfl) | (obtain ⟨_, _, _, _, _, _, _, _, rfl, _⟩ := h; rfl) | (obtain ⟨_, _, _, _, _, _, _, _, _, rfl, _⟩ := h; rfl) | (obtain ⟨_, _, _, _, _, _, _, _, _, _, rfl, _⟩ := h; rfl) | (obtain ⟨_, _, _, _, _, _, _, _, _, _, _, rfl, _⟩ := h; rfl)) (fun f cdv A outer s H E hr => ⟨_, (pss_cons (ps_set (i := 2) sc__law_wrong_whole.nd rfl (by first | exact Or.inl rfl | exact Or.inr rfl) (pe_ix (ix_seqK K rfl) (pe_tup (pa_cons pe_non (pa_cons pe_int (pa_cons pe_bl (pa_cons pe_str (pa_cons (pe_mkK K rfl m_Frac2 hr (by decide) (by rfl) (pa_cons pe_int (pa_cons pe_int pa_nil))) (pa_cons pe_bl (pa_cons pe_int pa_nil)))))))) (pe_calC c__law_take hr (by decide) (by rfl) (pa_cons (pv 0) (pa_cons pe_int pa_nil))) (fun _ _ => rfl))) (pss_cons (ps_set (i := 3) sc__law_wrong_whole.nd rfl (by first | exact Or.inl rfl | exact Or.inr rfl) (pe_calC c__law_ask hr (by decide) (by rfl) (pa_cons (pv 2) pa_nil))) (pss_cons (ps_if (PW.pt (pw_or (pt_cmpR op_ne (pe_callB (cr_lenK K rfl) (by rfl) T.b_len PySem.boot_len (pa_cons (pv 3) pa_nil)) pe_int (nomark _)) (pw_or (pt_cmpR op_ne (pe_ix (ix_seqK K rfl) (pv 3) pe_int (fun _ _ => rfl)) pe_str (nomark _)) (pw_or1 (pt_cmpR op_notNon (pe_ix (ix_seqK K rfl) (pv 3) pe_int (fun _ _ => rfl)) pe_non (nomark _)))))) (pss_one (ps_ret pe_bl)) pss_nil) (pss_cons (ps_set (i := 4) sc__law_wrong_whole.nd rfl (by first | exact Or.inl rfl | exact Or.inr rfl) (pe_calC c__law_rows_T hr (by decide) (by rfl) (pa_cons (pv 0) (pa_cons (pv 1) pa_nil)))) (pss_cons (ps_while PassesOwn.never (pt_cmpR op_ltI (pe_callB (cr_lenK K rfl) (by rfl) T.b_len PySem.boot_len (pa_cons (pv 4) pa_nil)) pe_int (nomark _)) (pss_one (ps_expr (pe_bm PySem.F.plainAttrs_list PySem.F.slot_list_append PySem.F.type_list_append mt_append (pv 4) (pa_cons (pe_ix (ix_seqK K rfl) (pv 4) pe_int (fun _ _ => rfl)) pa_nil))))) (pss_cons (ps_for PassesOwn.never rfl (pi_range1 (by rfl) T.b_range (pa_cons (pe_calC c__law_take hr (by decide) (by rfl) (pa_cons (pv 0) (pa_cons pe_int pa_nil))) pa_nil)) (pg_name (i := 5) sc__law_wrong_whole.nd rfl (by first | exact Or.inl rfl | exact Or.inr rfl)) (pss_one (ps_expr (pe_bm PySem.F.plainAttrs_list PySem.F.slot_list_append PySem.F.type_list_append mt_append (pv 4) (pa_cons (pe_ix (ix_seqK K rfl) (pv 4) pe_int (fun _ _ => rfl)) pa_nil))))) (pss_cons (ps_if (pt_cmpR op_eq (pe_calC c__law_take hr (by decide) (by rfl) (pa_cons (pv 0) (pa_cons pe_int pa_nil))) pe_int (nomark _)) (pss_one (ps_asg pe_non (pg_sub (pv 4) (pe_calC c__law_take hr (by decide) (by rfl) (pa_cons (pv 0) (pa_cons pe_int pa_nil))) set_list))) pss_nil) (pss_cons (ps_if (pt_cmpR op_eq (pe_calC c__law_take hr (by decide) (by rfl) (pa_cons (pv 0) (pa_cons pe_int pa_nil))) pe_int (nomark _)) (pss_one (ps_set (i := 4) sc__law_wrong_whole.nd rfl (by first | exact Or.inl rfl | exact Or.inr rfl) (pe_lst pa_nil))) pss_nil) (pss_cons (ps_set (i := 3) sc__law_wrong_whole.nd rfl (by first | exact Or.inl rfl | exact Or.inr rfl) (pe_calC c__law_ask hr (by decide) (by rfl) (pa_cons (pv 4) pa_nil))) (pss_one (ps_ret (pe_and (pe_cmpR op_eq (pe_callB (cr_lenK K rfl) (by rfl) T.b_len PySem.boot_len (pa_cons (pv 3) pa_nil)) pe_int (nomark _)) (pe_and (pe_cmpR op_eq (pe_ix (ix_seqK K rfl) (pv 3) pe_int (fun _ _ => rfl)) pe_str (nomark _)) (pe_one (pe_calC c__law_like_0 hr (by decide) (by rfl) (pa_cons (pe_ix (ix_seqK K rfl) (pv 3) pe_int (fun _ _ => rfl)) (pa_cons (pe_callB (cr_lenK K rfl) (by rfl) T.b_len PySem.boot_len (pa_cons (pv 4) pa_nil)) pa_nil))))))))))))))))), ?_⟩)
  intro nn B l Q h
  obtain ⟨bs, rfl, hl1, hl, ok, h⟩ := h
  refine sx_reg rfl ?_
  walk_at "h"
  refine ⟨_, _, rfl, by decide, by decide, ⟨1, 2, by decide, by decide⟩, rfl, ?_⟩
  walk_at "h"
  refine ⟨7, rfl, by decide, by decide, fun r r0 r1 => ?_⟩
  obtain ⟨w, kw, sw, hw⟩ : ∃ w, KnR w ∧ seqOf w = none ∧ atI [D.non, D.int 3, D.bl true, D.str "boxes", D.frac ⟨1, 2, by decide, by decide⟩, D.bl false, D.int 0] r = some w := by
    obtain rfl | rfl | rfl | rfl | rfl | rfl | rfl : r = 0 ∨ r = 1 ∨ r = 2 ∨ r = 3 ∨ r = 4 ∨ r = 5 ∨ r = 6 := by omega
    · exact ⟨_, .non, rfl, rfl⟩
    · exact ⟨_, .int _, rfl, rfl⟩
    · exact ⟨_, .bl _, rfl, rfl⟩
    · exact ⟨_, .str _, rfl, rfl⟩
    · exact ⟨_, .frac ⟨of_small (n := 1) (by decide) (by decide), of_small (n := 2) (by decide) (by decide)⟩, rfl, rfl⟩
    · exact ⟨_, .bl _, rfl, rfl⟩
    · exact ⟨_, .int _, rfl, rfl⟩
  refine x_at hw ?_
  walk_at "h"
  refine ⟨w, rfl, kw, fun _ => ?_, fun xs hxs => (by rw [sw] at hxs; cases hxs)⟩
  refine sx_skip ?_ ?_
  · walk_at "v"
    refine rk_ne (v1 := .str "project") (v2 := .str "project") rfl rfl rfl ?_
    rw [decide_eq_true rfl]
    walk_at "v"
    rfl
  refine sx_seq ?_
  refine sx_setN (j := 6) (cs := []) rfl rfl (en_call ?_)
  walk_at "v"
  refine ⟨bs, rfl, by omega, ok, fun ds hds a => ?_⟩
  have hdl := hds.length
  obtain ⟨_, _, g3⟩ := gvs_ok hds ok
  show SX (CL K nn) B [.d .pool, .d (.lst (bs.map boxL)), .d w, .d (.lst [.str "project", .non]), .d (.adr a), .no, .reg [(a, ds)]] _ _ _ _ _
  refine sx_cut (fun Γ => ∃ es : List D, es.length = 5 ∧ (∀ y ∈ es, KnR y) ∧ Wk Γ [.d .pool, .d (.lst (bs.map boxL)), .d w, .d (.lst [.str "project", .non]), .d (.adr a), .no, .reg [(a, es)]]) ?_ ?_
  · refine sx_whileW (fun es : List D => [.d .pool, .d (.lst (bs.map boxL)), .d w, .d (.lst [.str "project", .non]), .d (.adr a), .no, .reg [(a, es)]]) (fun es => 1 ≤ es.length ∧ es.length ≤ 5 ∧ ∀ y ∈ es, KnR y) (fun es => 5 - es.length) ⟨ds, ⟨by omega, by omega, g3⟩, Wk.refl⟩ fun es ⟨z1, z2, z3⟩ => ?_
    refine tk_test ?_
    refine ek_op (ek_len (el_adr (j := 6) rfl (ek_var rfl ⟨a, _, rfl, List.mem_singleton.mpr rfl, ?_⟩)))
    walk_at "v"
    refine br_p (fun z => ?_) (fun z => ?_)
    · match es, z1 with
      | x :: t, _ =>
        refine sx_appC (j := 6) rfl (ek_var rfl ⟨a, rfl, ⟨_, List.mem_singleton.mpr rfl⟩, en_ek ?_⟩)
        refine ek_ix (el_adr (j := 6) rfl (ek_var rfl ⟨a, _, rfl, List.mem_singleton.mpr rfl, ?_⟩))
        refine ek_int ?_
        refine x_at (atI_nat (i := 0) rfl) ?_
        refine ⟨0, x :: t, rfl, small1000 (by omega), (x :: t) ++ [x], by simp; simp at z; omega, ⟨by simp, by simp; simp at z; omega, fun y hy => ?_⟩, Wk.refl⟩
        rcases List.mem_append.mp hy with hy | hy
        · exact z3 y hy
        · cases List.mem_singleton.mp hy; exact z3 x List.mem_cons_self
    · intro Γ' hw
      exact ⟨es, by omega, z3, hw⟩
  rintro Γ1 ⟨es, e1, e2, hw⟩
  refine sx_weak hw ?_
  refine sx_cut (fun Γ => ∃ es : List D, 5 ≤ es.length ∧ es.length ≤ 10 ∧ (∀ y ∈ es, KnR y) ∧ Wk Γ [.d .pool, .d (.lst (bs.map boxL)), .d w, .d (.lst [.str "project", .non]), .d (.adr a), .no, .reg [(a, es)]]) ?_ ?_
  · refine sx_forGS ?_
    walk_at "v"
    refine ⟨4, rfl, by decide, by decide, fun r r0 r1 => ?_⟩
    obtain ⟨n, rfl⟩ : ∃ n : Nat, r = (n : Int) := ⟨r.toNat, by omega⟩
    walk_at "v"
    refine ⟨(n : Nat), rfl, by omega, by omega, ?_⟩
    refine ⟨Nat, List.range n, _, List D, fun j es => [.d .pool, .d (.lst (bs.map boxL)), .d w, .d (.lst [.str "project", .non]), .d (.adr a), .no, .reg [(a, es)]], fun j es => 5 ≤ es.length ∧ es.length ≤ 5 + j ∧ ∀ y ∈ es, KnR y, rng1, ⟨es, ⟨by omega, by omega, e2⟩, Wk.refl⟩, fun B' j x es hx hs => ?_, fun Γ' es hs w => ?_⟩
    · obtain ⟨z1, z2, z3⟩ := hs
      obtain ⟨rfl, hj⟩ := rng_get hx
      walk_at "v"
      match es, z1, z2 with
      | x' :: t, z1, z2 =>
        refine sx_appC (j := 6) rfl (ek_var rfl ⟨a, rfl, ⟨_, List.mem_singleton.mpr rfl⟩, en_ek ?_⟩)
        refine ek_ix (el_adr (j := 6) rfl (ek_var rfl ⟨a, _, rfl, List.mem_singleton.mpr rfl, ?_⟩))
        refine ek_int ?_
        refine x_at (atI_nat (i := 0) rfl) ?_
        refine ⟨0, x' :: t, rfl, small1000 (by omega), (x' :: t) ++ [x'], ⟨by rw [List.length_append]; omega, by rw [List.length_append]; show _ + 1 ≤ _; omega, fun y hy => ?_⟩, ?_⟩
        · rcases List.mem_append.mp hy with hy | hy
          · exact z3 y hy
          · cases List.mem_singleton.mp hy; exact z3 x' List.mem_cons_self
        · exact .same (.same (.same (.same (.same (.no (.same .nil))))))
    · obtain ⟨z1, z2, z3⟩ := hs
      rw [List.length_range] at z2
      exact ⟨es, z1, by omega, z3, w⟩
  rintro Γ2 ⟨es, e1, e1', e2, hw⟩
  refine sx_weak hw ?_
  refine sx_cut (fun Γ => ∃ es : List D, 5 ≤ es.length ∧ es.length ≤ 10 ∧ (∀ y ∈ es, KnR y) ∧ Γ = [.d .pool, .d (.lst (bs.map boxL)), .d w, .d (.lst [.str "project", .non]), .d (.adr a), .no, .reg [(a, es)]]) ?_ ?_
  · refine sx_if ?_
    walk_at "v"
    refine ⟨2, rfl, by decide, by decide, fun r r0 r1 => ?_⟩
    walk_at "v"
    refine br_p (fun _ => ?_) (fun _ => ?_)
    · refine sx_setC (j := 6) rfl (en_ek ?_)
      walk_at "v"
      refine ⟨a, rfl, ?_⟩
      walk_at "v"
      refine ⟨5, rfl, by decide, by decide, fun r r0 r1 => ?_⟩
      obtain ⟨n, rfl⟩ : ∃ n : Nat, r = (n : Int) := ⟨r.toNat, by omega⟩
      exact ⟨0, es, (n : Nat), n, rfl, rfl, ixN_nat (by omega), es.set n .non, by rw [List.length_set]; exact e1, by rw [List.length_set]; exact e1', all_set e2 .non, rfl⟩
    · refine sx_next ?_
      exact ⟨es, e1, e1', e2, rfl⟩
  rintro _ ⟨es, e1, e1', e2, rfl⟩
  refine sx_frz (i := 4) (j := 6) rfl rfl (.adr (List.mem_singleton.mpr rfl) resL_id) ?_
  refine sx_cut (fun Γ => ∃ es : List D, ¬ (1 ≤ es.length ∧ es.length ≤ 4) ∧ es.length ≤ 10 ∧ (∀ y ∈ es, KnR y) ∧ Γ = [.d .pool, .d (.lst (bs.map boxL)), .d w, .d (.lst [.str "project", .non]), .d (.lst es), .no, .reg []]) ?_ ?_
  · refine sx_if ?_
    walk_at "v"
    refine ⟨4, rfl, by decide, by decide, fun r r0 r1 => ?_⟩
    walk_at "v"
    refine br_p (fun _ => ?_) (fun _ => ?_)
    · walk_at "h"
      exact ⟨[], by simp, by simp, fun _ h => (nomatch h), rfl⟩
    · refine sx_next ?_
      exact ⟨es, by omega, e1', e2, rfl⟩
  rintro _ ⟨es, e1, e1', e2, rfl⟩
  walk_at "h"
  refine ⟨_, rfl, .lst e2 (by omega), fun z => (by cases z), fun xs hxs => ?_⟩
  cases hxs
  refine ⟨fun _ => ?_, fun z1 z2 => absurd ⟨z1, z2⟩ e1⟩
  walk_at "h"
  refine rk_eq (v1 := .str "size") (v2 := .str "size") rfl rfl rfl ?_
  rw [decide_eq_true rfl]
  walk_at "h"
  refine ⟨_, _, rfl, .int _, .inl ⟨_, rfl⟩, ?_⟩
  rw [like_int]
  exact h

end

end K
end

section
set_option maxRecDepth 100000
set_option maxHeartbeats 4000000
namespace K
open PySem PySem.Spec PyProof.Rows L2 G

def cb (p : Addr × BxT) : Addr × List D := (p.1, p.2.2.map pairL)
def ob (p : Addr × BxT) : D := .tup [lowD p.2.1, .adr p.1]
theorem getB_cb {L : List (Addr × BxT)} {n : Nat} {p : Addr × BxT} {z : List (Addr × List D)} (h : L[n]? = some p) : (L.map cb ++ z)[n]? = some (cb p) := by
  have hl := (List.getElem?_eq_some_iff.mp h).1
  rw [List.getElem?_append_left (by rw [List.length_map]; exact hl), List.getElem?_map, h]; rfl
theorem getB_top {L : List (Addr × BxT)} {z : Addr × List D} : (L.map cb ++ [z])[L.length]? = some z := by
  rw [List.getElem?_append_right (by rw [List.length_map]; exact Nat.le_refl _), List.length_map, Nat.sub_self]; rfl
theorem resB {R : List (Addr × List D)} {p : Addr × BxT} {ps : List (Int × Rat)} (h : (p.1, ps.map pairL) ∈ R) : ResF R (ob p) (boxL (p.2.1, ps)) :=
  .tup (.cons .id (.cons (.adr h resL_id) .nil))
theorem set_cb {L : List (Addr × BxT)} {n k : Nat} {q : Addr × BxT} {y : Addr × List D} {z : List (Addr × List D)} (h : L[k]? = some q) (hk : k ≠ n) : cb q ∈ (L.map cb ++ z).set n y := List.mem_of_getElem? (i := k) (by rw [List.getElem?_set_ne (Ne.symm hk)]; exact getB_cb h)
theorem resB_all {R : List (Addr × List D)} {L : List (Addr × BxT)} (h : ∀ p ∈ L, cb p ∈ R) : ResFL R (L.map ob) (L.map fun p => boxL p.2) :=
  resL_ix (by simp) fun k d d' h1 h2 => by
    rw [List.getElem?_map] at h1 h2
    cases hq : L[k]? with
    | none => rw [hq] at h1; cases h1
    | some q =>
      rw [hq] at h1 h2; cases h1; cases h2
      exact resB (h q (List.mem_of_getElem? hq))
theorem resB_inner {L : List (Addr × BxT)} {n : Nat} {p : Addr × BxT} {a : Addr} {ps : List (Int × Rat)} (hp : L[n]? = some p) : ResF ((L.map cb ++ [(a, L.map ob)]).set n (p.1, ps.map pairL)) (.adr a) (.lst (((L.map (·.2)).set n (p.2.1, ps)).map boxL)) := by
  have hn := (List.getElem?_eq_some_iff.mp hp).1
  refine .adr (l := L.map ob) (List.mem_of_getElem? (i := L.length) (by rw [List.getElem?_set_ne (by omega)]; exact getB_top)) (resL_ix (by simp) fun k d d' h1 h2 => ?_)
  rw [List.getElem?_map] at h1
  cases hq : L[k]? with
  | none => rw [hq] at h1; cases h1
  | some q =>
    rw [hq] at h1; cases h1
    by_cases hk : k = n
    · subst hk
      rw [hp] at hq; cases hq
      rw [List.getElem?_map, List.getElem?_set_self (by rw [List.length_map]; exact hn)] at h2
      cases h2
      exact resB (List.mem_of_getElem? (i := k) (List.getElem?_set_self (by rw [List.length_append, List.length_map]; omega)))
    · rw [List.getElem?_map, List.getElem?_set_ne (Ne.symm hk), List.getElem?_map, hq] at h2
      cases h2
      exact resB (set_cb hq hk)
theorem resB_outer {L : List (Addr × BxT)} {a : Addr} {O O' : List D} (h : ∀ R, (∀ p ∈ L, cb p ∈ R) → ResFL R O O') : ResF ((L.map cb ++ [(a, L.map ob)]).set L.length (a, O)) (.adr a) (.lst O') :=
  .adr (l := O) (List.mem_of_getElem? (i := L.length) (List.getElem?_set_self (by simp))) (h _ fun q hq => by
    obtain ⟨k, hk⟩ := List.mem_iff_getElem?.mp hq
    exact set_cb hk (by have := (List.getElem?_eq_some_iff.mp hk).1; omega))
theorem resL_erase {R : List (Addr × List D)} : ∀ {n : Nat} {l l' : List D}, ResFL R l l' → ResFL R (l.eraseIdx n) (l'.eraseIdx n)
  | _, [], _, .nil => .nil
  | 0, _ :: _, _, .cons _ b => b
  | n + 1, _ :: _, _, .cons a b => .cons a (resL_erase (n := n) b)
theorem cutD_tail {l : List D} : G.cutD l (some 1) none = l.drop 1 := by
  unfold G.cutD
  rw [show HT.sIx l.length 0 (some 1) = min 1 l.length from HT.sIx_nat _ _ 1, HT.sIx_none]
  rcases l with _ | ⟨x, t⟩
  · rfl
  · rw [Nat.min_eq_left (by simp)]
    exact List.take_of_length_le (by simp)
theorem cutD_head {l : List D} : G.cutD l none (some 1) = l.take 1 := by
  unfold G.cutD
  rw [show HT.sIx l.length l.length (some 1) = min 1 l.length from HT.sIx_nat _ _ 1, HT.sIx_none, List.drop_zero, Nat.sub_zero]
  rcases l with _ | ⟨x, t⟩
  · rfl
  · rw [Nat.min_eq_left (by simp)]
theorem map_eraseIdx' {α β : Type} (f : α → β) : ∀ {l : List α} {n : Nat}, (l.map f).eraseIdx n = (l.eraseIdx n).map f
  | [], _ => rfl
  | _ :: _, 0 => rfl
  | x :: t, n + 1 => by
    show f x :: (t.map f).eraseIdx n = _
    rw [map_eraseIdx' f]; rfl
theorem PsOk.w99 {ps : List (Int × Rat)} (ok : PsOk ps) {j : Nat} {x : Int × Rat} (hx : ps[j]? = some x) : PsOk (ps.set j (1 + x.1 % 99, x.2)) where
  l1 := by rw [List.length_set]; exact ok.l1
  l4 := by rw [List.length_set]; exact ok.l4
  w1 p hp := by
    rcases List.mem_or_eq_of_mem_set hp with z | rfl
    · exact ok.w1 p z
    · show 1 ≤ 1 + x.1 % 99; omega
  w2 p hp := by
    rcases List.mem_or_eq_of_mem_set hp with z | rfl
    · exact ok.w2 p z
    · show 1 + x.1 % 99 ≤ 99; omega
  ok p hp := by
    rcases List.mem_or_eq_of_mem_set hp with z | rfl
    · exact ok.ok p z
    · exact ok.ok x (List.mem_of_getElem? hx)
  asc := by
    have e : (ps.set j (1 + x.1 % 99, x.2)).map (·.2) = ps.map (·.2) := by
      rw [List.map_set]
      refine List.ext_getElem? fun i => ?_
      by_cases hi : i = j
      · subst hi
        rw [List.getElem?_set_self (by rw [List.length_map]; exact (List.getElem?_eq_some_iff.mp hx).1), List.getElem?_map, hx]; rfl
      · rw [List.getElem?_set_ne (Ne.symm hi)]
    rw [e]; exact ok.asc
theorem PsOk.pop {ps : List (Int × Rat)} (ok : PsOk ps) {j : Nat} (hl : 1 < ps.length) : PsOk (ps.eraseIdx j) where
  l1 := by have := List.length_eraseIdx (l := ps) (i := j); split at this <;> omega
  l4 := by have h4 := ok.l4; have := List.length_eraseIdx (l := ps) (i := j); split at this <;> omega
  w1 p hp := ok.w1 p (List.mem_of_mem_eraseIdx hp)
  w2 p hp := ok.w2 p (List.mem_of_mem_eraseIdx hp)
  ok p hp := ok.ok p (List.mem_of_mem_eraseIdx hp)
  asc := ok.asc.sublist ((List.eraseIdx_sublist _ _).map _)
theorem top_lt {q : Rat} (h : WOk q) (hn : q ≠ 9999) : q < 9999 := by
  have hle : q ≤ 9999 := by
    have h1 : ((q.num : Rat)) ≤ 9999 := by have := h.n1; exact_mod_cast this
    refine Rat.le_trans ?_ h1
    have hd : (1 : Rat) ≤ ((q.den : Int) : Rat) := by have := q.den_pos; exact_mod_cast this
    have e := num_mul q
    have h0 : (0 : Rat) ≤ q := Rat.num_nonneg.mp h.nn
    rw [e]
    have := Rat.mul_le_mul_of_nonneg_left hd h0
    rwa [Rat.mul_one] at this
  exact Rat.not_le.mp fun z => hn (Rat.le_antisymm hle z)
theorem PsOk.app {x : Int × Rat} (ok : PsOk [x]) (hx : x.2 ≠ 9999) : PsOk [x, (1, 9999)] where
  l1 := by simp
  l4 := by simp
  w1 p hp := by
    simp only [List.mem_cons, List.not_mem_nil, or_false] at hp
    rcases hp with rfl | rfl
    · exact ok.w1 _ (by simp)
    · decide
  w2 p hp := by
    simp only [List.mem_cons, List.not_mem_nil, or_false] at hp
    rcases hp with rfl | rfl
    · exact ok.w2 _ (by simp)
    · decide
  ok p hp := by
    simp only [List.mem_cons, List.not_mem_nil, or_false] at hp
    rcases hp with rfl | rfl
    · exact ok.ok _ (by simp)
    · exact ⟨by decide, by decide, by decide⟩
  asc := by
    have := top_lt (ok.ok x (by simp)) hx
    simpa using this
section
local macro_rules | `(tactic| walk_at "e") => `(tactic| first
  | ((with_reducible refine' ek_var ?h1 ?_); (case h1 => exact rfl))
  | (with_reducible refine ek_int ?_)
  | (with_reducible refine ek_bl ?_)
  | (with_reducible refine ek_non ?_)
  | (with_reducible refine ek_str ?_)
  | (with_reducible refine ek_ty ?_)
  | (with_reducible refine ek_cls ?_)
  | (with_reducible refine ek_ix ?_)
  | (with_reducible refine ek_un ?_)
  | (with_reducible refine ek_tup ?_)
  | (with_reducible refine k_call ?_)
  | (with_reducible refine ek_len ?_)
  | (with_reducible refine ek_tuple ?_)
  | (with_reducible refine ek_sum ?_)
  | (with_reducible refine ek_all ?_)
  | (with_reducible refine ek_any ?_)
  | (with_reducible refine ek_chain ?_)
  | (with_reducible refine ek_andV ?_)
  | (with_reducible refine ek_orV ?_)
  | (with_reducible refine ek_notV ?_)
  | (with_reducible refine ek_if ?_)
  | (with_reducible refine ek_ef (ef_lst ?_))
  | (with_reducible refine ek_ef (ef_list ?_))
  | (with_reducible refine ek_ef (ef_cat ?_))
  | (with_reducible refine ek_ef (ef_rep ?_))
  | (with_reducible refine ek_ef (ef_slice ?_))
  | (with_reducible refine ek_ef (ef_rev ?_))
  | (with_reducible refine ek_ef (ef_lstRev ?_))
  | (with_reducible refine ek_ef (ef_map ?_))
  | (with_reducible refine ek_ef (ef_filt ?_))
  | (with_reducible refine ef_lst ?_)
  | (with_reducible refine ef_list ?_)
  | (with_reducible refine ef_cat ?_)
  | (with_reducible refine ef_rep ?_)
  | (with_reducible refine ef_slice ?_)
  | (with_reducible refine ef_rev ?_)
  | (with_reducible refine ef_lstRev ?_)
  | (with_reducible refine ef_map ?_)
  | (with_reducible refine ef_filt ?_)
  | ((with_reducible refine' el_var ?h1 ?_); (case h1 => exact rfl))
  | ((with_reducible refine' el_own ?h1 ?_); (case h1 => exact rfl))
  | (with_reducible refine el_ef (ef_lst ?_))
  | (with_reducible refine el_ef (ef_list ?_))
  | (with_reducible refine el_ef (ef_cat ?_))
  | (with_reducible refine el_ef (ef_rep ?_))
  | (with_reducible refine el_ef (ef_slice ?_))
  | (with_reducible refine el_ef (ef_rev ?_))
  | (with_reducible refine el_ef (ef_lstRev ?_))
  | (with_reducible refine el_ef (ef_map ?_))
  | (with_reducible refine el_ef (ef_filt ?_))
  | (with_reducible refine ek_op ?_)
  | (with_reducible refine ek_cb ?_)
  | (with_reducible refine el_ek ?_)
  | (with_reducible refine tk_test ?_)
  | (with_reducible refine tk_B ?_)
  | (with_reducible refine tk_and ?_)
  | (with_reducible refine tk_or ?_)
  | (with_reducible refine tk_not ?_)
  | (with_reducible refine tk_yes ?_)
  | (with_reducible refine ak_nil ?_)
  | (with_reducible refine ak_cons ?_)
  | (with_reducible refine k_num (‹Tx _ _›) ?_)
  | (with_reducible refine k_den (‹Tx _ _›) ?_)
  | (with_reducible refine k_mk2 ?_)
  | (with_reducible refine k_mk1 ?_)
  | (with_reducible refine k_bel ?_)
  | (with_reducible refine k_own ?_)
  | (with_reducible refine rk_U2 (k_own ?_))
  | (with_reducible refine rk_mul (Sz.mul (by assumption) (by assumption)) ?_)
  | (with_reducible refine rk_U1 (rk_mul (Sz.mul (by assumption) (by assumption)) ?_))
  | (with_reducible refine ek_dget ?_)
  | (with_reducible refine uk_neg ?_)
  | (with_reducible refine ek_disp ?_)
  | (with_reducible refine pk_cons ?_)
  | (with_reducible refine pk_nil ?_)
  | (with_reducible refine rk_mod (by assumption) ?_)
  | (with_reducible refine rk_add ?_)
  | (with_reducible refine rk_sub ?_)
  | (with_reducible refine rk_lt ?_)
  | (with_reducible refine rk_le ?_)
  | (with_reducible refine rk_gt ?_)
  | (with_reducible refine rk_ge ?_)
  | (with_reducible refine rk_eqI ?_)
  | (with_reducible refine rk_neI ?_)
  | (with_reducible refine rk_isN ?_)
  | (with_reducible refine rk_notN ?_)
  | (with_reducible refine rk_U1 (rk_add ?_))
  | (with_reducible refine rk_U1 (rk_sub ?_))
  | (with_reducible refine ck_gcd ?_)
  | (with_reducible refine ck_abs ?_)
  | (with_reducible refine ck_int ?_)
  | (with_reducible refine ik_seq ?_)
  | (with_reducible refine ik_range1 ?_)
  | (with_reducible refine ik_range2 ?_)
  | (with_reducible refine ik_enumA ?_)
  | (with_reducible refine ik_zip ?_)
  | (with_reducible refine ik_rev ?_)
  | ((with_reducible refine' cg_name ?_ ?h1 ?h2); (case h1 => exact rfl); (case h2 => decide))
  | ((with_reducible refine' cg_anyT ?h1 ?_); (case h1 => exact rfl))
  | ((with_reducible refine' cg_anyL ?h1 ?_); (case h1 => exact rfl))
  | ((with_reducible refine' cg_anyK ?h1 ?_); (case h1 => exact rfl))
  | ((with_reducible refine' cgs_cons ?_ ?h1 ?h2); (case h1 => exact rfl); (case h2 => decide))
  | (with_reducible refine cgs_nil ?_)
  | ((with_reducible refine' gk_name ?_ ?h1); (case h1 => exact rfl))
  | ((with_reducible refine' gk_anyT ?h1 ?_); (case h1 => exact rfl))
  | ((with_reducible refine' gk_anyL ?h1 ?_); (case h1 => exact rfl))
  | ((with_reducible refine' gk_anyK ?h1 ?_); (case h1 => exact rfl))
  | ((with_reducible refine' gks_cons ?_ ?h1); (case h1 => exact rfl))
  | ((with_reducible refine' gks_consA (n := 0) ?_ ?h1 ?h2); (case h1 => exact rfl); (case h2 => exact rfl))
  | ((with_reducible refine' gks_consB ?h0 ?_ ?h1 ?h2); (case h0 => exact rfl); (case h1 => exact rfl); (case h2 => exact rfl))
  | (with_reducible refine gks_nil ?_)
  | (with_reducible refine ok_none ?_)
  | (with_reducible refine ok_some ?_))
local macro_rules | `(tactic| walk_at "s") => `(tactic| first
  | (with_reducible refine sx_guard ?_ ?_)
  | (with_reducible refine sx_seq ?_)
  | ((with_reducible refine' sx_retO ?h1 ?_); (case h1 => exact rfl))
  | (with_reducible refine sx_ret ?_)
  | (with_reducible refine sx_if ?_)
  | (with_reducible refine sx_next ?_)
  | (with_reducible refine sx_break ?_)
  | (with_reducible refine sx_cont ?_)
  | ((with_reducible refine' sx_append ?h1 ?_); (case h1 => exact rfl))
  | ((with_reducible refine' sx_setI ?h1 ?_); (case h1 => exact rfl))
  | ((with_reducible refine' sx_set ?h1 ?_); (case h1 => exact rfl))
  | (with_reducible refine sx_asg ?_)
  | ((with_reducible refine' sx_par ?h1 ?h2 ?_); (case h1 => exact rfl); (case h2 => exact rfl))
  | (with_reducible refine sx_drop ?_)
  | ((with_reducible refine' k_fldS (‹Tx _ _›) ?h1 ?h2 ?h3 ?_); (case h1 => exact rfl); (case h2 => decide); (case h3 => exact rfl)))
/-! plain existentials that the rules leave -/
local macro_rules | `(tactic| walk_at "x") => `(tactic| first
  | (with_reducible refine x_bl ?_)
  | (with_reducible refine x_int ?_)
  | (with_reducible refine x_frac ?_)
  | (with_reducible refine x_lst ?_)
  | (with_reducible refine x_tup ?_)
  | (with_reducible refine x_kd ?_)
  | (with_reducible refine x_oneL ?_)
  | (with_reducible refine x_oneT ?_)
  | (with_reducible refine x_one ?_)
  | ((with_reducible refine' x_at ?h1 ?_); (case h1 => exact rfl))
  | ((with_reducible refine' x_dic ?h1 ?_); (case h1 => exact rfl))
  | (with_reducible refine (⟨rfl, ?_⟩ : Kd.l = Kd.l ∧ _))
  | ((with_reducible refine' x_len ?h1 ?_); (case h1 => exact rfl))
  | ((with_reducible refine' br_t ?h1 ?_); (case h1 => exact rfl))
  | ((with_reducible refine' br_f ?h1 ?_); (case h1 => exact rfl)))
local macro_rules | `(tactic| walk_at "f") => `(tactic| first
  | ((with_reducible refine' sx_forW ?h1 ?_); (case h1 => exact rfl))
  | (with_reducible refine sx_forGW ?_))
local macro_rules | `(tactic| walk_at "g") => `(tactic| repeat (first | walk_at "s" | walk_at "f" | walk_at "e" | walk_at "x"))
local macro_rules | `(tactic| walk_at "v") => `(tactic| repeat (first | walk_at "e" | walk_at "x"))
local macro_rules | `(tactic| walk_at "h") => `(tactic| repeat (first | walk_at "s" | walk_at "e" | walk_at "x"))
variable {P : Program} {w : World} {K : PySem.W.Frag} {mg : Str → Option Value} {base : Heap}

def S__law_bent : List D → (D → Prop) → Prop := fun l K => ∃ bs : List BxT, l = [.pool, .lst (bs.map boxL)] ∧ 1 ≤ bs.length ∧ bs.length ≤ 4 ∧ (∀ b ∈ bs, BOk b) ∧ ∀ cs : List BxT, 1 ≤ cs.length → cs.length ≤ 4 → (∀ b ∈ cs, BOk b) → K (.lst (cs.map boxL))
theorem ok__law_bent (T : Tx K mg) (c__law_take : Cal P w K mg base 1 "_law_take" ["pool", "many"] (SpFam (CL K) S__law_take)) (c__law_low : Cal P w K mg base 1 "_law_low" ["num", "den"] (SpFam (CL K) S__law_low)) : Cal P w K mg base 2 "_law_bent" ["pool", "boxes"] (SpFam (CL K) S__law_bent) := by
  refine cal_mkF (N := ["pool", "boxes", "told", "at", "cost", "prizes", "j", "kind", "box"]) T.g__law_bent T.d__law_bent sc__law_bent (fun _ _ _ _ _ _ us hl => match us, hl with | [_, _], _ => rfl) (by intro l Q h; first | (obtain ⟨rfl, _⟩ := h; rfl) | (obtain ⟨_, rfl, _⟩ := h; rfl) | (obtain ⟨_, _, rfl, _⟩ := h; rfl) | (obtain ⟨_, _, _, rfl, _⟩ := h; rfl) | (obtain ⟨_, _, _, _, rfl, _⟩ := h; rfl) | (obtain ⟨_, _, _, _, _, rfl, _⟩ := h; rfl) | (obtain ⟨_, _, _, _, _, _, rfl, _⟩ := h; rfl) | (obtain ⟨_, _, _, _, _, _, _, rfl, _⟩ := h; rfl) | (obtain ⟨_, _, _, _, _, _, _, _, rfl, _⟩ := h; rfl) | (obtain ⟨_, _, _, _, _, _, _, _, _, rfl, _⟩ := h; rfl) | (obtain ⟨_, _, _, _, _, _, _, _, _, _, rfl, _⟩ := h; rfl) | (obtain ⟨_, _, _, _, _, _, _, _, _, _, _, rfl, _⟩ := h; rfl)) (fun f cdv A outer s H E hr => ⟨_, (pss_cons (ps_setLc (i := 2) (own := [("box", 8)]) (g := gName 8) (tt := tYes) rfl sc__law_bent.nd rfl rfl (sw_true rfl rfl rfl (by decide +kernel)) (pi_seqK K rfl (pv 1)) (blkOk_by (own := [("box", 8)]) (N := ["pool", "boxes", "told", "at", "cost", "prizes", "j", "kind", "box"]) (sc := defScope s__law_bent) (by decide +kernel)) (fun _ _ _ _ _ => (pg_name (i := 8) sc__law_bent.nd rfl (by first | exact Or.inl rfl | exact Or.inr rfl))) (fun _ _ _ _ _ => pts_nil) (fun _ _ _ _ _ => (pe_tup (pa_cons (pe_ix (ix_seqK K rfl) (pv 8) pe_int (fun _ _ => rfl)) (pa_cons (pe_callTy (cr_listK K rfl) (by rfl) T.b_list (by decide +kernel) (pa_cons (pe_ix (ix_seqK K rfl) (pv 8) pe_int (fun _ _ => rfl)) pa_nil)) pa_nil))))) (pss_cons (ps_set (i := 3) sc__law_bent.nd rfl (by first | exact Or.inl rfl | exact Or.inr rfl) (pe_calC c__law_take hr (by decide) (by rfl) (pa_cons (pv 0) (pa_cons (pe_callB (cr_lenK K rfl) (by rfl) T.b_len PySem.boot_len (pa_cons (pv 2) pa_nil)) pa_nil)))) (pss_cons (ps_asg (pe_ix (ix_seqK K rfl) (pv 2) (pv 3) (fun _ _ => rfl)) (pg_anyK K rfl rfl (pgs_cons (pg_name (i := 4) sc__law_bent.nd rfl (by first | exact Or.inl rfl | exact Or.inr rfl)) (pgs_cons (pg_name (i := 5) sc__law_bent.nd rfl (by first | exact Or.inl rfl | exact Or.inr rfl)) pgs_nil)))) (pss_cons (ps_set (i := 6) sc__law_bent.nd rfl (by first | exact Or.inl rfl | exact Or.inr rfl) (pe_calC c__law_take hr (by decide) (by rfl) (pa_cons (pv 0) (pa_cons (pe_callB (cr_lenK K rfl) (by rfl) T.b_len PySem.boot_len (pa_cons (pv 5) pa_nil)) pa_nil)))) (pss_cons (ps_set (i := 7) sc__law_bent.nd rfl (by first | exact Or.inl rfl | exact Or.inr rfl) (pe_calC c__law_take hr (by decide) (by rfl) (pa_cons (pv 0) (pa_cons pe_int pa_nil)))) (pss_cons (ps_if (pt_cmpR op_eq (pv 7) pe_int (nomark _)) (pss_one (ps_asg (pe_tup (pa_cons (pe_calC c__law_low hr (by decide) (by rfl) (pa_cons (pe_op op_subI (pe_op op_addI (pe_ix (ix_seqK K rfl) (pv 4) pe_int (fun _ _ => rfl)) pe_int) (pe_op op_mulI pe_int (pe_op op_divI (pe_ix (ix_seqK K rfl) (pv 4) pe_int (fun _ _ => rfl)) pe_int))) (pa_cons (pe_ix (ix_seqK K rfl) (pv 4) pe_int (fun _ _ => rfl)) pa_nil))) (pa_cons (pv 5) pa_nil))) (pg_sub (pv 2) (pv 3) set_list))) pss_nil) (pss_cons (ps_if (pt_cmpR op_eq (pv 7) pe_int (nomark _)) (pss_one (ps_asg (pe_tup (pa_cons (pe_op op_addI pe_int (pe_op op_modI (pe_ix (ix_seqK K rfl) (pe_ix (ix_seqK K rfl) (pv 5) (pv 6) (fun _ _ => rfl)) pe_int (fun _ _ => rfl)) pe_int)) (pa_cons (pe_ix (ix_seqK K rfl) (pe_ix (ix_seqK K rfl) (pv 5) (pv 6) (fun _ _ => rfl)) pe_int (fun _ _ => rfl)) pa_nil))) (pg_sub (pv 5) (pv 6) set_list))) pss_nil) (pss_cons (ps_if (PW.pt (pw_and (pt_cmpR op_eq (pv 7) pe_int (nomark _)) (pw_and1 (pt_cmpR op_gtI (pe_callB (cr_lenK K rfl) (by rfl) T.b_len PySem.boot_len (pa_cons (pv 5) pa_nil)) pe_int (nomark _))))) (pss_one (ps_expr (pe_bm PySem.F.plainAttrs_list PySem.F.slot_list_pop PySem.F.type_list_pop mt_popAt (pv 5) (pa_cons (pv 6) pa_nil)))) pss_nil) (pss_cons (ps_if (PW.pt (pw_and (pt_cmpR op_eq (pv 7) pe_int (nomark _)) (pw_and (pt_cmpR op_eq (pe_callB (cr_lenK K rfl) (by rfl) T.b_len PySem.boot_len (pa_cons (pv 5) pa_nil)) pe_int (nomark _)) (pw_and1 (pt_cmpR (op_neDK rfl hr) (pe_ix (ix_seqK K rfl) (pe_ix (ix_seqK K rfl) (pv 5) pe_int (fun _ _ => rfl)) pe_int (fun _ _ => rfl)) (pe_tup (pa_cons pe_int (pa_cons pe_int pa_nil))) (nomark _)))))) (pss_one (ps_expr (pe_bm PySem.F.plainAttrs_list PySem.F.slot_list_append PySem.F.type_list_append mt_append (pv 5) (pa_cons (pe_tup (pa_cons pe_int (pa_cons (pe_tup (pa_cons pe_int (pa_cons pe_int pa_nil))) pa_nil))) pa_nil)))) pss_nil) (pss_cons (ps_if (PW.pt (pw_and (pt_cmpR op_eq (pv 7) pe_int (nomark _)) (pw_and1 (pt_cmpR op_gtI (pe_callB (cr_lenK K rfl) (by rfl) T.b_len PySem.boot_len (pa_cons (pv 2) pa_nil)) pe_int (nomark _))))) (pss_one (ps_expr (pe_bm PySem.F.plainAttrs_list PySem.F.slot_list_pop PySem.F.type_list_pop mt_popAt (pv 2) (pa_cons (pv 3) pa_nil)))) pss_nil) (pss_cons (ps_if (pt_cmpR op_eq (pv 7) pe_int (nomark _)) (pss_one (ps_set (i := 2) sc__law_bent.nd rfl (by first | exact Or.inl rfl | exact Or.inr rfl) (pe_op op_cat (pe_slice (sl_listK K rfl) (pv 2) (po_some pe_int) po_none) (pe_slice (sl_listK K rfl) (pv 2) po_none (po_some pe_int))))) pss_nil) (pss_one (ps_ret (pv 2)))))))))))))), ?_⟩)
  intro nn B l Q h
  obtain ⟨bs, rfl, hl1, hl, ok, h⟩ := h
  refine sx_reg rfl ?_
  refine sx_seq ?_
  refine sx_setN (j := 9) (cs := []) rfl rfl (en_lc ?_)
  walk_at "v"
  refine ⟨fun i ds acc => ∃ L : List (Addr × BxT), ds = L.map cb ∧ acc = L.map ob ∧ L.map (·.2) = bs.take i, ⟨[], rfl, rfl, rfl⟩, fun W1 i d ds acc hd hJ => ?_, fun ds acc hJ a => ?_⟩
  · obtain ⟨L, rfl, rfl, h3⟩ := hJ
    rw [List.getElem?_map] at hd
    cases hp : bs[i]? with
    | none => rw [hp] at hd; cases hd
    | some b =>
      rw [hp] at hd; cases hd
      have hll := congrArg List.length h3
      rw [List.length_map, List.length_take] at hll
      have l4 := (ok b (List.mem_of_getElem? hp)).p.l4
      have eb : boxL b = .tup [lowD b.1, .lst (b.2.map pairL)] := rfl
      rw [eb]
      walk_at "v"
      refine en_tup (an_cons (en_ek ?_))
      walk_at "v"
      refine an_cons (en_ef ?_)
      walk_at "v"
      intro r
      refine an_nil ⟨Nat.le_of_lt (small1000 (by simp)), small1000 (by rw [List.length_map]; omega), L ++ [(r, b)], ?_, ?_, ?_⟩
      · rw [List.map_append]; rfl
      · rw [List.map_append]; rfl
      · rw [List.map_append, h3, List.take_succ, hp]; rfl
  obtain ⟨L, rfl, rfl, h3⟩ := hJ
  rw [List.length_map, List.take_length] at h3
  have hLl : L.length = bs.length := by rw [← h3, List.length_map]
  have hat : (a, L.map ob) ∈ L.map cb ++ [(a, L.map ob)] := by simp
  show SX (CL K nn) B [.d .pool, .d (.lst (bs.map boxL)), .d (.adr a), .no, .no, .no, .no, .no, .no, .reg (L.map cb ++ [(a, L.map ob)])] _ _ _ _ _
  have hcb : ∀ p ∈ L, cb p ∈ L.map cb ++ [(a, L.map ob)] := fun p hp => List.mem_append_left _ (List.mem_map_of_mem hp)
  refine sx_seq ?_
  refine sx_set rfl ?_
  refine k_call ?_
  refine ak_cons (ek_var rfl ?_)
  refine ak_cons (ek_len (el_adr (j := 9) rfl (ek_var rfl ⟨a, _, rfl, hat, ?_⟩)))
  walk_at "v"
  refine ⟨(L.length : Nat), by rw [List.length_map], by omega, by omega, fun t t0 t1 => ?_⟩
  obtain ⟨n, rfl⟩ : ∃ n : Nat, t = (n : Int) := ⟨t.toNat, by omega⟩
  obtain ⟨p, hp⟩ : ∃ p, L[n]? = some p := ⟨_, List.getElem?_eq_getElem (by omega)⟩
  have hno : (L.map ob)[n]? = some (ob p) := by rw [List.getElem?_map, hp]; rfl
  have hn := (List.getElem?_eq_some_iff.mp hp).1
  have hpb : bs[n]? = some p.2 := by rw [← h3, List.getElem?_map, hp]; rfl
  have okb := ok p.2 (List.mem_of_getElem? hpb)
  have l1 := okb.p.l1
  have l4 := okb.p.l4
  refine sx_seq (sx_asg ?_)
  refine ek_ix ?_
  refine el_adr (j := 9) rfl (ek_var rfl ⟨a, _, rfl, hat, ?_⟩)
  refine ek_var rfl ?_
  refine x_at (atI_nat hno) ?_
  have eo : ob p = .tup [lowD p.2.1, .adr p.1] := rfl
  rw [eo]
  walk_at "v"
  obtain ⟨r, c, ps⟩ := p
  dsimp only at okb l1 l4 hpb eo ⊢
  have hr : (r, ps.map pairL) ∈ L.map cb ++ [(a, L.map ob)] := hcb _ (List.mem_of_getElem? hp)
  refine sx_seq ?_
  refine sx_set rfl ?_
  refine k_call ?_
  refine ak_cons (ek_var rfl ?_)
  refine ak_cons (ek_len (el_adr (j := 9) rfl (ek_var rfl ⟨r, _, rfl, hr, ?_⟩)))
  walk_at "v"
  refine ⟨(ps.length : Nat), by rw [List.length_map], by omega, by omega, fun t t0 t1 => ?_⟩
  obtain ⟨j, rfl⟩ : ∃ j : Nat, t = (j : Int) := ⟨t.toNat, by omega⟩
  obtain ⟨x, hx⟩ : ∃ x, ps[j]? = some x := ⟨_, List.getElem?_eq_getElem (by omega)⟩
  have hxL : (ps.map pairL)[j]? = some (pairL x) := by rw [List.getElem?_map, hx]; rfl
  have hj := (List.getElem?_eq_some_iff.mp hx).1
  have fin : ∀ b' : BxT, BOk b' → Q (.lst ((bs.set n b').map boxL)) := fun b' hb' => h _ (by rw [List.length_set]; exact hl1) (by rw [List.length_set]; exact hl) fun y hy => by
    rcases List.mem_or_eq_of_mem_set hy with z | rfl
    · exact ok y z
    · exact hb'
  have kp : ∀ ps' : List (Int × Rat), PsOk ps' → Q (.lst (((L.map (·.2)).set n (c, ps')).map boxL)) := fun ps' hp' => by
    rw [h3]; exact fin _ ⟨okb.c, hp'⟩
  walk_at "h"
  refine ⟨5, rfl, by decide, by decide, fun m m0 m1 => ?_⟩
  walk_at "h"
  refine br_p (fun z => ?_) (fun z => ?_)
  · refine sx_setC (j := 9) rfl (en_ek ?_)
    have el : lowD c = .tup [.int c.num, .int (c.den : Nat)] := rfl
    rw [el]
    walk_at "v"
    have w1 := okb.c.nn
    have w2 := okb.c.n1
    have w3 := okb.c.d1
    have w4 := c.den_pos
    dsimp only at w1 w2 w3
    refine rk_div (wide_div (b := 64) (by decide) (by decide) (by decide) (by decide)) ?_
    refine rk_mul (Sz.mul (of_small (n := 2) (by decide) (by decide)) (of_small (n := 9999) (by omega) (by decide))) ?_
    walk_at "v"
    refine ⟨c.num + 1 - 2 * (c.num / 9999), (c.den : Nat), rfl, by omega, big_of (by omega), ?_⟩
    walk_at "v"
    refine ⟨a, rfl, ?_⟩
    walk_at "v"
    rw [List.append_nil]
    refine ⟨L.length, _, (n : Nat), n, getB_top, rfl, ixN_nat (by rw [List.length_map]; exact hn), ?_⟩
    repeat (refine sx_skip ?h1 ?_; case h1 => (walk_at "v"; first | exact decide_eq_false (by omega) | exact br_p (fun z => absurd z (by omega)) (fun _ => rfl)))
    refine sx_frz (i := 2) (j := 9) rfl rfl (resB_outer (O' := ((bs.set n (Rat.divInt (c.num + 1 - 2 * (c.num / 9999)) c.den, ps)).map boxL)) fun R hR => ?_) ?_
    · rw [List.map_set, ← h3, List.map_map]
      exact resL_set (resB (p := (r, (Rat.divInt (c.num + 1 - 2 * (c.num / 9999)) c.den, ps))) (hR (r, (c, ps)) (List.mem_of_getElem? hp))) (resB_all hR)
    walk_at "h"
    have wq : WOk (Rat.divInt (c.num + 1 - 2 * (c.num / 9999)) (c.den : Int)) := wok_div (by omega) (by omega) (by omega) (by omega)
    exact fin (Rat.divInt (c.num + 1 - 2 * (c.num / 9999)) c.den, ps) ⟨wq, okb.p⟩
  walk_at "h"
  refine br_p (fun z => ?_) (fun z => ?_)
  · refine sx_setC (j := 9) rfl (en_ek (ek_tup (ak_cons (ek_op (ek_int ?_)))))
    refine ek_op (ek_ix (el_ek (ek_ix (el_adr (j := 9) rfl (ek_var rfl ⟨r, _, rfl, hr, ek_var rfl (x_at (atI_nat hxL) ?_)⟩)))))
    have ex : pairL x = .tup [.int x.1, lowD x.2] := rfl
    rw [ex]
    walk_at "v"
    refine rk_mod (by decide) ?_
    refine rk_add ?_
    refine ak_cons (ek_ix (el_ek (ek_ix (el_adr (j := 9) rfl (ek_var rfl ⟨r, _, rfl, hr, ek_var rfl (x_at (atI_nat hxL) ?_)⟩)))))
    rw [ex]
    walk_at "v"
    refine ⟨r, rfl, ?_⟩
    walk_at "v"
    rw [List.append_nil]
    refine ⟨n, _, (j : Nat), j, getB_cb hp, rfl, ixN_nat (by show j < (ps.map pairL).length; rw [List.length_map]; exact hj), ?_⟩
    have es : (ps.map pairL).set j (.tup [.int (1 + x.1 % 99), lowD x.2]) = (ps.set j (1 + x.1 % 99, x.2)).map pairL := by rw [List.map_set]; rfl
    show SX _ _ [_, _, _, _, _, _, _, _, _, .reg ((L.map cb ++ [(a, L.map ob)]).set n (r, (ps.map pairL).set j (.tup [.int (1 + x.1 % 99), lowD x.2])))] _ _ _ _ _
    rw [es]
    repeat (refine sx_skip ?h1 ?_; case h1 => (walk_at "v"; first | exact decide_eq_false (by omega) | exact br_p (fun z => absurd z (by omega)) (fun _ => rfl)))
    refine sx_frz (i := 2) (j := 9) rfl rfl (resB_inner hp) ?_
    walk_at "h"
    exact kp _ (okb.p.w99 hx)
  by_cases hm : m = 2
  · subst hm
    refine sx_next ?_
    refine sx_cut (fun Γ => ∃ ps', PsOk ps' ∧ Γ = [.d .pool, .d (.lst (bs.map boxL)), .d (.adr a), .d (.int (n : Nat)), .d (lowD c), .d (.adr r), .d (.int (j : Nat)), .d (.int 2), .no, .reg ((L.map cb ++ [(a, L.map ob)]).set n (r, ps'.map pairL))]) ?_ ?_
    · have e0 : (L.map cb ++ [(a, L.map ob)]).set n (r, ps.map pairL) = L.map cb ++ [(a, L.map ob)] := by
        refine List.ext_getElem? fun i => ?_
        by_cases hi : i = n
        · subst hi
          rw [List.getElem?_set_self (by rw [List.length_append, List.length_map]; omega)]
          exact (getB_cb hp).symm
        · rw [List.getElem?_set_ne (Ne.symm hi)]
      refine sx_if ?_
      refine tk_and ?_
      refine tk_test (ek_op (ek_var rfl (ek_int (rk_eqI (x_bl (br_t rfl ?_))))))
      refine tk_test (ek_op (ek_len (el_adr (j := 9) rfl (ek_var rfl ⟨r, _, rfl, hr, ?_⟩))))
      walk_at "v"
      refine br_p (fun z => ?_) (fun z => ?_)
      · rw [List.length_map] at z
        refine sx_popC (j := 9) rfl (ek_var rfl ⟨r, rfl, ⟨_, hr⟩, ek_var rfl ⟨j, n, _, rfl, getB_cb hp, by show j < (ps.map pairL).length; rw [List.length_map]; exact hj, by show (ps.map pairL).length ≤ _; rw [List.length_map]; omega, ?_⟩⟩)
        refine ⟨ps.eraseIdx j, PsOk.pop (ps := ps) okb.p (by omega), ?_⟩
        rw [← map_eraseIdx' pairL]; rfl
      · refine sx_next ?_
        refine ⟨ps, okb.p, ?_⟩
        rw [e0]; rfl
    rintro _ ⟨ps2, okp, rfl⟩
    have hr2 : ((L.map cb ++ [(a, L.map ob)]).set n (r, ps2.map pairL))[n]? = some (r, ps2.map pairL) := List.getElem?_set_self (by rw [List.length_append, List.length_map]; omega)
    have hm2 := List.mem_of_getElem? hr2
    have l41 := okp.l1
    have l44 := okp.l4
    refine sx_cut (fun Γ => ∃ ps', PsOk ps' ∧ Γ = [.d .pool, .d (.lst (bs.map boxL)), .d (.adr a), .d (.int (n : Nat)), .d (lowD c), .d (.adr r), .d (.int (j : Nat)), .d (.int 2), .no, .reg ((L.map cb ++ [(a, L.map ob)]).set n (r, ps'.map pairL))]) ?_ ?_
    · refine sx_if ?_
      refine tk_and ?_
      refine tk_test (ek_op (ek_var rfl (ek_int (rk_eqI (x_bl (br_t rfl ?_))))))
      refine tk_and ?_
      refine tk_test (ek_op (ek_len (el_adr (j := 9) rfl (ek_var rfl ⟨r, _, rfl, hm2, ?_⟩))))
      walk_at "v"
      refine br_p (fun z => ?_) (fun z => ?_)
      · rw [List.length_map] at z
        match ps2, okp, hr2, hm2, z with
        | [x2], okp, hr2, hm2, z =>
          refine tk_test (ek_op (ek_ix (el_ek (ek_ix (el_adr (j := 9) rfl (ek_var rfl ⟨r, _, rfl, hm2, ek_int (x_at (atI_nat (i := 0) rfl) ?_)⟩))))))
          have ex : pairL x2 = .tup [.int x2.1, lowD x2.2] := rfl
          rw [ex]
          walk_at "v"
          refine rk_neD (n := 1) (m := 1) pd_low (pd_low (q := 9999)) ?_
          have e9 : D.tup [D.int 9999, D.int 1] = lowD 9999 := rfl
          rw [e9, eqv_low]
          walk_at "v"
          refine br_n (fun z => ?_) (fun z => ?_)
          · refine sx_appC (j := 9) rfl (ek_var rfl ⟨r, rfl, ⟨_, hm2⟩, en_ek ?_⟩)
            walk_at "v"
            rw [List.append_nil]
            refine ⟨n, _, hr2, small1000 (by simp), [x2, (1, 9999)], okp.app z, ?_⟩
            rw [List.set_set]; rfl
          · refine sx_next ?_
            exact ⟨_, okp, rfl⟩
      · refine ⟨fun q => (by cases q), fun _ => ?_⟩
        refine sx_next ?_
        exact ⟨_, okp, rfl⟩
    rintro _ ⟨ps3, okp, rfl⟩
    repeat (refine sx_skip ?h1 ?_; case h1 => (walk_at "v"; first | exact decide_eq_false (by omega) | exact br_p (fun z => absurd z (by omega)) (fun _ => rfl) | rfl))
    refine sx_frz (i := 2) (j := 9) rfl rfl (resB_inner hp) ?_
    walk_at "h"
    exact kp _ okp
  refine sx_next ?_
  refine sx_skip ?_ ?_
  · walk_at "v"
    exact br_p (fun z => absurd z (by omega)) (fun _ => rfl)
  refine sx_skip ?_ ?_
  · walk_at "v"
    exact br_p (fun z => absurd z (by omega)) (fun _ => rfl)
  have fin0 : Q (.lst ((L.map fun p => boxL p.2))) := by
    have := h bs hl1 hl ok
    rw [← h3, List.map_map] at this
    exact this
  by_cases hm3 : m = 3
  · subst hm3
    refine sx_seq ?_
    refine sx_if ?_
    refine tk_and ?_
    refine tk_test (ek_op (ek_var rfl (ek_int (rk_eqI (x_bl (br_t rfl ?_))))))
    refine tk_test (ek_op (ek_len (el_adr (j := 9) rfl (ek_var rfl ⟨a, _, rfl, hat, ?_⟩))))
    walk_at "v"
    refine br_p (fun z => ?_) (fun z => ?_)
    · rw [List.length_map] at z
      refine sx_popC (j := 9) rfl (ek_var rfl ⟨a, rfl, ⟨_, hat⟩, ek_var rfl ⟨n, L.length, _, rfl, getB_top, by rw [List.length_map]; exact hn, by rw [List.length_map]; omega, ?_⟩⟩)
      repeat (refine sx_skip ?h1 ?_; case h1 => (walk_at "v"; first | exact decide_eq_false (by omega) | exact br_p (fun z => absurd z (by omega)) (fun _ => rfl) | rfl))
      refine sx_frz (i := 2) (j := 9) rfl rfl (resB_outer (O' := ((bs.eraseIdx n).map boxL)) fun R hR => ?_) ?_
      · rw [← map_eraseIdx', ← h3, List.map_map]
        exact resL_erase (resB_all hR)
      walk_at "h"
      have := List.length_eraseIdx (l := bs) (i := n)
      rw [if_pos (by omega)] at this
      exact h _ (by omega) (by omega) fun b hb => ok b (List.mem_of_mem_eraseIdx hb)
    · refine sx_next ?_
      repeat (refine sx_skip ?h1 ?_; case h1 => (walk_at "v"; first | exact decide_eq_false (by omega) | exact br_p (fun z => absurd z (by omega)) (fun _ => rfl) | rfl))
      refine sx_frz (i := 2) (j := 9) rfl rfl (.adr hat (resB_all hcb)) ?_
      walk_at "h"
      exact fin0
  refine sx_skip ?_ ?_
  · walk_at "v"
    exact br_p (fun z => absurd z (by omega)) (fun _ => rfl)
  refine sx_frz (i := 2) (j := 9) rfl rfl (.adr hat (resB_all hcb)) ?_
  walk_at "h"
  refine br_p (fun z => ?_) (fun z => absurd (show m = 4 by omega) z)
  walk_at "h"
  rw [cutD_tail, cutD_head]
  refine ⟨Nat.le_of_lt (small1000 (by simp; omega)), ?_⟩
  walk_at "h"
  have e4 : (L.map fun p => boxL p.2) = bs.map boxL := by rw [← h3, List.map_map]; rfl
  rw [e4, ← List.map_drop, ← List.map_take, ← List.map_append]
  refine h _ (by simp; omega) (by simp; omega) fun b hb => ?_
  rcases List.mem_append.mp hb with hb | hb
  · exact ok b (List.mem_of_mem_drop hb)
  · exact ok b (List.mem_of_mem_take hb)

end

end K
end

section
set_option maxRecDepth 100000
set_option maxHeartbeats 4000000
namespace K
open PySem PySem.Spec PyProof.Rows L2 G

def SpLaw : Sp := fun vs H Q _ => ∃ (a : Addr) (o : Obj) (xs : List Int), vs = [.ref a] ∧ H a = some (.frz o (.lst (xs.map V.int))) ∧ xs.length ≤ 63 ∧ ∀ H', Q (.bl true) H'
theorem fn_mkR {P : Program} {w : World} {K : PySem.W.Frag} {mg : Str → Option Value} {base : Heap} {k : Nat} {x : Str} {st : Stmt} {N ps : List Str} {sp : Sp} {fd : FuncData} (Fd : FnP K x st fd) (sc : FnScope N ps (defScope st))
    (len : ∀ vs H Q E, sp vs H Q E → vs.length = ps.length)
    (hb : ∀ (f : Addr) (cdv : Value) (A : Around) (outer : List Env) (s : Shared) (H : Hp) (E : XK), Room k (A.deeper (envOfC x (defScope st) s.heap.objs.size f cdv)) →
      ∃ t, PSs (cxOf (L2.CX P w) P w K mg base N x (defScope st) f cdv A outer s H E).nox (defBody st) t ∧ ∀ vs H Q E, sp vs H Q E → t { nx := fun _ H' => Q .non H', rt := Q } (L2.start N vs) H) : FnOk P w K mg base (L2.CX P w) (k + 1) (He.ga K x) fd ps sp :=
  Fd.ok sc len fun cdv A outer s H vs Q E hr hsp => by
    obtain ⟨t, h1, h2⟩ := hb _ cdv A outer s H E hr
    exact ⟨t, h1.nox, h2 vs H Q E hsp⟩
theorem ints_rep {C : Cl} {P : Option Addr} {W : Hp} : ∀ xs : List Int, RepL C P W (xs.map V.int) (xs.map D.int)
  | [] => .nil
  | x :: xs => .cons (.int x) (ints_rep xs)
theorem rep_ints {C : Cl} {P : Option Addr} {W : Hp} : ∀ {xs : List Int} {vs : List V}, RepL C P W vs (xs.map D.int) → vs = xs.map V.int
  | [], _, h => by cases h; rfl
  | x :: xs, _, h => by
    cases h with
    | cons r rr => cases r; rw [rep_ints rr]; rfl
def pool0 (ys : List Int) (mix : Int) : D := .lst [.lst (ys.map .int), .int 0, .int 0, .int mix]
theorem LenOk_eq {σ : L2.St} {Γ : List Sl} (h : LenOk σ Γ) (hn : ∀ s ∈ Γ, s.isR = false) : σ.length = Γ.length := by
  refine Nat.le_antisymm h.le ?_
  rcases Nat.lt_or_ge σ.length Γ.length with z | z
  · have e : Γ[σ.length]? = some Γ[σ.length] := by simp [z]
    have := (h.c σ.length _ e).mp (Nat.le_refl _)
    rw [hn _ (List.getElem_mem z)] at this; cases this
  · exact z
abbrev nn0 : Hp := fun _ => none
/-- the base of the law's own walk: nothing is kept -/
def B0 (b : Addr) : Bs := ⟨some b, noS, fun _ => none, fun _ => none, fun _ => none⟩
theorem law_start {K : PySem.W.Frag} {N : List Str} {Γ1 : List Sl} {te : TE} {u : TS} {a : Addr} {o : Obj} {xs ys : List Int} {H : Hp} {Q : VK} (ha : H a = some (.frz o (.lst (xs.map V.int)))) (hQ : ∀ H', Q (.bl true) H') (hN : 1 < N.length)
    (hy : ys.length ≤ 63) (hΓ : Γ1 = .no :: .d .pool :: List.replicate (N.length - 2) .no)
    (h1 : ∀ B, EK (CL K nn0) B (G0 N [.raw (xs.map .int)]) te fun d => ∃ n : Int, 0 ≤ n ∧ n < 2 ^ 31 ∧ d = pool0 ys n)
    (h2 : ∀ b, SX (CL K nn0) (B0 b) Γ1 u (fun _ => False) (fun _ d => d = .bl true) (fun _ => False) (fun _ => False)) : tSeq (tAsg te (gName 1)) u { nx := fun _ H' => Q .non H', rt := Q } (L2.start N [.ref a]) H := by
  have hw : Same (fun x => if x = a then H x else none) H := fun x o z => by
    by_cases hx : x = a
    · subst hx; simpa using z
    · simp [hx] at z
  have e0 := env_start (C := CL K nn0) (P := none) (N := N) hw ⟨fun _ z => (nomatch z), fun _ _ z => (nomatch z)⟩ (RepL.cons (Rep.raw (a := a) (vs := xs.map V.int) (by show (if a = a then H a else none) = _; rw [if_pos rfl]; exact ha) (ints_rep xs)) .nil)
  refine h1 _ _ H _ e0 _ fun d v W1 H1 s1 r1 hd => ?_
  obtain ⟨n, n0, n1, rfl⟩ := hd
  have e1 := e0.step s1
  cases r1 with
  | @lst b fs _ hb hr =>
    cases hr with
    | cons q1 hr => cases hr with
      | cons q2 hr => cases hr with
        | cons q3 hr => cases hr with
          | cons q4 hr =>
            cases hr with
            | nil =>
              cases q2; cases q3; cases q4
              cases q1 with
              | @lst c vs _ hc rl =>
                have ev := rep_ints rl
                subst ev
                have hHb := s1.wh _ _ hb
                have hHc := s1.wh _ _ hc
                have ncb : b ≠ c := fun z => by
                  rw [z, hHc] at hHb
                  injection hHb with q; injection q with q
                  cases ys with
                  | nil => cases q
                  | cons y t => injection q with q _; cases q
                have hG0 : ∀ s ∈ (G0 N [D.raw (xs.map .int)]), s.isR = false := fun s hs => by
                  unfold G0 at hs
                  simp at hs
                  rcases hs with rfl | ⟨_, rfl⟩ <;> rfl
                have hl1 := LenOk_eq e1.len hG0
                have hG1 : ∀ s ∈ Γ1, s = .no ∨ s = .d .pool := fun s hs => by
                  subst hΓ
                  rcases List.mem_cons.mp hs with rfl | hs
                  · exact .inl rfl
                  rcases List.mem_cons.mp hs with rfl | hs
                  · exact .inr rfl
                  · exact .inl (List.eq_of_mem_replicate hs)
                have noO : ∀ (i : Nat) (s : Sl), Γ1[i]? = some s → s.isO = true → False := fun i s h1 h2 => by
                  rcases hG1 s (List.mem_of_getElem? h1) with rfl | rfl <;> cases h2
                have noR : ∀ (i : Nat) (cs : List (Addr × List D)), Γ1[i]? = some (.reg cs) → False := fun i cs h1 => by
                  rcases hG1 _ (List.mem_of_getElem? h1) with z | z <;> cases z
                have hlen : ((L2.start N [V.ref a]).set 1 (some (.ref b))).length = Γ1.length := by
                  rw [List.length_set, hl1, hΓ]
                  simp [G0]; omega
                show u _ ((L2.start N [V.ref a]).set 1 (some (.ref b))) H1
                refine h2 b (fun x => if x = c then H1 x else none) H1 _ ⟨⟨fun _ _ z => (nomatch z), fun x o z => ?_, fun _ _ z => (nomatch z), fun _ _ z => (nomatch z), fun _ _ z => (nomatch z), fun y _ z => ?_⟩, fun _ _ z => (nomatch z), ⟨fun y hy => ?_, fun _ _ z => (nomatch z)⟩, fun _ _ z => (nomatch z), ⟨by omega, fun i s h1 => ?_⟩, fun _ => 0, ⟨fun i j s t h1 _ h2 => (noO i s h1 h2).elim, fun i s h1 h2 => (noO i s h1 h2).elim, fun i s hi => ?_, fun i j cs ds h1 => (noR i cs h1).elim, fun i cs h1 => (noR i cs h1).elim, fun i cs p h1 => (noR i cs h1).elim, fun i cs p j s h1 => (noR i cs h1).elim⟩⟩ _ ⟨fun _ _ _ _ _ z => z.elim, fun Γ d v W' H' _ _ r z => ?_, fun _ _ _ _ _ z => z.elim, fun _ _ _ _ _ z => z.elim⟩
                · by_cases hx : x = c
                  · subst hx; simpa using z
                  · simp [hx] at z
                · obtain ⟨_, z⟩ := (CL K nn0).pks z; cases z
                · cases hy
                  exact ⟨by simp [ncb], c, ys, 0, 0, n, hHb, by simpa using hHc, Nat.zero_le _, ‹ys.length ≤ 63›, Int.le_refl _, n0, n1⟩
                · have hi := (List.getElem?_eq_some_iff.mp h1).1
                  constructor
                  · intro z; omega
                  · intro z
                    rcases hG1 s (List.mem_of_getElem? h1) with rfl | rfl <;> cases z
                · rw [hΓ] at hi
                  match i, hi with
                  | 0, hi => cases hi; trivial
                  | 1, hi =>
                    cases hi
                    refine ⟨.ref b, ?_, .pool rfl⟩
                    rw [List.getD_eq_getElem?_getD, List.getElem?_set_self]
                    · rfl
                    · rw [hl1]; simp [G0]; omega
                  | i + 2, hi =>
                    have := List.eq_of_mem_replicate (List.mem_of_getElem? (show (List.replicate (N.length - 2) Sl.no)[i]? = some s from hi))
                    subst this; trivial
                · subst z
                  cases r
                  exact hQ _

end K
end

section
set_option maxRecDepth 100000
set_option maxHeartbeats 4000000
namespace K
open PySem PySem.Spec PyProof.Rows L2 G

theorem rows_res {cs rest : List (Addr × List D)} {ds : List D} {bs : List BxT} (h : All2 (RowC rest) ds bs) (hm : ∀ q ∈ rest, q ∈ cs) : ∃ ds', ResL cs ds ds' ∧ All2 GvR ds' bs := by
  have idL : ∀ l : List D, ResL cs l l := fun l => by
    induction l with
    | nil => exact .nil
    | cons x t ih => exact .cons .id ih
  induction h with
  | nil => exact ⟨[], .nil, .nil⟩
  | @cons d b ds bs hr ht ih =>
    obtain ⟨ds', h1, h2⟩ := ih
    rcases hr with ⟨hg, _⟩ | ⟨r, p, c, cl, rfl, g1, g2, g3, g4, g5⟩
    · exact ⟨d :: ds', .cons .id h1, .cons hg h2⟩
    · exact ⟨.mls [c, .mls (cl.map Cell.d)] :: ds', .cons (.adr (hm _ g1) (.cons .id (.cons (.adr (hm _ g2) (idL _)) .nil))) h1, .cons ⟨.m, .m, c, cl, rfl, g3, g4, fun e he => (g5 e he).1⟩ h2⟩
theorem noM_boxes (bs : List BxT) : NoM (boxesD (bs.map boxR)) := .obj fun x hx => by
  have hx : x ∈ [D.tup (bs.map boxR)] := hx
  cases List.mem_singleton.mp hx
  refine .tup fun y hy => ?_
  obtain ⟨b, _, rfl⟩ := List.mem_map.mp hy
  refine .tup fun z hz => ?_
  simp only [List.mem_cons, List.not_mem_nil, or_false] at hz
  rcases hz with rfl | rfl
  · exact .frac _
  · refine .tup fun w hw => ?_
    obtain ⟨p, _, rfl⟩ := List.mem_map.mp hw
    refine .tup fun v hv => ?_
    simp only [List.mem_cons, List.not_mem_nil, or_false] at hv
    rcases hv with rfl | rfl
    · exact .int _
    · exact .frac _
def plD (b : BxT) : D := .tup [lowD b.1, .tup (b.2.map pairL)]
theorem eqv_pairs : ∀ ps qs : List (Int × Rat), PyData.eqvAll (pyL (ps.map pairL)) (pyL (qs.map pairL)) = decide (ps = qs)
  | [], [] => rfl
  | [], _ :: _ => rfl
  | _ :: _, [] => rfl
  | p :: ps, q :: qs => by
    have h1 := eqv_pairs ps qs
    have h2 := eqv_low p.2 q.2
    have h3 : PyData.eqv (pyD (pairL p)) (pyD (pairL q)) = decide (p = q) := by
      unfold pairL
      simp only [pyD, pyL, PyData.eqv, PyData.eqvAll, Bool.and_true] at h2 ⊢
      rw [h2]
      obtain ⟨a, b⟩ := p
      obtain ⟨c, d⟩ := q
      rw [Bool.eq_iff_iff]
      simp
    rw [List.map_cons, List.map_cons]
    show (PyData.eqv (pyD (pairL p)) (pyD (pairL q)) && PyData.eqvAll (pyL (ps.map pairL)) (pyL (qs.map pairL))) = _
    rw [h3, h1, Bool.eq_iff_iff]
    simp
theorem eqv_plain : ∀ bs cs : List BxT, PyData.eqvAll (pyL (bs.map plD)) (pyL (cs.map plD)) = decide (bs = cs)
  | [], [] => rfl
  | [], _ :: _ => rfl
  | _ :: _, [] => rfl
  | b :: bs, c :: cs => by
    have h1 := eqv_plain bs cs
    have h2 := eqv_low b.1 c.1
    have h4 := eqv_pairs b.2 c.2
    have h3 : PyData.eqv (pyD (plD b)) (pyD (plD c)) = decide (b = c) := by
      unfold plD
      show (PyData.eqv (pyD (lowD b.1)) (pyD (lowD c.1)) && (PyData.eqvAll (pyL (b.2.map pairL)) (pyL (c.2.map pairL)) && true)) = _
      rw [h2, h4]
      obtain ⟨a, b⟩ := b
      obtain ⟨c, d⟩ := c
      rw [Bool.eq_iff_iff]
      simp
    rw [List.map_cons, List.map_cons]
    show (PyData.eqv (pyD (plD b)) (pyD (plD c)) && PyData.eqvAll (pyL (bs.map plD)) (pyL (cs.map plD))) = _
    rw [h3, h1, Bool.eq_iff_iff]
    simp
theorem pd_plain (bs : List BxT) : PD 5 (.lst (bs.map plD)) := .lst fun x hx => by
  obtain ⟨b, _, rfl⟩ := List.mem_map.mp hx
  refine .tup fun y hy => ?_
  simp only [List.mem_cons, List.not_mem_nil, or_false] at hy
  rcases hy with rfl | rfl
  · exact pd_low
  · refine .tup fun z hz => ?_
    obtain ⟨p, _, rfl⟩ := List.mem_map.mp hz
    refine .tup fun w hw => ?_
    simp only [List.mem_cons, List.not_mem_nil, or_false] at hw
    rcases hw with rfl | rfl
    · exact .int _
    · exact pd_low
theorem like_bl {b c : Bool} (h : b = c) : likeB (.bl b) (.bl c) = true := by
  subst h
  show decide (b = b) = true
  simp
theorem other_ok {rs : List D} : ∀ x ∈ [D.non, D.int 0, D.tup rs, D.str "boxes", D.bl true], OtD 0 x ∧ ∀ fl, x ≠ .obj 0 fl := fun x hx => by
  simp only [List.mem_cons, List.not_mem_nil, or_false] at hx
  rcases hx with rfl | rfl | rfl | rfl | rfl
  · exact ⟨.non, fun _ z => by cases z⟩
  · exact ⟨.int _, fun _ z => by cases z⟩
  · exact ⟨.tup _, fun _ z => by cases z⟩
  · exact ⟨.str _, fun _ z => by cases z⟩
  · exact ⟨.bl _, fun _ z => by cases z⟩
section
local macro_rules | `(tactic| walk_at "e") => `(tactic| first
  | ((with_reducible refine' ek_var ?h1 ?_); (case h1 => exact rfl))
  | (with_reducible refine ek_int ?_)
  | (with_reducible refine ek_bl ?_)
  | (with_reducible refine ek_non ?_)
  | (with_reducible refine ek_str ?_)
  | (with_reducible refine ek_ty ?_)
  | (with_reducible refine ek_cls ?_)
  | (with_reducible refine ek_ix ?_)
  | (with_reducible refine ek_un ?_)
  | (with_reducible refine ek_tup ?_)
  | (with_reducible refine k_call ?_)
  | (with_reducible refine ek_len ?_)
  | (with_reducible refine ek_tuple ?_)
  | (with_reducible refine ek_sum ?_)
  | (with_reducible refine ek_all ?_)
  | (with_reducible refine ek_any ?_)
  | (with_reducible refine ek_chain ?_)
  | (with_reducible refine ek_andV ?_)
  | (with_reducible refine ek_orV ?_)
  | (with_reducible refine ek_notV ?_)
  | (with_reducible refine ek_if ?_)
  | (with_reducible refine ek_ef (ef_lst ?_))
  | (with_reducible refine ek_ef (ef_list ?_))
  | (with_reducible refine ek_ef (ef_cat ?_))
  | (with_reducible refine ek_ef (ef_rep ?_))
  | (with_reducible refine ek_ef (ef_slice ?_))
  | (with_reducible refine ek_ef (ef_rev ?_))
  | (with_reducible refine ek_ef (ef_lstRev ?_))
  | (with_reducible refine ek_ef (ef_map ?_))
  | (with_reducible refine ek_ef (ef_filt ?_))
  | (with_reducible refine ef_lst ?_)
  | (with_reducible refine ef_list ?_)
  | (with_reducible refine ef_cat ?_)
  | (with_reducible refine ef_rep ?_)
  | (with_reducible refine ef_slice ?_)
  | (with_reducible refine ef_rev ?_)
  | (with_reducible refine ef_lstRev ?_)
  | (with_reducible refine ef_map ?_)
  | (with_reducible refine ef_filt ?_)
  | ((with_reducible refine' el_var ?h1 ?_); (case h1 => exact rfl))
  | ((with_reducible refine' el_own ?h1 ?_); (case h1 => exact rfl))
  | (with_reducible refine el_ef (ef_lst ?_))
  | (with_reducible refine el_ef (ef_list ?_))
  | (with_reducible refine el_ef (ef_cat ?_))
  | (with_reducible refine el_ef (ef_rep ?_))
  | (with_reducible refine el_ef (ef_slice ?_))
  | (with_reducible refine el_ef (ef_rev ?_))
  | (with_reducible refine el_ef (ef_lstRev ?_))
  | (with_reducible refine el_ef (ef_map ?_))
  | (with_reducible refine el_ef (ef_filt ?_))
  | (with_reducible refine ek_op ?_)
  | (with_reducible refine ek_cb ?_)
  | (with_reducible refine el_ek ?_)
  | (with_reducible refine tk_test ?_)
  | (with_reducible refine tk_B ?_)
  | (with_reducible refine tk_and ?_)
  | (with_reducible refine tk_or ?_)
  | (with_reducible refine tk_not ?_)
  | (with_reducible refine tk_yes ?_)
  | (with_reducible refine ak_nil ?_)
  | (with_reducible refine ak_cons ?_)
  | (with_reducible refine k_num (‹Tx _ _›) ?_)
  | (with_reducible refine k_den (‹Tx _ _›) ?_)
  | (with_reducible refine k_mk2 ?_)
  | (with_reducible refine k_mk1 ?_)
  | (with_reducible refine k_bel ?_)
  | (with_reducible refine k_own ?_)
  | (with_reducible refine rk_U2 (k_own ?_))
  | (with_reducible refine rk_mul (Sz.mul (by assumption) (by assumption)) ?_)
  | (with_reducible refine rk_U1 (rk_mul (Sz.mul (by assumption) (by assumption)) ?_))
  | (with_reducible refine ek_dget ?_)
  | (with_reducible refine uk_neg ?_)
  | (with_reducible refine ek_disp ?_)
  | (with_reducible refine pk_cons ?_)
  | (with_reducible refine pk_nil ?_)
  | (with_reducible refine rk_mod (by assumption) ?_)
  | (with_reducible refine rk_add ?_)
  | (with_reducible refine rk_sub ?_)
  | (with_reducible refine rk_lt ?_)
  | (with_reducible refine rk_le ?_)
  | (with_reducible refine rk_gt ?_)
  | (with_reducible refine rk_ge ?_)
  | (with_reducible refine rk_eqI ?_)
  | (with_reducible refine rk_neI ?_)
  | (with_reducible refine rk_isN ?_)
  | (with_reducible refine rk_notN ?_)
  | (with_reducible refine rk_U1 (rk_add ?_))
  | (with_reducible refine rk_U1 (rk_sub ?_))
  | (with_reducible refine ck_gcd ?_)
  | (with_reducible refine ck_abs ?_)
  | (with_reducible refine ck_int ?_)
  | (with_reducible refine ik_seq ?_)
  | (with_reducible refine ik_range1 ?_)
  | (with_reducible refine ik_range2 ?_)
  | (with_reducible refine ik_enumA ?_)
  | (with_reducible refine ik_zip ?_)
  | (with_reducible refine ik_rev ?_)
  | ((with_reducible refine' cg_name ?_ ?h1 ?h2); (case h1 => exact rfl); (case h2 => decide))
  | ((with_reducible refine' cg_anyT ?h1 ?_); (case h1 => exact rfl))
  | ((with_reducible refine' cg_anyL ?h1 ?_); (case h1 => exact rfl))
  | ((with_reducible refine' cg_anyK ?h1 ?_); (case h1 => exact rfl))
  | ((with_reducible refine' cgs_cons ?_ ?h1 ?h2); (case h1 => exact rfl); (case h2 => decide))
  | (with_reducible refine cgs_nil ?_)
  | ((with_reducible refine' gk_name ?_ ?h1); (case h1 => exact rfl))
  | ((with_reducible refine' gk_anyT ?h1 ?_); (case h1 => exact rfl))
  | ((with_reducible refine' gk_anyL ?h1 ?_); (case h1 => exact rfl))
  | ((with_reducible refine' gk_anyK ?h1 ?_); (case h1 => exact rfl))
  | ((with_reducible refine' gks_cons ?_ ?h1); (case h1 => exact rfl))
  | ((with_reducible refine' gks_consA (n := 0) ?_ ?h1 ?h2); (case h1 => exact rfl); (case h2 => exact rfl))
  | ((with_reducible refine' gks_consB ?h0 ?_ ?h1 ?h2); (case h0 => exact rfl); (case h1 => exact rfl); (case h2 => exact rfl))
  | (with_reducible refine gks_nil ?_)
  | (with_reducible refine ok_none ?_)
  | (with_reducible refine ok_some ?_))
local macro_rules | `(tactic| walk_at "s") => `(tactic| first
  | (with_reducible refine sx_guard ?_ ?_)
  | (with_reducible refine sx_seq ?_)
  | ((with_reducible refine' sx_retO ?h1 ?_); (case h1 => exact rfl))
  | (with_reducible refine sx_ret ?_)
  | (with_reducible refine sx_if ?_)
  | (with_reducible refine sx_next ?_)
  | (with_reducible refine sx_break ?_)
  | (with_reducible refine sx_cont ?_)
  | ((with_reducible refine' sx_append ?h1 ?_); (case h1 => exact rfl))
  | ((with_reducible refine' sx_setI ?h1 ?_); (case h1 => exact rfl))
  | ((with_reducible refine' sx_set ?h1 ?_); (case h1 => exact rfl))
  | (with_reducible refine sx_asg ?_)
  | ((with_reducible refine' sx_par ?h1 ?h2 ?_); (case h1 => exact rfl); (case h2 => exact rfl))
  | (with_reducible refine sx_drop ?_)
  | ((with_reducible refine' k_fldS (‹Tx _ _›) ?h1 ?h2 ?h3 ?_); (case h1 => exact rfl); (case h2 => decide); (case h3 => exact rfl)))
/-! plain existentials that the rules leave -/
local macro_rules | `(tactic| walk_at "x") => `(tactic| first
  | (with_reducible refine x_bl ?_)
  | (with_reducible refine x_int ?_)
  | (with_reducible refine x_frac ?_)
  | (with_reducible refine x_lst ?_)
  | (with_reducible refine x_tup ?_)
  | (with_reducible refine x_kd ?_)
  | (with_reducible refine x_oneL ?_)
  | (with_reducible refine x_oneT ?_)
  | (with_reducible refine x_one ?_)
  | ((with_reducible refine' x_at ?h1 ?_); (case h1 => exact rfl))
  | ((with_reducible refine' x_dic ?h1 ?_); (case h1 => exact rfl))
  | (with_reducible refine (⟨rfl, ?_⟩ : Kd.l = Kd.l ∧ _))
  | ((with_reducible refine' x_len ?h1 ?_); (case h1 => exact rfl))
  | ((with_reducible refine' br_t ?h1 ?_); (case h1 => exact rfl))
  | ((with_reducible refine' br_f ?h1 ?_); (case h1 => exact rfl)))
local macro_rules | `(tactic| walk_at "f") => `(tactic| first
  | ((with_reducible refine' sx_forW ?h1 ?_); (case h1 => exact rfl))
  | (with_reducible refine sx_forGW ?_))
local macro_rules | `(tactic| walk_at "g") => `(tactic| repeat (first | walk_at "s" | walk_at "f" | walk_at "e" | walk_at "x"))
local macro_rules | `(tactic| walk_at "v") => `(tactic| repeat (first | walk_at "e" | walk_at "x"))
local macro_rules | `(tactic| walk_at "h") => `(tactic| repeat (first | walk_at "s" | walk_at "e" | walk_at "x"))
variable {P : Program} {w : World} {K : PySem.W.Frag} {mg : Str → Option Value} {base : Heap}

theorem ok_law (T : Tx K mg) (c__law_pool : Cal P w K mg base 1 "_law_pool" ["script"] (SpFam (CL K) S__law_pool)) (c__law_boxes : Cal P w K mg base 4 "_law_boxes" ["pool", "many", "most"] (SpFam (CL K) S__law_boxes)) (c__law_take : Cal P w K mg base 1 "_law_take" ["pool", "many"] (SpFam (CL K) S__law_take)) (c__law_rows_N : Cal P w K mg base 5 "_law_rows" ["pool", "boxes"] (SpFamN (CL K) S__law_rows_N)) (m_Boxes1 : CalM P w K mg base 9 "Boxes" [] (SpFamIX K (CL K) (He.ga K "Boxes") S_BoxesD_initD)) (c__law_unchanged : Cal P w K mg base 1 "_law_unchanged" ["rows", "boxes"] (SpFam (CL K) S__law_unchanged)) (c__law_spoil : Cal P w K mg base 1 "_law_spoil" ["rows"] (SpSpoil (CL K) SpoilS)) (c__law_rows_right : Cal P w K mg base 3 "_law_rows_right" ["made", "boxes"] (SpFam (CL K) S__law_rows_right)) (c__law_wrong_row : Cal P w K mg base 12 "_law_wrong_row" ["pool", "boxes"] (SpFam (CL K) S__law_wrong_row)) (c__law_wrong_whole : Cal P w K mg base 12 "_law_wrong_whole" ["pool", "boxes"] (SpFam (CL K) S__law_wrong_whole)) (c__law_bent : Cal P w K mg base 2 "_law_bent" ["pool", "boxes"] (SpFam (CL K) S__law_bent)) (c__law_plain : Cal P w K mg base 1 "_law_plain" ["boxes"] (SpFam (CL K) S__law_plain)) (c__law_rows : Cal P w K mg base 5 "_law_rows" ["pool", "boxes"] (SpFam (CL K) S__law_rows)) (c__law_like_0 : Cal P w K mg base 1 "_law_like" ["actual", "due"] (SpFam (CL K) S__law_like_0)) (e_Boxes : CalS P w K mg base 6 (He.ga K "Boxes") "__eq__" (SpFam (CL K) S_BoxesD_eqD)) {fd : FuncData} (FD : FnP K "law" s_law fd) : FnOk P w K mg base (L2.CX P w) 13 (He.ga K "law") fd ["script"] SpLaw := by
  refine fn_mkR (N := ["script", "pool", "boxes", "rows", "made", "turn", "twin", "thing", "bent", "same", "other"]) FD sc_law (by rintro vs H Q E ⟨a, o, xs, rfl, _⟩; rfl) (fun f cdv A outer s H E hr => ⟨_, (pss_cons (ps_set (i := 1) sc_law.nd rfl (by first | exact Or.inl rfl | exact Or.inr rfl) (pe_calC c__law_pool hr (by decide) (by rfl) (pa_cons (pv 0) pa_nil))) (pss_cons (ps_set (i := 2) sc_law.nd rfl (by first | exact Or.inl rfl | exact Or.inr rfl) (pe_calC c__law_boxes hr (by decide) (by rfl) (pa_cons (pv 1) (pa_cons (pe_op op_addI pe_int (pe_calC c__law_take hr (by decide) (by rfl) (pa_cons (pv 1) (pa_cons pe_int pa_nil)))) (pa_cons pe_int pa_nil))))) (pss_cons (ps_set (i := 3) sc_law.nd rfl (by first | exact Or.inl rfl | exact Or.inr rfl) (pe_calC c__law_rows_N hr (by decide) (by rfl) (pa_cons (pv 1) (pa_cons (pv 2) pa_nil)))) (pss_cons (ps_set (i := 4) sc_law.nd rfl (by first | exact Or.inl rfl | exact Or.inr rfl) (pe_mkX K rfl m_Boxes1 hr (by decide) passL (by rfl) (pa_cons (pv 3) pa_nil))) (pss_cons (ps_if (pt_not (pt_val (pe_calC c__law_unchanged hr (by decide) (by rfl) (pa_cons (pv 3) (pa_cons (pv 2) pa_nil))))) (pss_one (ps_ret pe_bl)) pss_nil) (pss_cons (ps_expr (pe_calC c__law_spoil hr (by decide) (by rfl) (pa_cons (pv 3) pa_nil))) (pss_cons (ps_if (pt_not (pt_val (pe_calC c__law_rows_right hr (by decide) (by rfl) (pa_cons (pv 4) (pa_cons (pv 2) pa_nil))))) (pss_one (ps_ret pe_bl)) pss_nil) (pss_cons (ps_for PassesOwn.never rfl (pi_range1 (by rfl) T.b_range (pa_cons pe_int pa_nil)) (pg_name (i := 5) sc_law.nd rfl (by first | exact Or.inl rfl | exact Or.inr rfl)) (pss_cons (ps_if (PW.pt (pw_or (pt_not (pt_val (pe_calC c__law_wrong_row hr (by decide) (by rfl) (pa_cons (pv 1) (pa_cons (pv 2) pa_nil))))) (pw_or1 (pt_not (pt_val (pe_calC c__law_wrong_whole hr (by decide) (by rfl) (pa_cons (pv 1) (pa_cons (pv 2) pa_nil)))))))) (pss_one (ps_ret pe_bl)) pss_nil) (pss_cons (ps_set (i := 8) sc_law.nd rfl (by first | exact Or.inl rfl | exact Or.inr rfl) (pe_calC c__law_bent hr (by decide) (by rfl) (pa_cons (pv 1) (pa_cons (pv 2) pa_nil)))) (pss_cons (ps_set (i := 9) sc_law.nd rfl (by first | exact Or.inl rfl | exact Or.inr rfl) (pe_cmpR (op_eqDK rfl hr) (pe_calC c__law_plain hr (by decide) (by rfl) (pa_cons (pv 8) pa_nil)) (pe_calC c__law_plain hr (by decide) (by rfl) (pa_cons (pv 2) pa_nil)) (nomark _))) (pss_cons (ps_set (i := 10) sc_law.nd rfl (by first | exact Or.inl rfl | exact Or.inr rfl) (pe_mkX K rfl m_Boxes1 hr (by decide) passL (by rfl) (pa_cons (pe_callTy (cr_tupK K rfl) (by rfl) T.b_tuple (by decide +kernel) (pa_cons (pe_calC c__law_rows hr (by decide) (by rfl) (pa_cons (pv 1) (pa_cons (pv 8) pa_nil))) pa_nil)) pa_nil))) (pss_one (ps_if (PW.pt (pw_or (pt_not (pt_val (pe_calC c__law_like_0 hr (by decide) (by rfl) (pa_cons (pe_cmpR (e_Boxes.eqO hr (by decide)) (pv 4) (pv 10) (nomark _)) (pa_cons (pv 9) pa_nil))))) (pw_or1 (pt_not (pt_val (pe_calC c__law_rows_right hr (by decide) (by rfl) (pa_cons (pv 10) (pa_cons (pv 8) pa_nil)))))))) (pss_one (ps_ret pe_bl)) pss_nil))))))) (pss_cons (ps_set (i := 6) sc_law.nd rfl (by first | exact Or.inl rfl | exact Or.inr rfl) (pe_mkX K rfl m_Boxes1 hr (by decide) passL (by rfl) (pa_cons (pe_calC c__law_rows hr (by decide) (by rfl) (pa_cons (pv 1) (pa_cons (pv 2) pa_nil))) pa_nil))) (pss_cons (ps_if (PW.pt (pw_or (pt_not (pt_val (pe_calC c__law_like_0 hr (by decide) (by rfl) (pa_cons (pe_cmpR (e_Boxes.eqO hr (by decide)) (pv 4) (pv 6) (nomark _)) (pa_cons pe_bl pa_nil))))) (pw_or1 (pt_not (pt_val (pe_calC c__law_like_0 hr (by decide) (by rfl) (pa_cons (pe_cmpR (e_Boxes.eqO hr (by decide)) (pv 6) (pv 4) (nomark _)) (pa_cons pe_bl pa_nil)))))))) (pss_one (ps_ret pe_bl)) pss_nil) (pss_cons (ps_for PassesOwn.never rfl (pi_seqK K rfl (pe_tup (pa_cons pe_non (pa_cons pe_int (pa_cons (pe_fldK K rfl (pv 4) rfl) (pa_cons pe_str (pa_cons pe_bl pa_nil))))))) (pg_name (i := 7) sc_law.nd rfl (by first | exact Or.inl rfl | exact Or.inr rfl)) (pss_one (ps_if (pt_not (pt_val (pe_calC c__law_like_0 hr (by decide) (by rfl) (pa_cons (pe_cmpR (e_Boxes.eqO hr (by decide)) (pv 4) (pv 7) (nomark _)) (pa_cons pe_bl pa_nil))))) (pss_one (ps_ret pe_bl)) pss_nil))) (pss_one (ps_ret (pe_calC c__law_rows_right hr (by decide) (by rfl) (pa_cons (pv 4) (pa_cons (pv 2) pa_nil)))))))))))))))), ?_⟩)
  rintro vs H Q E ⟨a, o, xs, rfl, ha, hl, hQ⟩
  refine law_start (K := K) (ys := xs) (Γ1 := .no :: .d .pool :: List.replicate 9 .no) ha hQ (by decide) hl rfl (fun B => ?_) (fun b => ?_)
  · walk_at "h"
    exact ⟨xs, rfl, hl, fun mix m0 m1 => ⟨mix, m0, m1, rfl⟩⟩
  refine sx_reg rfl ?_
  walk_at "s"
  walk_at "s"
  walk_at "v"
  refine ⟨4, rfl, by decide, by decide, fun m m0 m1 => ?_⟩
  walk_at "v"
  obtain ⟨k, hk⟩ : ∃ k : Nat, 1 + m = (k : Int) := ⟨(1 + m).toNat, by omega⟩
  rw [hk]
  refine ⟨k, 4, rfl, by omega, by omega, by omega, fun bs hbl ok => ?_⟩
  have hb1 : 1 ≤ bs.length := by omega
  have hb4 : bs.length ≤ 4 := by omega
  have hp4 : ∀ b ∈ bs, b.2.length ≤ 4 := fun b hb => (ok b hb).p.l4
  refine sx_seq ?_
  refine sx_setN (j := 11) (cs := []) rfl rfl (en_call ?_)
  walk_at "v"
  refine ⟨bs, rfl, by omega, ok, fun top ds rest hds => ?_⟩
  have hdl := hds.length
  obtain ⟨ds', r1, r2⟩ := rows_res (cs := (top, ds) :: rest) hds fun q hq => List.mem_cons_of_mem _ hq
  have hdl' := r2.length
  obtain ⟨g1, g2, g3⟩ := gvs_ok r2 ok
  show SX (CL K nn0) (B0 b) [.no, .d .pool, .d (.lst (bs.map boxL)), .d (.adr top), .no, .no, .no, .no, .no, .no, .no, .reg ((top, ds) :: rest)] _ _ _ _ _
  refine sx_seq ?_
  refine sx_set rfl ?_
  refine ek_mkOXM (fam K) (j := 11) rfl (c := 0) (fun _ => rfl) (KX := fun _ _ => False) xo_never ?_
  refine ak_cons (ek_var rfl (ak_nil ⟨[.mls ds'], .cons (.adr List.mem_cons_self r1) .nil, ?_⟩))
  refine ⟨_, rfl, .mls g3 (by omega), fun z => (by cases z), fun ys hys => ?_⟩
  cases hys
  refine ⟨fun z => absurd ⟨by omega, by omega⟩ z, fun _ _ => ⟨fun i x _ h2 h3 => (by rw [g1 x (List.mem_of_getElem? h2)] at h3; cases h3), fun _ => ?_⟩⟩
  rw [g2]
  refine ⟨noM_boxes bs, ?_⟩
  show SX (CL K nn0) (B0 b) [.no, .d .pool, .d (.lst (bs.map boxL)), .d (.adr top), .d (boxesD (bs.map boxR)), .no, .no, .no, .no, .no, .no, .reg ((top, ds) :: rest)] _ _ _ _ _
  refine sx_skip ?_ ?_
  · refine tk_not (tk_B (ek_callM (fam K) (j := 11) rfl ?_))
    refine ak_cons (ek_var rfl (ak_cons (ek_var rfl (ak_nil ⟨[.mls ds', .lst (bs.map boxL)], .cons (.adr List.mem_cons_self r1) (.cons .id .nil), ?_⟩))))
    exact ⟨.m, ds', bs, rfl, by omega, ok, r2, .bl _, true, rfl, rfl⟩
  refine sx_seq ?_
  refine sx_spoil (j := 11) rfl ?_
  walk_at "v"
  refine ⟨top, rfl, ⟨ds, rest, bs, rfl, hds, by omega, hp4⟩, ?_⟩
  show SX (CL K nn0) (B0 b) [.no, .d .pool, .d (.lst (bs.map boxL)), .d (.adr top), .d (boxesD (bs.map boxR)), .no, .no, .no, .no, .no, .no, .reg []] _ _ _ _ _
  refine sx_skip ?_ ?_
  · walk_at "v"
    refine ⟨bs, rfl, by omega, ok, ?_⟩
    walk_at "v"
    rfl
  refine sx_seq ?_
  refine sx_forGS ?_
  walk_at "v"
  refine ⟨(3 : Nat), rfl, by decide, by decide, ?_⟩
  refine ⟨Nat, List.range 3, _, Unit, fun _ _ => [.no, .d .pool, .d (.lst (bs.map boxL)), .d (.adr top), .d (boxesD (bs.map boxR)), .no, .no, .no, .no, .no, .no, .reg []], fun _ _ => True, rng1, ⟨(), trivial, Wk.refl⟩, fun B' j x s hx _ => ?_, fun Γ' s _ w => sx_weak w ?_⟩
  · walk_at "v"
    refine sx_skip ?_ ?_
    · walk_at "v"
      refine ⟨bs, rfl, hb1, hb4, ok, ?_⟩
      walk_at "v"
      refine ⟨bs, rfl, hb1, hb4, ok, ?_⟩
      walk_at "v"
      rfl
    walk_at "h"
    refine ⟨bs, rfl, hb1, hb4, ok, fun cs c1 c4 okc => ?_⟩
    walk_at "h"
    refine ⟨cs, rfl, by omega, fun b hb => by have := (okc b hb).p.l4; omega, ?_⟩
    walk_at "h"
    refine ⟨bs, rfl, by omega, fun b hb => by have := (ok b hb).p.l4; omega, ?_⟩
    refine rk_eqD (pd_plain cs) (pd_plain bs) ?_
    have eP : PyData.eqv (pyD (.lst (cs.map fun b : BxT => D.tup [lowD b.1, .tup (b.2.map pairL)]))) (pyD (.lst (bs.map fun b : BxT => D.tup [lowD b.1, .tup (b.2.map pairL)]))) = decide (cs = bs) := eqv_plain cs bs
    rw [eP]
    refine sx_seq (sx_set rfl (k_mkB xo_never ?_))
    walk_at "v"
    refine ⟨cs, rfl, by omega, okc, fun es hes => ?_⟩
    have hel := hes.length
    obtain ⟨k1, k2, k3⟩ := gvs_ok hes okc
    walk_at "v"
    refine ⟨_, rfl, .tup k3 (by omega), fun z => (by cases z), fun ys hys => ?_⟩
    cases hys
    refine ⟨fun z => absurd ⟨by omega, by omega⟩ z, fun _ _ => ⟨fun i x _ h2 h3 => (by rw [k1 x (List.mem_of_getElem? h2)] at h3; cases h3), fun _ => ?_⟩⟩
    rw [k2]
    refine sx_if ?_
    walk_at "v"
    refine rk_eqO (c := 0) rfl (.obj _) ⟨bs, _, rfl, .obj _, .inr ⟨cs, rfl, fun b hb => ⟨b, rfl, ?_⟩⟩⟩
    walk_at "v"
    refine ⟨_, _, rfl, .bl _, .inr ⟨_, rfl⟩, ?_⟩
    rw [like_bl (show b = decide (cs = bs) by rw [Bool.eq_iff_iff, decide_eq_true_iff]; exact hb.trans ⟨fun z => z.symm, fun z => z.symm⟩)]
    walk_at "v"
    refine ⟨cs, rfl, by omega, okc, ?_⟩
    walk_at "h"
    exact ⟨(), trivial, .same (.same (.same (.same (.same (.no (.same (.same (.no (.no (.no (.same .nil)))))))))))⟩
  refine sx_seq (sx_set rfl (k_mkB xo_never ?_))
  walk_at "v"
  refine ⟨bs, rfl, by omega, ok, fun es hes => ?_⟩
  have hel := hes.length
  obtain ⟨k1, k2, k3⟩ := gvs_ok hes ok
  walk_at "v"
  refine ⟨_, rfl, .lst k3 (by omega), fun z => (by cases z), fun ys hys => ?_⟩
  cases hys
  refine ⟨fun z => absurd ⟨by omega, by omega⟩ z, fun _ _ => ⟨fun i x _ h2 h3 => (by rw [k1 x (List.mem_of_getElem? h2)] at h3; cases h3), fun _ => ?_⟩⟩
  rw [k2]
  refine sx_skip ?_ ?_
  · walk_at "v"
    refine rk_eqO (c := 0) rfl (.obj _) ⟨bs, _, rfl, .obj _, .inr ⟨bs, rfl, fun b hb => ⟨b, rfl, ?_⟩⟩⟩
    walk_at "v"
    refine ⟨_, _, rfl, .bl _, .inr ⟨_, rfl⟩, ?_⟩
    rw [like_bl (show b = true from hb.mpr rfl)]
    walk_at "v"
    refine rk_eqO (c := 0) rfl (.obj _) ⟨bs, _, rfl, .obj _, .inr ⟨bs, rfl, fun b hb => ⟨b, rfl, ?_⟩⟩⟩
    walk_at "v"
    refine ⟨_, _, rfl, .bl _, .inr ⟨_, rfl⟩, ?_⟩
    rw [like_bl (show b = true from hb.mpr rfl)]
    walk_at "v"
    rfl
  refine sx_seq ?_
  refine sx_forGS ?_
  walk_at "v"
  refine k_rows T ?_
  walk_at "v"
  refine ⟨_, rfl, ?_⟩
  walk_at "v"
  refine ⟨D, _, fun x => x, Unit, fun _ _ => [.no, .d .pool, .d (.lst (bs.map boxL)), .d (.adr top), .d (boxesD (bs.map boxR)), .no, .no, .no, .no, .no, .no, .reg []], fun _ _ => True, (List.map_id' _).symm, ⟨(), trivial, .same (.same (.same (.same (.same (.same (.no (.same (.same (.same (.same (.same .nil)))))))))))⟩, fun B' j x s hx _ => ?_, fun Γ' s _ w => sx_weak w ?_⟩
  · have hx := other_ok x (List.mem_of_getElem? hx)
    walk_at "v"
    refine sx_if ?_
    walk_at "v"
    refine rk_eqO (c := 0) rfl hx.1 ⟨bs, _, rfl, hx.1, .inl ⟨hx.2, ⟨false, rfl, ?_⟩⟩⟩
    walk_at "v"
    refine ⟨_, _, rfl, .bl _, .inr ⟨_, rfl⟩, ?_⟩
    rw [like_bl rfl]
    walk_at "h"
    exact ⟨(), trivial, .same (.same (.same (.same (.same (.same (.same (.no (.same (.same (.same (.same .nil)))))))))))⟩
  · walk_at "h"
    exact ⟨bs, rfl, by omega, ok, rfl⟩

end

end K
end

set_option maxRecDepth 100000
set_option maxHeartbeats 0
namespace KH
open PySem PySem.Spec PyProof.Rows L2 G K
abbrev spl : Sp := SpLaw
theorem law_ok {P : Program} {w : World} {K : PySem.W.Frag} {mg : Str → Option Value} {base : Heap} (T : Tx K mg) {fd : FuncData} (FD : FnP K "law" s_law fd) : FnOk P w K mg base (L2.CX P w) 13 (He.ga K "law") fd ["script"] SpLaw := by
  have r_InvalidProject := er_ok_InvalidProject (P := P) (w := w) (base := base) T
  have r_WrongSize := er_ok_WrongSize (P := P) (w := w) (base := base) T
  have c_is_integer := ok_is_integer (P := P) (w := w) (base := base) T 
  have c_is_between := ok_is_between (P := P) (w := w) (base := base) T c_is_integer
  have c_is_sequence := ok_is_sequence (P := P) (w := w) (base := base) T 
  obtain ⟨fd_FracD_initD, F_FracD_initD⟩ := T.d_FracD_initD
  have I_FracD_initD := ok_FracD_initD (P := P) (w := w) (base := base) T c_is_integer F_FracD_initD
  have m_Frac1 : CalM P w K mg base 2 "Frac" [.int 1] (SpFamI (CL K) (He.ga K "Frac") S_FracD_initD) := by
    obtain ⟨ds, hv, hb⟩ := F_FracD_initD.binds1 (ps := ["self", "num", "den"]) 2 0 (by simp) rfl (fun T kV doc pm an cdv ct us its h1 h2 => match us, its, h1, h2 with | [_, _], [_], _, _ => ⟨_, rfl, rfl⟩)
    exact ⟨T.g_Frac, _, fd_FracD_initD, _, ds, T.mk_Frac, I_FracD_initD, hb, hv⟩
  have m_Frac2 : CalM P w K mg base 2 "Frac" [] (SpFamI (CL K) (He.ga K "Frac") S_FracD_initD) := by
    obtain ⟨ds, hv, hb⟩ := F_FracD_initD.binds1 (ps := ["self", "num", "den"]) 3 1 (by simp) rfl (fun T kV doc pm an cdv ct us its h1 h2 => match us, its, h1, h2 with | [_, _, _], [_], _, _ => ⟨_, rfl, rfl⟩)
    exact ⟨T.g_Frac, _, fd_FracD_initD, _, ds, T.mk_Frac, I_FracD_initD, hb, hv⟩
  obtain ⟨fd_Frac_is_below, F_Frac_is_below, B_Frac_is_below⟩ := ok_Frac_is_below (P := P) (w := w) (base := base) T 
  have c_Frac_is_below : CalT P w K mg base 1 (He.ga K "Frac") "is_below" _ := ⟨T.cl_Frac, _, fd_Frac_is_below, _, T.m_Frac_is_below, F_Frac_is_below, B_Frac_is_below⟩
  have c_as_frac := ok_as_frac (P := P) (w := w) (base := base) T c_is_integer m_Frac1
  have c_is_amount := ok_is_amount (P := P) (w := w) (base := base) T c_is_integer c_as_frac
  obtain ⟨fd_FracD_eqD, F_FracD_eqD, B_FracD_eqD⟩ := ok_FracD_eqD (P := P) (w := w) (base := base) T 
  have e_Frac : CalS P w K mg base 1 (He.ga K "Frac") "__eq__" _ := ⟨_, fd_FracD_eqD, _, T.sp_Frac_eq.1, T.sp_Frac_eq.2, F_FracD_eqD, B_FracD_eqD⟩
  have c_is_shown := ok_is_shown (P := P) (w := w) (base := base) T c_is_sequence c_is_between c_is_amount c_as_frac
  have c_are_prizes := ok_are_prizes (P := P) (w := w) (base := base) T c_is_sequence c_is_shown c_as_frac c_Frac_is_below
  have c_is_box := ok_is_box (P := P) (w := w) (base := base) T c_is_sequence c_is_amount c_as_frac c_are_prizes
  obtain ⟨fd_BoxesD_initD, F_BoxesD_initD⟩ := T.d_BoxesD_initD
  have I_BoxesD_initD := ok_BoxesD_initD (P := P) (w := w) (base := base) T c_is_sequence r_InvalidProject r_WrongSize c_is_box c_as_frac F_BoxesD_initD
  have m_Boxes1 : CalM P w K mg base 9 "Boxes" [] (SpFamIX K (CL K) (He.ga K "Boxes") S_BoxesD_initD) := ⟨T.g_Boxes, _, fd_BoxesD_initD, _, [], T.mk_Boxes, I_BoxesD_initD, F_BoxesD_initD.bindsN (fun _ _ _ _ _ _ us hl => match us, hl with | [_, _], _ => rfl), .nil⟩
  obtain ⟨fd_BoxesD_lenD, F_BoxesD_lenD, B_BoxesD_lenD⟩ := ok_BoxesD_lenD (P := P) (w := w) (base := base) T 
  have l_Boxes : CalS P w K mg base 1 (He.ga K "Boxes") "__len__" _ := ⟨_, fd_BoxesD_lenD, _, T.sp_Boxes_len.1, T.sp_Boxes_len.2, F_BoxesD_lenD, B_BoxesD_lenD⟩
  obtain ⟨fd_BoxesD_eqD, F_BoxesD_eqD, B_BoxesD_eqD⟩ := ok_BoxesD_eqD (P := P) (w := w) (base := base) T e_Frac
  have e_Boxes : CalS P w K mg base 6 (He.ga K "Boxes") "__eq__" _ := ⟨_, fd_BoxesD_eqD, _, T.sp_Boxes_eq.1, T.sp_Boxes_eq.2, F_BoxesD_eqD, B_BoxesD_eqD⟩
  have c__law_pool := ok__law_pool (P := P) (w := w) (base := base) T 
  have c__law_take := ok__law_take (P := P) (w := w) (base := base) T 
  have c__law_low := ok__law_low (P := P) (w := w) (base := base) T 
  have c__law_below := ok__law_below (P := P) (w := w) (base := base) T 
  have c__law_is := ok__law_is (P := P) (w := w) (base := base) T 
  have c__law_hand := ok__law_hand (P := P) (w := w) (base := base) T c__law_take m_Frac2
  have c__law_worth := ok__law_worth (P := P) (w := w) (base := base) T c__law_take c__law_low
  have c__law_cost := ok__law_cost (P := P) (w := w) (base := base) T c__law_take c__law_low c__law_worth
  have c__law_weight := ok__law_weight (P := P) (w := w) (base := base) T c__law_take
  have c__law_prizes := ok__law_prizes (P := P) (w := w) (base := base) T c__law_worth c__law_below c__law_weight
  have c__law_boxes := ok__law_boxes (P := P) (w := w) (base := base) T c__law_cost c__law_prizes c__law_take
  have c__law_kinds := ok__law_kinds (P := P) (w := w) (base := base) T 
  have c__law_said := ok__law_said (P := P) (w := w) (base := base) T c__law_kinds
  have c__law_like_0 := ok__law_like_0 (P := P) (w := w) (base := base) T 
  have c__law_ask := ok__law_ask (P := P) (w := w) (base := base) T m_Boxes1 c__law_said
  have c__law_plain := ok__law_plain (P := P) (w := w) (base := base) T 
  have c__law_rows := ok__law_rows (P := P) (w := w) (base := base) T c__law_hand c__law_take
  have c__law_rows_T := ok__law_rows_T (P := P) (w := w) (base := base) T c__law_hand c__law_take
  have c__law_rows_N := ok__law_rows_N (P := P) (w := w) (base := base) T c__law_hand c__law_take
  have c__law_unchanged := ok__law_unchanged (P := P) (w := w) (base := base) T 
  have c__law_rows_right := ok__law_rows_right (P := P) (w := w) (base := base) T l_Boxes c__law_is c__law_like_0
  have c__law_spoil := ok__law_spoil (P := P) (w := w) (base := base) T 
  have c__law_no_number := ok__law_no_number (P := P) (w := w) (base := base) T c__law_take m_Frac2
  have c__law_no_row := ok__law_no_row (P := P) (w := w) (base := base) T c__law_hand c__law_take c__law_no_number m_Frac1
  have c__law_wrong_row := ok__law_wrong_row (P := P) (w := w) (base := base) T c__law_rows_T c__law_take c__law_no_row c__law_ask c__law_like_0
  have c__law_wrong_whole := ok__law_wrong_whole (P := P) (w := w) (base := base) T m_Frac2 c__law_take c__law_ask c__law_rows_T c__law_like_0
  have c__law_bent := ok__law_bent (P := P) (w := w) (base := base) T c__law_take c__law_low
  exact ok_law (P := P) (w := w) (base := base) T c__law_pool c__law_boxes c__law_take c__law_rows_N m_Boxes1 c__law_unchanged c__law_spoil c__law_rows_right c__law_wrong_row c__law_wrong_whole c__law_bent c__law_plain c__law_rows c__law_like_0 e_Boxes FD
end KH
open PySem PySem.W PySem.Calls PyProof.Rows
set_option maxRecDepth 100000 in
set_option maxHeartbeats 0 in
theorem PySem.Challenge.cw_nextprices_k80_boxes_made_holds : PySem.Challenge.rw_nextprices_k80_boxes_made.Holds := by
  w_on; o_law
  refine HandSHeadRun.head_imp (r := OpenLaw.row PySem.Challenge.rw_nextprices_k80_boxes_made) (q := KH.qv) (H := KH.hk) (ob := KH.ob) (M := 12000) (loose := KH.loose) (d := HandSHeadRun.topDef (OpenLaw.row PySem.Challenge.rw_nextprices_k80_boxes_made).prog 67) (kwd := []) KH.ob_eq KH.run
    (by kernel_rfl) (by kernel_rfl) (by kernel_rfl) (by rfl) (by first | assumption | decide +kernel) (by decide +kernel) ⟨rfl, rfl, rfl, rfl, rfl, by decide +kernel⟩ ?hw ?hc
  case hw => w_witness2
  case hc =>
    refine HG.walk_ofX (l := PySem.Challenge.rw_nextprices_k80_boxes_made) (n := 63) (k := 13) (x := "script") (CX := fun w => L2.CX (PySem.Challenge.rw_nextprices_k80_boxes_made).prog w) rfl (by decide) (by kernel_rfl) ⟨rfl, by decide, by decide⟩ ?F HG.cx_none
    intro w mg fa h Y G hmg0
    obtain ⟨K, KX, hL, c⟩ := Y
    have hmg : mg ("law" : PySem.Str) = some (.ref fa) := by
      have e : (HandSHeadRun.topDef (OpenLaw.row PySem.Challenge.rw_nextprices_k80_boxes_made).prog 67).name = ("law" : PySem.Str) := by kernel_rfl
      rw [← e]
      exact hmg0
    have T := KH.facts KX G c
    have e := hmg.symm.trans T.g_law
    injection e with e
    injection e with e
    subst e
    obtain ⟨fd, FD⟩ := T.d_law
    refine ⟨K, fd, KH.spl, KX, fun s u => FD.bindsA (ps := ["script"]) (fun _ _ _ _ _ _ us hl => match us, hl with | [_], _ => rfl) s [u] rfl, fun H a ns hl hO hS => ?_, fun base _ _ => ?_⟩
    · obtain ⟨o, z⟩ := HG.script_frz hL hO hS
      exact ⟨a, o, ns, rfl, z, hl, fun _ => rfl⟩
    · exact KH.law_ok (P := (PySem.Challenge.rw_nextprices_k80_boxes_made).prog) (w := w) (base := base) T FD
