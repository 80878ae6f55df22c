import PyProof.Rows.All
import Wide.All
import OpenK.AllK
import Wide.FinOn
import HandS.ForMost
import HandS.Wide
import HandS.Gcd
import HandS.IsInst
import HandS.Defaults
import HandS.Zip
import HandS.Rev
import HandS.WordsExc
import HandS.HeadHook1
import HandS.HeadHook2
import HandS.Style
import HandS.Deep
import HandS.TryOnly
import KE.GoesMore
import KE.KStateDown
import HandS.Head0
import HandS.Head1
import HandS.Head2
import HandS.Head3
import HandS.HeadEnd
import PySem.Challenge.RW_nextprices_k79_whole_taken_in_turn
set_option Elab.async false
set_option linter.all false
section
set_option maxRecDepth 100000
set_option maxHeartbeats 2000000
/-! the data layer: trees of data, what stands for them, environments of slots -/
namespace G
open PySem PySem.Spec PyProof.Rows L2

/-- data -/
inductive D where
  | non | bl (b : Bool) | int (i : Int) | str (s : Str)
  | lst (l : List D) | tup (l : List D)
  | raw (l : List D)
  | frac (q : Rat)
  | obj (c : Nat) (l : List (Str × D))
  | dic (l : List (Key × D))
  | pool
  | ty (n : String) | cls (a : Addr)

/-- the classes' addresses, what the pool holds -/
structure Cl where
  frac : Addr
  cls : Nat → Addr
  pk : Hp → Option HO → Prop
  pkm : ∀ {W W' : Hp} {o}, Same W W' → pk W o → pk W' o
  pks : ∀ {W : Hp} {o}, pk W o → ∃ x, o = some x

def fracF (q : Rat) : List (Str × V) := [("num", .int q.num), ("den", .int q.den)]

mutual
inductive Rep (C : Cl) (P : Option Addr) (W : Hp) : V → D → Prop where
  | non : Rep C P W .non .non
  | bl (b : Bool) : Rep C P W (.bl b) (.bl b)
  | int (i : Int) : Rep C P W (.int i) (.int i)
  | str (s : Str) : Rep C P W (.str s) (.str s)
  | lst {a : Addr} {vs : List V} {l : List D} : W a = some (.lst vs) → RepL C P W vs l → Rep C P W (.ref a) (.lst l)
  | tup {a : Addr} {vs : List V} {l : List D} : W a = some (.tup vs) → RepL C P W vs l → Rep C P W (.ref a) (.tup l)
  | raw {a : Addr} {o : Obj} {vs : List V} {l : List D} : W a = some (.frz o (.lst vs)) → RepL C P W vs l → Rep C P W (.ref a) (.raw l)
  | frac {a dx : Addr} {q : Rat} : W a = some (.ins C.frac dx (fracF q)) → Rep C P W (.ref a) (.frac q)
  | obj {a dx : Addr} {c : Nat} {fs : List (Str × V)} {l : List (Str × D)} : W a = some (.ins (C.cls c) dx fs) → fs.map (·.1) = l.map (·.1) → RepL C P W (fs.map (·.2)) (l.map (·.2)) → Rep C P W (.ref a) (.obj c l)
  | dic {a : Addr} {fs : List (Key × V)} {l : List (Key × D)} : W a = some (.dK fs) → fs.map (·.1) = l.map (·.1) → RepL C P W (fs.map (·.2)) (l.map (·.2)) → Rep C P W (.ref a) (.dic l)
  | pool {a : Addr} : P = some a → Rep C P W (.ref a) .pool
  | ty (n : String) : Rep C P W (.ty n) (.ty n)
  | cls (a : Addr) : Rep C P W (.ref a) (.cls a)
inductive RepL (C : Cl) (P : Option Addr) (W : Hp) : List V → List D → Prop where
  | nil : RepL C P W [] []
  | cons {v : V} {d : D} {vs : List V} {l : List D} : Rep C P W v d → RepL C P W vs l → RepL C P W (v :: vs) (d :: l)
end

section
variable {C : Cl} {P : Option Addr} {W W' : Hp}
mutual
theorem Rep.mono (s : Same W W') : ∀ {v : V} {d : D}, Rep C P W v d → Rep C P W' v d
  | _, _, .non => .non
  | _, _, .bl b => .bl b
  | _, _, .int i => .int i
  | _, _, .str i => .str i
  | _, _, .lst h r => .lst (s _ _ h) (RepL.mono s r)
  | _, _, .tup h r => .tup (s _ _ h) (RepL.mono s r)
  | _, _, .raw h r => .raw (s _ _ h) (RepL.mono s r)
  | _, _, .frac h => .frac (s _ _ h)
  | _, _, .obj h e r => .obj (s _ _ h) e (RepL.mono s r)
  | _, _, .dic h e r => .dic (s _ _ h) e (RepL.mono s r)
  | _, _, .pool h => .pool h
  | _, _, .ty n => .ty n
  | _, _, .cls n => .cls n
theorem RepL.mono (s : Same W W') : ∀ {vs : List V} {l : List D}, RepL C P W vs l → RepL C P W' vs l
  | _, _, .nil => .nil
  | _, _, .cons h r => .cons (Rep.mono s h) (RepL.mono s r)
end
theorem RepL.length : ∀ {vs : List V} {l : List D}, RepL C P W vs l → vs.length = l.length
  | _, _, .nil => rfl
  | _, _, .cons _ r => congrArg Nat.succ r.length
theorem RepL.get : ∀ {vs : List V} {l : List D} {i : Nat} {d : D}, RepL C P W vs l → l[i]? = some d → ∃ v, vs[i]? = some v ∧ Rep C P W v d
  | _, _, _, _, .nil, e => by simp at e
  | _, _, 0, d, .cons h r, e => by simp at e; subst e; exact ⟨_, rfl, h⟩
  | _, _, i + 1, d, .cons h r, e => by
    obtain ⟨v, h1, h2⟩ := RepL.get (i := i) r (by simpa using e)
    exact ⟨v, by simpa using h1, h2⟩
theorem RepL.getV : ∀ {vs : List V} {l : List D} {i : Nat} {v : V}, RepL C P W vs l → vs[i]? = some v → ∃ d, l[i]? = some d ∧ Rep C P W v d
  | _, _, _, _, .nil, e => by simp at e
  | _, _, 0, d, .cons h r, e => by simp at e; subst e; exact ⟨_, rfl, h⟩
  | _, _, i + 1, d, .cons h r, e => by
    obtain ⟨v, h1, h2⟩ := RepL.getV (i := i) r (by simpa using e)
    exact ⟨v, by simpa using h1, h2⟩
theorem RepL.append : ∀ {vs ws : List V} {l m : List D}, RepL C P W vs l → RepL C P W ws m → RepL C P W (vs ++ ws) (l ++ m)
  | _, _, _, _, .nil, s => s
  | _, _, _, _, .cons h r, s => .cons h (RepL.append r s)
theorem RepL.one {v : V} {d : D} (h : Rep C P W v d) : RepL C P W [v] [d] := .cons h .nil
theorem RepL.take : ∀ {vs : List V} {l : List D} (n : Nat), RepL C P W vs l → RepL C P W (vs.take n) (l.take n)
  | _, _, 0, _ => .nil
  | _, _, _ + 1, .nil => .nil
  | _, _, n + 1, .cons h r => .cons h (RepL.take n r)
theorem RepL.drop : ∀ {vs : List V} {l : List D} (n : Nat), RepL C P W vs l → RepL C P W (vs.drop n) (l.drop n)
  | _, _, 0, r => r
  | _, _, _ + 1, .nil => .nil
  | _, _, n + 1, .cons _ r => RepL.drop n r
theorem RepL.set {v : V} {d : D} (h : Rep C P W v d) : ∀ {vs : List V} {l : List D} (i : Nat), RepL C P W vs l → RepL C P W (vs.set i v) (l.set i d)
  | _, _, _, .nil => .nil
  | _, _, 0, .cons _ r => .cons h r
  | _, _, i + 1, .cons q r => .cons q (RepL.set h i r)
theorem RepL.reverse : ∀ {vs : List V} {l : List D}, RepL C P W vs l → RepL C P W vs.reverse l.reverse
  | _, _, .nil => .nil
  | _, _, .cons h r => by
    rw [List.reverse_cons, List.reverse_cons]
    exact (RepL.reverse r).append (.one h)
theorem RepL.rep {vs : List V} {l : List D} (h : RepL C P W vs l) : ∀ k : Nat, RepL C P W (List.replicate k vs).flatten (List.replicate k l).flatten
  | 0 => .nil
  | k + 1 => by
    rw [List.replicate_succ, List.replicate_succ, List.flatten_cons, List.flatten_cons]
    exact h.append (RepL.rep h k)
theorem RepL.cut {vs : List V} {l : List D} (h : RepL C P W vs l) (lo hi : Option Int) : RepL C P W (cutV vs lo hi) ((l.drop (HT.sIx l.length 0 lo)).take (HT.sIx l.length l.length hi - HT.sIx l.length 0 lo)) := by
  unfold cutV
  rw [h.length]
  exact (h.drop _).take _
theorem RepL.ints : ∀ {vs : List V} {ns : List Int}, RepL C P W vs (ns.map D.int) → vs = ns.map V.int
  | vs, [], h => by cases h; rfl
  | vs, n :: ns, h => by
    cases h with
    | cons h r =>
      cases h
      rw [RepL.ints r]
      rfl
theorem RepL.bls : ∀ {vs : List V} {bs : List Bool}, RepL C P W vs (bs.map D.bl) → vs = bs.map V.bl
  | vs, [], h => by cases h; rfl
  | vs, n :: ns, h => by
    cases h with
    | cons h r =>
      cases h
      rw [RepL.bls r]
      rfl
theorem repL_ints : ∀ {ns : List Int}, RepL C P W (ns.map V.int) (ns.map D.int)
  | [] => .nil
  | n :: ns => .cons (.int n) repL_ints
end

/-- a step of the heap: the world grows, what was tracked stands but for the pool (P) and the one object that is being made (S) -/
structure Stp (C : Cl) (P S : Option Addr) (W H W' H' : Hp) : Prop where
  ww : Same W W'
  wh : Same W' H'
  hh : ∀ a o, H a = some o → P ≠ some a → S ≠ some a → H' a = some o
  dom : ∀ a o, H a = some o → ∃ o', H' a = some o'
  old : ∀ a o, H a = some o → W' a = W a
  pool : ∀ a, P = some a → C.pk W (H a) → C.pk W' (H' a)

section
variable {C : Cl} {P S : Option Addr} {W H W' H' W2 H2 : Hp}
theorem Stp.refl (h : Same W H) : Stp C P S W H W H := ⟨.refl _, h, fun _ _ e _ _ => e, fun _ o e => ⟨o, e⟩, fun _ _ _ => rfl, fun _ _ q => q⟩
theorem Stp.trans (a : Stp C P S W H W' H') (b : Stp C P S W' H' W2 H2) : Stp C P S W H W2 H2 where
  ww := a.ww.trans b.ww
  wh := b.wh
  hh := fun x o e p s => b.hh x o (a.hh x o e p s) p s
  dom := fun x o e => let ⟨o', e'⟩ := a.dom x o e; b.dom x o' e'
  old := fun x o e => let ⟨o', e'⟩ := a.dom x o e; (b.old x o' e').trans (a.old x o e)
  pool := fun x e q => b.pool x e (a.pool x e q)
theorem Stp.self (a : Stp C P none W H W' H') : Stp C P S W H W' H' := ⟨a.ww, a.wh, fun x o e p _ => a.hh x o e p (fun z => nomatch z), a.dom, a.old, a.pool⟩
theorem Stp.free (a : Stp C P S W H W' H') {x : Addr} (h : H' x = none) : H x = none := by
  cases e : H x with
  | none => rfl
  | some o =>
    obtain ⟨o', e'⟩ := a.dom x o e
    rw [e'] at h; cases h
/-- a new object, persistent -/
theorem Stp.new (hw : Same W H) {p : Addr} {o : HO} (hp : H p = none) (hP : ∀ a, P = some a → H a ≠ none) : Stp C P S W H (upd W p o) (upd H p o) where
  ww := fun a u e => by rw [upd_ne (ne_of_none (hw a u e) hp)]; exact e
  wh := fun a u e => by
    by_cases h : a = p
    · subst h; rw [upd_same] at e ⊢; exact e
    · rw [upd_ne h] at e ⊢; exact hw a u e
  hh := fun a u e _ _ => by rw [upd_ne (ne_of_none e hp)]; exact e
  dom := fun a u e => ⟨u, by rw [upd_ne (ne_of_none e hp)]; exact e⟩
  old := fun a u e => by rw [upd_ne (ne_of_none e hp)]
  pool := fun a e q => by
    have h : a ≠ p := fun z => by subst z; exact hP a e hp
    rw [upd_ne h]
    exact C.pkm (fun b u e => by rw [upd_ne (ne_of_none (hw b u e) hp)]; exact e) q
/-- a new object, not yet in the world -/
theorem Stp.own (hw : Same W H) {p : Addr} {o : HO} (hp : H p = none) (hP : ∀ a, P = some a → H a ≠ none) : Stp C P S W H W (upd H p o) where
  ww := .refl _
  wh := fun a u e => by rw [upd_ne (ne_of_none (hw a u e) hp)]; exact hw a u e
  hh := fun a u e _ _ => by rw [upd_ne (ne_of_none e hp)]; exact e
  dom := fun a u e => ⟨u, by rw [upd_ne (ne_of_none e hp)]; exact e⟩
  old := fun a u e => rfl
  pool := fun a e q => by
    have h : a ≠ p := fun z => by subst z; exact hP a e hp
    rw [upd_ne h]
    exact q
end

/-- slots of a frame: unknown; data; a list that only this frame knows; an instance that is being made -/
inductive Sl where
  | no
  | d (x : D)
  | own (l : List D)
  | ins (c : Addr) (l : List (Str × D))

def Sl.isO : Sl → Bool
  | .own _ => true
  | .ins _ _ => true
  | _ => false

def SlOk (C : Cl) (P : Option Addr) (W H : Hp) (ov : Option V) (a : Addr) : Sl → Prop
  | .no => True
  | .d x => ∃ v, ov = some v ∧ Rep C P W v x
  | .own l => ov = some (.ref a) ∧ ∃ vs, H a = some (.lst vs) ∧ RepL C P W vs l
  | .ins c l => ov = some (.ref a) ∧ ∃ dx fs, H a = some (.ins c dx fs) ∧ fs.map (·.1) = l.map (·.1) ∧ RepL C P W (fs.map (·.2)) (l.map (·.2))

/-- where a body began: the pool, the object being made, world and heap at its entry, and what of the world is surely there -/
structure Bs where
  P : Option Addr
  S : Option Addr
  W0 : Hp
  H0 : Hp
  kp : Hp

def Bs.keep (B : Bs) (W : Hp) : Bs := { B with kp := W }

/-- the pool is there -/
def PlOk (C : Cl) (P : Option Addr) (W H : Hp) : Prop := ∀ a, P = some a → W a = none ∧ C.pk W (H a)
theorem PlOk.ne {C : Cl} {P : Option Addr} {W H : Hp} (h : PlOk C P W H) : ∀ a, P = some a → H a ≠ none := fun a e z => by
  obtain ⟨x, q⟩ := C.pks (h a e).2
  rw [z] at q; cases q
theorem PlOk.step {C : Cl} {P S : Option Addr} {W H W' H' : Hp} (h : PlOk C P W H) (s : Stp C P S W H W' H') : PlOk C P W' H' := fun a e => by
  obtain ⟨h1, h2⟩ := h a e
  obtain ⟨x, q⟩ := C.pks h2
  exact ⟨(s.old a x q).trans h1, s.pool a e h2⟩

def Sl.isI : Sl → Bool
  | .ins _ _ => true
  | _ => false
def Fr (B : Bs) (W : Hp) (a : Addr) (s : Sl) : Prop := W a = none ∧ B.P ≠ some a ∧ (s.isI = false → B.H0 a = none) ∧ (s.isI = true → B.S = some a)

structure Owns (C : Cl) (B : Bs) (W H : Hp) (σ : L2.St) (Γ : List Sl) (ow : Nat → Addr) : Prop where
  inj : ∀ (i j : Nat) (s t : Sl), Γ[i]? = some s → Γ[j]? = some t → s.isO = true → t.isO = true → ow i = ow j → i = j
  fr : ∀ (i : Nat) (s : Sl), Γ[i]? = some s → s.isO = true → Fr B W (ow i) s
  ok : ∀ (i : Nat) (s : Sl), Γ[i]? = some s → SlOk C B.P W H (σ.getD i none) (ow i) s

structure EnvOk (C : Cl) (B : Bs) (W H : Hp) (σ : L2.St) (Γ : List Sl) : Prop where
  stp : Stp C B.P B.S B.W0 B.H0 W H
  kp : Same B.kp W
  pl : PlOk C B.P W H
  len : σ.length = Γ.length
  ow : ∃ ow : Nat → Addr, Owns C B W H σ Γ ow

section
variable {C : Cl} {B : Bs} {W H W' H' : Hp} {σ : L2.St} {Γ Γ' : List Sl}
theorem EnvOk.wh (e : EnvOk C B W H σ Γ) : Same W H := e.stp.wh
theorem SlOk.isO_at {ov : Option V} {a : Addr} {s : Sl} {P : Option Addr} (h : SlOk C P W H ov a s) (o : s.isO = true) : ∃ u, H a = some u := by
  cases s with
  | no => cases o
  | d x => cases o
  | own l => obtain ⟨_, vs, q, _⟩ := h; exact ⟨_, q⟩
  | ins c l => obtain ⟨_, dx, fs, q, _⟩ := h; exact ⟨_, q⟩
theorem Owns.step {ow : Nat → Addr} (o : Owns C B W H σ Γ ow) (s : Stp C B.P none W H W' H') : Owns C B W' H' σ Γ ow := by
  refine ⟨o.inj, fun i t h1 h2 => ?_, fun i t h1 => ?_⟩
  · obtain ⟨f1, f2, f3⟩ := o.fr i t h1 h2
    obtain ⟨u, hu⟩ := (o.ok i t h1).isO_at h2
    exact ⟨(s.old _ _ hu).trans f1, f2, f3⟩
  · have k := o.ok i t h1
    cases t with
    | no => trivial
    | d x => obtain ⟨v, h3, h4⟩ := k; exact ⟨v, h3, h4.mono s.ww⟩
    | own l =>
      obtain ⟨h3, vs, h4, h5⟩ := k
      exact ⟨h3, vs, s.hh _ _ h4 (o.fr i _ h1 rfl).2.1 (fun z => nomatch z), h5.mono s.ww⟩
    | ins c l =>
      obtain ⟨h3, dx, fs, h4, h5, h6⟩ := k
      exact ⟨h3, dx, fs, s.hh _ _ h4 (o.fr i _ h1 rfl).2.1 (fun z => nomatch z), h5, h6.mono s.ww⟩
theorem Owns.at_ {ow : Nat → Addr} (o : Owns C B W H σ Γ ow) {i : Nat} {s : Sl} (h : Γ[i]? = some s) (hs : s.isO = true) : ∃ u, H (ow i) = some u := (o.ok i s h).isO_at hs
theorem Owns.ne {ow : Nat → Addr} (o : Owns C B W H σ Γ ow) {p : Addr} (hp : H p = none) : ∀ i s, Γ[i]? = some s → s.isO = true → ow i ≠ p := fun i s h1 h2 z => by
  obtain ⟨u, hu⟩ := o.at_ h1 h2
  rw [z, hp] at hu; cases hu
theorem EnvOk.step (e : EnvOk C B W H σ Γ) (s : Stp C B.P none W H W' H') : EnvOk C B W' H' σ Γ where
  stp := e.stp.trans s.self
  kp := e.kp.trans s.ww
  pl := e.pl.step s
  len := e.len
  ow := let ⟨ow, o⟩ := e.ow; ⟨ow, o.step s⟩
/-- an object beside the frame changes -/
theorem EnvOk.poke (e : EnvOk C B W H σ Γ) {ow : Nat → Addr} (o : Owns C B W H σ Γ ow) {p : Addr} {u : HO} (hp : W p = none) (hP : B.P ≠ some p) (h0 : B.H0 p = none) (hn : ∀ i s, Γ[i]? = some s → s.isO = true → ow i ≠ p) :
    EnvOk C B W (upd H p u) σ Γ ∧ Owns C B W (upd H p u) σ Γ ow := by
  have o' : Owns C B W (upd H p u) σ Γ ow := ⟨o.inj, o.fr, fun i s h1 => by
    have k := o.ok i s h1
    cases s with
    | no => trivial
    | d x => exact k
    | own l => obtain ⟨q1, vs, q2, q3⟩ := k; exact ⟨q1, vs, by rw [upd_ne (hn i _ h1 rfl)]; exact q2, q3⟩
    | ins c l => obtain ⟨q1, dx, fs, q2, q3⟩ := k; exact ⟨q1, dx, fs, by rw [upd_ne (hn i _ h1 rfl)]; exact q2, q3⟩⟩
  refine ⟨⟨⟨e.stp.ww, fun a x q => ?_, fun a x q p' z => ?_, fun a x q => ?_, e.stp.old, fun a q z => ?_⟩, e.kp, fun a q => ?_, e.len, ow, o'⟩, o'⟩
  · rw [upd_ne (fun z => by subst z; rw [hp] at q; cases q)]
    exact e.wh a x q
  · rw [upd_ne (fun z => by subst z; rw [h0] at q; cases q)]
    exact e.stp.hh a x q p' z
  · rw [upd_ne (fun z => by subst z; rw [h0] at q; cases q)]
    exact e.stp.dom a x q
  · rw [upd_ne (fun z => by subst z; exact hP q)]
    exact e.stp.pool a q z
  · rw [upd_ne (fun z => by subst z; exact hP q)]
    exact e.pl a q
theorem EnvOk.keep (e : EnvOk C B W H σ Γ) (W1 : Hp) (h : Same W1 W) : EnvOk C (B.keep W1) W H σ Γ := by
  obtain ⟨ow, o⟩ := e.ow
  exact ⟨e.stp, h, e.pl, e.len, ow, o.inj, o.fr, o.ok⟩
theorem EnvOk.unkeep {W1 : Hp} (e : EnvOk C (B.keep W1) W H σ Γ) (h : Same B.kp W1) : EnvOk C B W H σ Γ := by
  obtain ⟨ow, o⟩ := e.ow
  exact ⟨e.stp, h.trans e.kp, e.pl, e.len, ow, o.inj, o.fr, o.ok⟩

/-- fewer things known -/
inductive Wk : List Sl → List Sl → Prop where
  | nil : Wk [] []
  | same {s : Sl} {l m : List Sl} : Wk l m → Wk (s :: l) (s :: m)
  | no {s : Sl} {l m : List Sl} : Wk l m → Wk (s :: l) (.no :: m)
theorem Wk.refl : ∀ {l : List Sl}, Wk l l
  | [] => .nil
  | _ :: _ => .same Wk.refl
theorem Wk.length : ∀ {l m : List Sl}, Wk l m → l.length = m.length
  | _, _, .nil => rfl
  | _, _, .same h => congrArg Nat.succ h.length
  | _, _, .no h => congrArg Nat.succ h.length
theorem Wk.get : ∀ {l m : List Sl} {i : Nat} {t : Sl}, Wk l m → m[i]? = some t → t = .no ∨ l[i]? = some t
  | _, _, _, _, .nil, e => by simp at e
  | _, _, 0, t, .same h, e => by right; simpa using e
  | _, _, 0, t, .no h, e => by left; simpa using e.symm
  | _, _, i + 1, t, .same h, e => by
    have := Wk.get (i := i) h (by simpa using e)
    simpa using this
  | _, _, i + 1, t, .no h, e => by
    have := Wk.get (i := i) h (by simpa using e)
    simpa using this
theorem EnvOk.weak (e : EnvOk C B W H σ Γ) (w : Wk Γ Γ') : EnvOk C B W H σ Γ' := by
  obtain ⟨ow, o⟩ := e.ow
  refine ⟨e.stp, e.kp, e.pl, e.len.trans w.length, ow, fun i j s t h1 h2 h3 h4 => ?_, fun i s h1 h2 => ?_, fun i s h1 => ?_⟩
  · rcases w.get h1 with z | h1
    · subst z; cases h3
    · rcases w.get h2 with z | h2
      · subst z; cases h4
      · exact o.inj i j s t h1 h2 h3 h4
  · rcases w.get h1 with z | h1
    · subst z; cases h2
    · exact o.fr i s h1 h2
  · rcases w.get h1 with z | h1
    · subst z; trivial
    · exact o.ok i s h1
theorem getD_set_same {σ : L2.St} {i : Nat} {x : Option V} (h : i < σ.length) : (σ.set i x).getD i none = x := by
  rw [List.getD_eq_getElem?_getD, List.getElem?_set_self h]; rfl
theorem getD_set_ne {σ : L2.St} {i j : Nat} {x : Option V} (h : i ≠ j) : (σ.set i x).getD j none = σ.getD j none := by
  rw [List.getD_eq_getElem?_getD, List.getD_eq_getElem?_getD, List.getElem?_set_ne h]
/-- a slot gets data -/
theorem EnvOk.setD (e : EnvOk C B W H σ Γ) {i : Nat} {v : V} {x : D} (hi : i < Γ.length) (r : Rep C B.P W v x) : EnvOk C B W H (σ.set i (some v)) (Γ.set i (.d x)) := by
  obtain ⟨ow, o⟩ := e.ow
  have hl := e.len
  refine ⟨e.stp, e.kp, e.pl, by simpa using e.len, ow, fun a b s t h1 h2 h3 h4 => ?_, fun a s h1 h2 => ?_, fun a s h1 => ?_⟩
  · by_cases ha : i = a
    · subst ha; rw [List.getElem?_set_self hi] at h1; cases h1; cases h3
    · by_cases hb : i = b
      · subst hb; rw [List.getElem?_set_self hi] at h2; cases h2; cases h4
      · rw [List.getElem?_set_ne ha] at h1; rw [List.getElem?_set_ne hb] at h2
        exact o.inj a b s t h1 h2 h3 h4
  · by_cases ha : i = a
    · subst ha; rw [List.getElem?_set_self hi] at h1; cases h1; cases h2
    · rw [List.getElem?_set_ne ha] at h1; exact o.fr a s h1 h2
  · by_cases ha : i = a
    · subst ha
      rw [List.getElem?_set_self hi] at h1; cases h1
      rw [getD_set_same (by omega)]
      exact ⟨v, rfl, r⟩
    · rw [List.getElem?_set_ne ha] at h1
      rw [getD_set_ne ha]
      exact o.ok a s h1
/-- a slot gets a list that nobody else knows -/
theorem EnvOk.setO (e : EnvOk C B W H σ Γ) {i : Nat} {p : Addr} {vs : List V} {l : List D} (hi : i < Γ.length) (hp : B.H0 p = none) (hW : W p = none) (hP : B.P ≠ some p) (hf : ∃ ow : Nat → Addr, Owns C B W H σ Γ ow ∧ ∀ j s, Γ[j]? = some s → s.isO = true → ow j ≠ p)
    (hh : H p = some (.lst vs)) (r : RepL C B.P W vs l) : EnvOk C B W H (σ.set i (some (.ref p))) (Γ.set i (.own l)) := by
  obtain ⟨ow, o, hf⟩ := hf
  have hl := e.len
  refine ⟨e.stp, e.kp, e.pl, by simpa using e.len, fun j => if j = i then p else ow j, fun a b s t h1 h2 h3 h4 => ?_, fun a s h1 h2 => ?_, fun a s h1 => ?_⟩
  · by_cases ha : a = i
    · subst ha
      by_cases hb : b = a
      · exact fun _ => hb.symm
      · rw [List.getElem?_set_ne (Ne.symm hb)] at h2
        simp only [if_true, if_neg hb]
        exact fun z => absurd z.symm (hf b t h2 h4)
    · rw [List.getElem?_set_ne (Ne.symm ha)] at h1
      by_cases hb : b = i
      · subst hb
        simp only [if_true, if_neg ha]
        exact fun z => absurd z (hf a s h1 h3)
      · rw [List.getElem?_set_ne (Ne.symm hb)] at h2
        simp only [if_neg ha, if_neg hb]
        exact o.inj a b s t h1 h2 h3 h4
  · by_cases ha : a = i
    · subst ha
      rw [List.getElem?_set_self hi] at h1; cases h1
      simp only [if_true]
      exact ⟨hW, hP, fun _ => hp, fun z => Bool.noConfusion z⟩
    · rw [List.getElem?_set_ne (Ne.symm ha)] at h1
      simp only [if_neg ha]
      exact o.fr a s h1 h2
  · by_cases ha : a = i
    · subst ha
      rw [List.getElem?_set_self hi] at h1; cases h1
      rw [getD_set_same (by omega)]
      simp only [if_true]
      exact ⟨rfl, vs, hh, r⟩
    · rw [List.getElem?_set_ne (Ne.symm ha)] at h1
      rw [getD_set_ne (Ne.symm ha)]
      simp only [if_neg ha]
      exact o.ok a s h1
/-- an own object changes -/
theorem EnvOk.chg (e : EnvOk C B W H σ Γ) {i : Nat} {s t : Sl} {u : HO} (hs : Γ[i]? = some s) (hs1 : s.isO = true) (ht1 : t.isO = true) (hst : s.isI = t.isI) : ∃ ow : Nat → Addr, Owns C B W H σ Γ ow ∧
    (SlOk C B.P W (upd H (ow i) u) (σ.getD i none) (ow i) t → EnvOk C B W (upd H (ow i) u) σ (Γ.set i t)) := by
  obtain ⟨ow, o⟩ := e.ow
  have hi : i < Γ.length := (List.getElem?_eq_some_iff.mp hs).1
  obtain ⟨f1, f2, f3⟩ := o.fr i s hs hs1
  obtain ⟨u0, hu0⟩ := (o.ok i s hs).isO_at hs1
  refine ⟨ow, o, fun k => ⟨⟨e.stp.ww, fun a x q => ?_, fun a x q p z => ?_, fun a x q => ?_, e.stp.old, fun a q z => ?_⟩, e.kp, fun a q => ?_, by simpa using e.len, ow, fun a b s' t' h1 h2 h3 h4 => ?_, fun a s' h1 h2 => ?_, fun a s' h1 => ?_⟩⟩
  · rw [upd_ne (fun z => by subst z; rw [f1] at q; cases q)]
    exact e.wh a x q
  · by_cases ha : a = ow i
    · subst ha
      cases hI : s.isI with
      | false => rw [f3.1 hI] at q; cases q
      | true => exact absurd (f3.2 hI) z
    · rw [upd_ne ha]; exact e.stp.hh a x q p z
  · by_cases ha : a = ow i
    · subst ha; exact ⟨u, upd_same⟩
    · rw [upd_ne ha]; exact e.stp.dom a x q
  · have ha : a ≠ ow i := fun z => by subst z; exact f2 q
    rw [upd_ne ha]; exact e.stp.pool a q z
  · have ha : a ≠ ow i := fun z => by subst z; exact f2 q
    rw [upd_ne ha]; exact e.pl a q
  · have g : ∀ (j : Nat) (x : Sl), (Γ.set i t)[j]? = some x → x.isO = true → ∃ y, Γ[j]? = some y ∧ y.isO = true := fun j x h5 h6 => by
      by_cases hj : i = j
      · subst hj; exact ⟨s, hs, hs1⟩
      · rw [List.getElem?_set_ne hj] at h5; exact ⟨x, h5, h6⟩
    obtain ⟨y1, g1, g2⟩ := g a s' h1 h3
    obtain ⟨y2, g3, g4⟩ := g b t' h2 h4
    exact o.inj a b y1 y2 g1 g3 g2 g4
  · by_cases ha : i = a
    · subst ha
      rw [List.getElem?_set_self hi] at h1; cases h1
      exact ⟨f1, f2, hst ▸ f3⟩
    · rw [List.getElem?_set_ne ha] at h1; exact o.fr a s' h1 h2
  · by_cases ha : i = a
    · subst ha; rw [List.getElem?_set_self hi] at h1; cases h1; exact k
    · rw [List.getElem?_set_ne ha] at h1
      have q := o.ok a s' h1
      have ne : s'.isO = true → ow a ≠ ow i := fun z w => ha (o.inj a i s' s h1 hs z hs1 w).symm
      cases s' with
      | no => trivial
      | d x => exact q
      | own l => obtain ⟨q1, vs, q2, q3⟩ := q; exact ⟨q1, vs, by rw [upd_ne (ne rfl)]; exact q2, q3⟩
      | ins c l => obtain ⟨q1, dx, fs, q2, q3⟩ := q; exact ⟨q1, dx, fs, by rw [upd_ne (ne rfl)]; exact q2, q3⟩
/-- a slot is forgotten -/
theorem EnvOk.wipe1 (e : EnvOk C B W H σ Γ) (i : Nat) : EnvOk C B W H (σ.set i none) (Γ.set i .no) := by
  obtain ⟨ow, o⟩ := e.ow
  refine ⟨e.stp, e.kp, e.pl, by simpa using e.len, ow, fun a b s t h1 h2 h3 h4 => ?_, fun a s h1 h2 => ?_, fun a s h1 => ?_⟩
  · by_cases ha : i = a
    · subst ha
      by_cases hi : i < Γ.length
      · rw [List.getElem?_set_self hi] at h1; cases h1; cases h3
      · rw [List.getElem?_eq_none (by simpa using hi)] at h1; cases h1
    · by_cases hb : i = b
      · subst hb
        by_cases hi : i < Γ.length
        · rw [List.getElem?_set_self hi] at h2; cases h2; cases h4
        · rw [List.getElem?_eq_none (by simpa using hi)] at h2; cases h2
      · rw [List.getElem?_set_ne ha] at h1; rw [List.getElem?_set_ne hb] at h2
        exact o.inj a b s t h1 h2 h3 h4
  · by_cases ha : i = a
    · subst ha
      by_cases hi : i < Γ.length
      · rw [List.getElem?_set_self hi] at h1; cases h1; cases h2
      · rw [List.getElem?_eq_none (by simpa using hi)] at h1; cases h1
    · rw [List.getElem?_set_ne ha] at h1; exact o.fr a s h1 h2
  · by_cases ha : i = a
    · subst ha
      by_cases hi : i < Γ.length
      · rw [List.getElem?_set_self hi] at h1; cases h1; trivial
      · rw [List.getElem?_eq_none (by simpa using hi)] at h1; cases h1
    · rw [List.getElem?_set_ne ha] at h1
      rw [getD_set_ne ha]
      exact o.ok a s h1
def wipeG (Γ : List Sl) : List Nat → List Sl
  | [] => Γ
  | v :: vs => (wipeG Γ vs).set v .no
theorem EnvOk.wipe (e : EnvOk C B W H σ Γ) : ∀ vs : List Nat, EnvOk C B W H (L2.wipe σ vs) (wipeG Γ vs)
  | [] => e
  | v :: vs => (EnvOk.wipe e vs).wipe1 v
/-- an own list becomes data -/
theorem EnvOk.freeze (e : EnvOk C B W H σ Γ) {i : Nat} {l : List D} (hs : Γ[i]? = some (.own l)) : ∃ W', Same W W' ∧ EnvOk C B W' H σ (Γ.set i (.d (.lst l))) := by
  obtain ⟨ow, o⟩ := e.ow
  have hi : i < Γ.length := (List.getElem?_eq_some_iff.mp hs).1
  obtain ⟨f1, f2, f3⟩ := o.fr i _ hs rfl
  have f3 : B.H0 (ow i) = none := f3.1 rfl
  obtain ⟨e1, vs, e2, e3⟩ := o.ok i _ hs
  have ww : Same W (upd W (ow i) (.lst vs)) := fun a x q => by
    rw [upd_ne (fun z => by subst z; rw [f1] at q; cases q)]; exact q
  have wh : Same (upd W (ow i) (.lst vs)) H := fun a x q => by
    by_cases ha : a = ow i
    · subst ha; rw [upd_same] at q; cases q; exact e2
    · rw [upd_ne ha] at q; exact e.wh a x q
  refine ⟨upd W (ow i) (.lst vs), ww, ⟨⟨e.stp.ww.trans ww, wh, e.stp.hh, e.stp.dom, fun a x q => ?_, fun a q z => C.pkm ww (e.stp.pool a q z)⟩, e.kp.trans ww, fun a q => ?_, by simpa using e.len, ow, fun a b s t h1 h2 h3 h4 => ?_, fun a s h1 h2 => ?_, fun a s h1 => ?_⟩⟩
  · rw [upd_ne (fun z => by subst z; rw [f3] at q; cases q)]
    exact e.stp.old a x q
  · rw [upd_ne (fun z => by subst z; exact f2 q)]
    exact ⟨(e.pl a q).1, C.pkm ww (e.pl a q).2⟩
  · by_cases ha : i = a
    · subst ha; rw [List.getElem?_set_self hi] at h1; cases h1; cases h3
    · by_cases hb : i = b
      · subst hb; rw [List.getElem?_set_self hi] at h2; cases h2; cases h4
      · rw [List.getElem?_set_ne ha] at h1; rw [List.getElem?_set_ne hb] at h2
        exact o.inj a b s t h1 h2 h3 h4
  · by_cases ha : i = a
    · subst ha; rw [List.getElem?_set_self hi] at h1; cases h1; cases h2
    · rw [List.getElem?_set_ne ha] at h1
      obtain ⟨g1, g2, g3⟩ := o.fr a s h1 h2
      refine ⟨?_, g2, g3⟩
      rw [upd_ne (fun z => ha (o.inj i a _ s hs h1 rfl h2 z.symm))]
      exact g1
  · by_cases ha : i = a
    · subst ha
      rw [List.getElem?_set_self hi] at h1; cases h1
      exact ⟨_, e1, .lst upd_same (e3.mono ww)⟩
    · rw [List.getElem?_set_ne ha] at h1
      have q := o.ok a s h1
      cases s with
      | no => trivial
      | d x => obtain ⟨v, q1, q2⟩ := q; exact ⟨v, q1, q2.mono ww⟩
      | own l => obtain ⟨q1, vs, q2, q3⟩ := q; exact ⟨q1, vs, q2, q3.mono ww⟩
      | ins c l => obtain ⟨q1, dx, fs, q2, q3, q4⟩ := q; exact ⟨q1, dx, fs, q2, q3, q4.mono ww⟩
end
end G
end

section
set_option maxRecDepth 100000
set_option maxHeartbeats 2000000
/-! the data layer: what a reading evaluates to -/
namespace G
open PySem PySem.Spec PyProof.Rows L2

inductive Kd where
  | l | t
def Kd.ho : Kd → List V → HO
  | .l, vs => .lst vs
  | .t, vs => .tup vs
def Kd.d : Kd → List D → D
  | .l, xs => .lst xs
  | .t, xs => .tup xs

section
variable (C : Cl) (B : Bs)
/-- an expression gives data d with K d -/
def EK (Γ : List Sl) (te : TE) (K : D → Prop) : Prop := ∀ W H σ, EnvOk C B W H σ Γ → ∀ Q : VK, (∀ d v W' H', Stp C B.P none W H W' H' → Rep C B.P W' v d → K d → Q v H') → te σ H Q
/-- .. a sequence (one that only the frame knows, too) -/
def EL (Γ : List Sl) (te : TE) (K : Kd → List D → Prop) : Prop := ∀ W H σ, EnvOk C B W H σ Γ → ∀ Q : VK, (∀ k l a vs W' H', Stp C B.P none W H W' H' → H' a = some (k.ho vs) → B.P ≠ some a → (k = .t → W' a = some (.tup vs)) → RepL C B.P W' vs l → K k l → Q (.ref a) H') → te σ H Q
/-- .. a new list -/
def EF (Γ : List Sl) (te : TE) (K : List D → Prop) : Prop := ∀ W H σ, EnvOk C B W H σ Γ → ∀ Q : VK, (∀ l a vs W' H', Stp C B.P none W H W' H' → H a = none → W' a = none → H' a = some (.lst vs) → RepL C B.P W' vs l → K l → Q (.ref a) H') → te σ H Q
def TK (Γ : List Sl) (tt : TT) (K : Bool → Prop) : Prop := ∀ W H σ, EnvOk C B W H σ Γ → ∀ Q : Bool → Hp → Prop, (∀ b W' H', Stp C B.P none W H W' H' → K b → Q b H') → tt σ H Q
def AK (Γ : List Sl) (ta : TA) (K : List D → Prop) : Prop := ∀ W H σ, EnvOk C B W H σ Γ → ∀ Q : List V → Hp → Prop, (∀ l vs W' H', Stp C B.P none W H W' H' → RepL C B.P W' vs l → K l → Q vs H') → ta σ H Q
/-- a two-place operation on data -/
def RK (r : R2) (d1 d2 : D) (K : D → Prop) : Prop := ∀ W H, Same W H → PlOk C B.P W H → ∀ v1 v2, Rep C B.P W v1 d1 → Rep C B.P W v2 d2 → ∀ Q : VK, (∀ d v W' H', Stp C B.P none W H W' H' → Rep C B.P W' v d → K d → Q v H') → r v1 v2 H Q
def UK (r : V → Hp → VK → Prop) (d1 : D) (K : D → Prop) : Prop := ∀ W H, Same W H → PlOk C B.P W H → ∀ v1, Rep C B.P W v1 d1 → ∀ Q : VK, (∀ d v W' H', Stp C B.P none W H W' H' → Rep C B.P W' v d → K d → Q v H') → r v1 H Q
/-- a call of a builtin on data -/
def CK (r : List V → Hp → VK → Prop) (l : List D) (K : D → Prop) : Prop := ∀ W H, Same W H → PlOk C B.P W H → ∀ vs, RepL C B.P W vs l → ∀ Q : VK, (∀ d v W' H', Stp C B.P none W H W' H' → Rep C B.P W' v d → K d → Q v H') → r vs H Q
end

/-- what a def promises, by data -/
def SpOf (C : Cl) (S : List D → (D → Prop) → Prop) : Sp := fun vs H Q _ => ∃ P W l K, Same W H ∧ PlOk C P W H ∧ RepL C P W vs l ∧ S l K ∧ ∀ d v W' H', K d → Stp C P none W H W' H' → Rep C P W' v d → Q v H'

section
variable {C : Cl} {B : Bs} {Γ : List Sl} {ta tb te : TE} {tt t u : TT} {K : D → Prop}
theorem EK.mono {K' : D → Prop} (h : EK C B Γ te K) (k : ∀ d, K d → K' d) : EK C B Γ te K' := fun W H σ e Q q => h W H σ e Q fun d v W' H' s r z => q d v W' H' s r (k d z)
theorem TK.mono {K K' : Bool → Prop} (h : TK C B Γ tt K) (k : ∀ d, K d → K' d) : TK C B Γ tt K' := fun W H σ e Q q => h W H σ e Q fun d W' H' s z => q d W' H' s (k d z)
theorem getD_some {σ : L2.St} {i : Nat} {v : V} (h : σ.getD i none = some v) : σ[i]? = some (some v) := by
  rw [List.getD_eq_getElem?_getD] at h
  cases e : σ[i]? with
  | none => rw [e] at h; cases h
  | some x => rw [e] at h; exact congrArg some h
theorem EnvOk.at_ {W H : Hp} {σ : L2.St} (e : EnvOk C B W H σ Γ) {i : Nat} {x : D} (h : Γ[i]? = some (.d x)) : ∃ v, σ[i]? = some (some v) ∧ Rep C B.P W v x := by
  obtain ⟨ow, o⟩ := e.ow
  obtain ⟨v, h1, h2⟩ := o.ok i _ h
  exact ⟨v, getD_some h1, h2⟩
theorem ek_var {i : Nat} {x : D} (h : Γ[i]? = some (.d x)) (k : K x) : EK C B Γ (tVar i) K := fun W H σ e Q q => by
  obtain ⟨v, h1, h2⟩ := e.at_ h
  exact ⟨v, h1, q x v W H (.refl e.wh) h2 k⟩
theorem ek_int {i : Int} (k : K (.int i)) : EK C B Γ (tC (.int i)) K := fun W H σ e Q q => q _ _ W H (.refl e.wh) (.int i) k
theorem ek_bl {i : Bool} (k : K (.bl i)) : EK C B Γ (tC (.bl i)) K := fun W H σ e Q q => q _ _ W H (.refl e.wh) (.bl i) k
theorem ek_non (k : K .non) : EK C B Γ (tC .non) K := fun W H σ e Q q => q _ _ W H (.refl e.wh) .non k
theorem ek_str {i : Str} (k : K (.str i)) : EK C B Γ (tC (.str i)) K := fun W H σ e Q q => q _ _ W H (.refl e.wh) (.str i) k

theorem ek_op {r : R2} (h : EK C B Γ ta fun d1 => EK C B Γ tb fun d2 => RK C B r d1 d2 K) : EK C B Γ (tOp r ta tb) K := fun W H σ e Q q =>
  h W H σ e _ fun d1 v1 W1 H1 s1 r1 h1 => h1 W1 H1 σ (e.step s1) _ fun d2 v2 W2 H2 s2 r2 h2 =>
    h2 W2 H2 s2.wh ((e.pl.step s1).step s2) v1 v2 (r1.mono s2.ww) r2 Q fun d v W3 H3 s3 r3 k => q d v W3 H3 ((s1.trans s2).trans s3) r3 k
theorem ek_un {r : V → Hp → VK → Prop} (h : EK C B Γ ta fun d1 => UK C B r d1 K) : EK C B Γ (tUn r ta) K := fun W H σ e Q q =>
  h W H σ e _ fun d1 v1 W1 H1 s1 r1 h1 => h1 W1 H1 s1.wh (e.pl.step s1) v1 r1 Q fun d v W3 H3 s3 r3 k => q d v W3 H3 (s1.trans s3) r3 k
theorem ak_nil {K : List D → Prop} (k : K []) : AK C B Γ tNil K := fun W H σ e Q q => q [] [] W H (.refl e.wh) .nil k
theorem ak_cons {ta : TE} {tr : TA} {K : List D → Prop} (h : EK C B Γ ta fun d => AK C B Γ tr fun l => K (d :: l)) : AK C B Γ (tCons ta tr) K := fun W H σ e Q q =>
  h W H σ e _ fun d v W1 H1 s1 r1 h1 => h1 W1 H1 σ (e.step s1) _ fun l vs W2 H2 s2 r2 h2 => q (d :: l) (v :: vs) W2 H2 (s1.trans s2) (.cons (r1.mono s2.ww) r2) h2
theorem ek_cb {r : List V → Hp → VK → Prop} {ta : TA} (h : AK C B Γ ta fun l => CK C B r l K) : EK C B Γ (tCB r ta) K := fun W H σ e Q q =>
  h W H σ e _ fun l vs W1 H1 s1 r1 h1 => h1 W1 H1 s1.wh (e.pl.step s1) vs r1 Q fun d v W3 H3 s3 r3 k => q d v W3 H3 (s1.trans s3) r3 k
/-- a call of a def -/
theorem ek_call {S : List D → (D → Prop) → Prop} {dvs : List V} {dds : List D} {ta : TA} (hd : ∀ W, RepL C B.P W dvs dds) (h : AK C B Γ ta fun l => S (l ++ dds) K) : EK C B Γ (tCall (SpOf C S) dvs E0 ta) K := fun W H σ e Q q =>
  h W H σ e _ fun l vs W1 H1 s1 r1 h1 => ⟨B.P, W1, l ++ dds, K, s1.wh, e.pl.step s1, r1.append (hd W1), h1, fun d v W3 H3 k s3 r3 => q d v W3 H3 (s1.trans s3) r3 k⟩
theorem ek_call0 {S : List D → (D → Prop) → Prop} {ta : TA} (h : AK C B Γ ta fun l => S l K) : EK C B Γ (tCall (SpOf C S) [] E0 ta) K :=
  ek_call (dds := []) (fun _ => .nil) (by simpa using h)
/-- a method of an instance -/
theorem rep_frac {P : Option Addr} {W : Hp} {v : V} {q : Rat} (r : Rep C P W v (.frac q)) : ∃ a dx, v = .ref a ∧ W a = some (.ins C.frac dx (fracF q)) := by
  cases r with
  | frac h => exact ⟨_, _, rfl, h⟩
theorem ek_methF {S : List D → (D → Prop) → Prop} {m : Str} {ta : TE} {t : TA}  (hl : ∀ q, (fracF q).lookup m = none)
    (h : EK C B Γ ta fun d0 => ∃ q, d0 = .frac q ∧ AK C B Γ t fun l => S (.frac q :: l) K) : EK C B Γ (tMeth C.frac m (SpOf C S) [] E0 ta t) K := fun W H σ e Q q =>
  h W H σ e _ fun d0 v0 W1 H1 s1 r1 ⟨x, e0, h1⟩ => by
    subst e0
    obtain ⟨a, dx, rfl, ha⟩ := rep_frac r1
    refine ⟨a, dx, _, rfl, s1.wh _ _ ha, hl x, h1 W1 H1 σ (e.step s1) _ fun l vs W2 H2 s2 r2 h2 => ?_⟩
    rw [List.append_nil]
    exact ⟨B.P, W2, .frac x :: l, K, s2.wh, (e.pl.step s1).step s2, .cons (r1.mono s2.ww) r2, h2, fun d v W3 H3 k s3 r3 => q d v W3 H3 ((s1.trans s2).trans s3) r3 k⟩
theorem rep_obj {P : Option Addr} {W : Hp} {v : V} {c : Nat} {l : List (Str × D)} (r : Rep C P W v (.obj c l)) : ∃ a dx fs, v = .ref a ∧ W a = some (.ins (C.cls c) dx fs) ∧ fs.map (·.1) = l.map (·.1) ∧ RepL C P W (fs.map (·.2)) (l.map (·.2)) := by
  cases r with
  | obj h e r => exact ⟨_, _, _, rfl, h, e, r⟩
theorem lookup_keys {α β : Type} {f : Str} : ∀ {fs : List (Str × α)} {l : List (Str × β)}, fs.map (·.1) = l.map (·.1) → l.lookup f = none → fs.lookup f = none
  | [], _, _, _ => rfl
  | (k, x) :: fs, [], h, _ => by cases h
  | (k, x) :: fs, (k', y) :: l, h, h2 => by
    have h1 : k = k' := by simp at h; exact h.1
    have h3 : fs.map (·.1) = l.map (·.1) := by simp at h; exact h.2
    subst h1
    by_cases e : (f == k) = true
    · simp only [List.lookup, e] at h2; cases h2
    · have e : (f == k) = false := by simpa using e
      simp only [List.lookup, e] at h2 ⊢
      exact lookup_keys h3 h2
theorem lookup_rep {P : Option Addr} {W : Hp} {f : Str} {d : D} : ∀ {fs : List (Str × V)} {l : List (Str × D)}, fs.map (·.1) = l.map (·.1) → RepL C P W (fs.map (·.2)) (l.map (·.2)) → l.lookup f = some d → ∃ v, fs.lookup f = some v ∧ Rep C P W v d
  | [], [], _, _, h => by cases h
  | [], _ :: _, h, _, _ => by cases h
  | (k, x) :: fs, [], h, _, _ => by cases h
  | (k, x) :: fs, (k', y) :: l, h, r, h2 => by
    have h1 : k = k' := by simp at h; exact h.1
    have h3 : fs.map (·.1) = l.map (·.1) := by simp at h; exact h.2
    subst h1
    cases r with
    | cons r rr =>
      by_cases e : (f == k) = true
      · simp only [List.lookup, e] at h2 ⊢; cases h2; exact ⟨_, rfl, r⟩
      · have e : (f == k) = false := by simpa using e
        simp only [List.lookup, e] at h2 ⊢
        exact lookup_rep h3 rr h2
theorem ek_methO {S : List D → (D → Prop) → Prop} {m : Str} {c : Nat} {ta : TE} {t : TA} 
    (h : EK C B Γ ta fun d0 => ∃ fl, d0 = .obj c fl ∧ fl.lookup m = none ∧ AK C B Γ t fun l => S (.obj c fl :: l) K) : EK C B Γ (tMeth (C.cls c) m (SpOf C S) [] E0 ta t) K := fun W H σ e Q q =>
  h W H σ e _ fun d0 v0 W1 H1 s1 r1 ⟨x, e0, hl, h1⟩ => by
    subst e0
    obtain ⟨a, dx, fs, rfl, ha, hk, hr⟩ := rep_obj r1
    refine ⟨a, dx, _, rfl, s1.wh _ _ ha, lookup_keys hk hl, h1 W1 H1 σ (e.step s1) _ fun l vs W2 H2 s2 r2 h2 => ?_⟩
    rw [List.append_nil]
    exact ⟨B.P, W2, .obj c x :: l, K, s2.wh, (e.pl.step s1).step s2, .cons (r1.mono s2.ww) r2, h2, fun d v W3 H3 k s3 r3 => q d v W3 H3 ((s1.trans s2).trans s3) r3 k⟩
/-- attributes -/
theorem ek_num {KK : PySem.W.Frag} {ta : TE} (c : Cls KK C.frac) (n : NoAttr KK C.frac "num") (h : EK C B Γ ta fun d => ∃ q, d = .frac q ∧ K (.int q.num)) : EK C B Γ (tFld KK ta "num") K := fun W H σ e Q q =>
  h W H σ e _ fun d0 v0 W1 H1 s1 r1 ⟨x, e0, h1⟩ => by
    subst e0
    obtain ⟨a, dx, rfl, ha⟩ := rep_frac r1
    exact ⟨a, C.frac, dx, _, .int x.num, rfl, s1.wh _ _ ha, c, n, rfl, q _ _ W1 H1 s1 (.int _) h1⟩
theorem ek_den {KK : PySem.W.Frag} {ta : TE} (c : Cls KK C.frac) (n : NoAttr KK C.frac "den") (h : EK C B Γ ta fun d => ∃ q, d = .frac q ∧ K (.int q.den)) : EK C B Γ (tFld KK ta "den") K := fun W H σ e Q q =>
  h W H σ e _ fun d0 v0 W1 H1 s1 r1 ⟨x, e0, h1⟩ => by
    subst e0
    obtain ⟨a, dx, rfl, ha⟩ := rep_frac r1
    exact ⟨a, C.frac, dx, _, .int x.den, rfl, s1.wh _ _ ha, c, n, rfl, q _ _ W1 H1 s1 (.int _) h1⟩
theorem ek_fld {KK : PySem.W.Frag} {f : Str} {ta : TE} (h : EK C B Γ ta fun d => ∃ c l x, d = .obj c l ∧ Cls KK (C.cls c) ∧ NoAttr KK (C.cls c) f ∧ l.lookup f = some x ∧ K x) : EK C B Γ (tFld KK ta f) K := fun W H σ e Q q =>
  h W H σ e _ fun d0 v0 W1 H1 s1 r1 ⟨c, l, x, e0, cl, na, hl, h1⟩ => by
    subst e0
    obtain ⟨a, dx, fs, rfl, ha, hk, hr⟩ := rep_obj r1
    obtain ⟨v, hv, rv⟩ := lookup_rep hk hr hl
    exact ⟨a, C.cls c, dx, _, v, rfl, s1.wh _ _ ha, cl, na, hv, q _ _ W1 H1 s1 rv h1⟩
/-- displays -/
theorem ek_tup {ta : TA} (h : AK C B Γ ta fun l => l.length ≤ sizeLine ∧ K (.tup l)) : EK C B Γ (tTup ta) K := fun W H σ e Q q =>
  h W H σ e _ fun l vs W1 H1 s1 r1 ⟨hz, h1⟩ => ⟨by rw [r1.length]; exact hz, fun p hp => by
    have s2 := Stp.new (C := C) (P := B.P) (S := none) (o := .tup vs) s1.wh hp (e.pl.step s1).ne
    exact q _ _ _ _ (s1.trans s2) (.tup upd_same (r1.mono s2.ww)) h1⟩
theorem ef_lst {ta : TA} {K : List D → Prop} (h : AK C B Γ ta fun l => l.length ≤ sizeLine ∧ K l) : EF C B Γ (tLst ta) K := fun W H σ e Q q =>
  h W H σ e _ fun l vs W1 H1 s1 r1 ⟨hz, h1⟩ => ⟨by rw [r1.length]; exact hz, fun p hp => by
    have s2 := Stp.own (C := C) (P := B.P) (S := none) (o := .lst vs) s1.wh hp (e.pl.step s1).ne
    have hW : W1 p = none := by
      cases z : W1 p with
      | none => rfl
      | some o => rw [s1.wh _ _ z] at hp; cases hp
    exact q l p vs _ _ (s1.trans s2) (s1.free hp) hW upd_same r1 h1⟩
/-- a new list becomes data at once -/
theorem ek_ef {te : TE} (h : EF C B Γ te fun l => K (.lst l)) : EK C B Γ te K := fun W H σ e Q q =>
  h W H σ e _ fun l a vs W1 H1 s1 ha hW hh r1 h1 => by
    have hP : B.P ≠ some a := fun z => e.pl.ne a z ha
    have ww : Same W1 (upd W1 a (.lst vs)) := fun b x z => by rw [upd_ne (fun y => by subst y; rw [hW] at z; cases z)]; exact z
    refine q _ _ (upd W1 a (.lst vs)) H1 ⟨s1.ww.trans ww, fun b x z => ?_, s1.hh, s1.dom, fun b x z => ?_, fun b z w => C.pkm ww (s1.pool b z w)⟩ (.lst upd_same (r1.mono ww)) h1
    · by_cases hb : b = a
      · subst hb; rw [upd_same] at z; cases z; exact hh
      · rw [upd_ne hb] at z; exact s1.wh b x z
    · rw [upd_ne (ne_of_none z ha)]; exact s1.old b x z
theorem el_ef {te : TE} {K : Kd → List D → Prop} (h : EF C B Γ te fun l => K .l l) : EL C B Γ te K := fun W H σ e Q q =>
  h W H σ e _ fun l a vs W1 H1 s1 ha hW hh r1 h1 => q .l l a vs W1 H1 s1 hh (fun z => e.pl.ne a z ha) (fun z => nomatch z) r1 h1
theorem el_ek {te : TE} {K : Kd → List D → Prop} (h : EK C B Γ te fun d => ∃ k l, d = k.d l ∧ K k l) : EL C B Γ te K := fun W H σ e Q q =>
  h W H σ e _ fun d v W1 H1 s1 r1 ⟨k, l, e0, h1⟩ => by
    have pl := e.pl.step s1
    cases k with
    | l =>
      subst e0
      cases r1 with
      | lst ha r => exact q .l l _ _ W1 H1 s1 (s1.wh _ _ ha) (fun z => by rw [(pl _ z).1] at ha; cases ha) (fun z => nomatch z) r h1
    | t =>
      subst e0
      cases r1 with
      | tup ha r => exact q .t l _ _ W1 H1 s1 (s1.wh _ _ ha) (fun z => by rw [(pl _ z).1] at ha; cases ha) (fun _ => ha) r h1
theorem el_var {i : Nat} {x : D} {K : Kd → List D → Prop} (h : Γ[i]? = some (.d x)) (k : ∃ k l, x = k.d l ∧ K k l) : EL C B Γ (tVar i) K := el_ek (ek_var h k)
theorem el_own {i : Nat} {l : List D} {K : Kd → List D → Prop} (h : Γ[i]? = some (.own l)) (k : K .l l) : EL C B Γ (tVar i) K := fun W H σ e Q q => by
  obtain ⟨ow, o⟩ := e.ow
  obtain ⟨h1, vs, h2, h3⟩ := o.ok i _ h
  exact ⟨_, getD_some h1, q .l l (ow i) vs W H (.refl e.wh) h2 (o.fr i _ h rfl).2.1 (fun z => nomatch z) h3 k⟩
/-- items -/
theorem atI_rep {P : Option Addr} {W : Hp} {vs : List V} {l : List D} {i : Int} {d : D} (r : RepL C P W vs l) (h : atI l i = some d) : ∃ v, atI vs i = some v ∧ Rep C P W v d := by
  unfold atI at h ⊢
  rw [r.length]
  cases e : ixN l.length i with
  | none => rw [e] at h; cases h
  | some j =>
    rw [e] at h
    exact r.get h
theorem ek_ix {KK : PySem.W.Frag} (h : EL C B Γ ta fun _ l => EK C B Γ tb fun d2 => ∃ i x, d2 = .int i ∧ atI l i = some x ∧ K x) : EK C B Γ (tOp (rIx KK) ta tb) K := fun W H σ e Q q =>
  h W H σ e _ fun k l a vs W1 H1 s1 ha hP _ r1 h1 => h1 W1 H1 σ (e.step s1) _ fun d2 v2 W2 H2 s2 r2 ⟨i, x, e2, hx, kx⟩ => by
    subst e2
    cases r2
    obtain ⟨v, hv, rv⟩ := atI_rep (r1.mono s2.ww) hx
    have ha2 := s2.hh _ _ ha hP (fun z => nomatch z)
    have fin := q x v W2 H2 (s1.trans s2) rv kx
    cases k with
    | l => exact .inl ⟨a, vs, i, v, rfl, rfl, SqL.of ha2, hv, fin⟩
    | t => exact .inr (.inl ⟨a, vs, i, v, rfl, rfl, SqT.of ha2, hv, fin⟩)
/-- tests -/
theorem tk_test {te : TE} {K : Bool → Prop} (h : EK C B Γ te fun d => ∃ b, d = .bl b ∧ K b) : TK C B Γ (tTest te) K := fun W H σ e Q q =>
  h W H σ e _ fun d v W1 H1 s1 r1 ⟨b, e0, h1⟩ => by
    subst e0; cases r1
    exact ⟨b, rfl, q b W1 H1 s1 h1⟩
theorem tk_B {te : TE} {K : Bool → Prop} (h : EK C B Γ te fun d => ∃ b, d = .bl b ∧ K b) : TK C B Γ (tB te) K := fun W H σ e Q q =>
  h W H σ e _ fun d v W1 H1 s1 r1 ⟨b, e0, h1⟩ => by
    subst e0; cases r1
    exact ⟨b, rfl, q b W1 H1 s1 h1⟩
theorem tk_and {K : Bool → Prop} (h : TK C B Γ t fun b => (b = true → TK C B Γ u K) ∧ (b = false → K false)) : TK C B Γ (tAnd t u) K := fun W H σ e Q q =>
  h W H σ e _ fun b W1 H1 s1 h1 => by
    cases b with
    | true =>
      show u σ H1 Q
      exact h1.1 rfl W1 H1 σ (e.step s1) Q fun c W2 H2 s2 k => q c W2 H2 (s1.trans s2) k
    | false => exact q false W1 H1 s1 (h1.2 rfl)
theorem tk_or {K : Bool → Prop} (h : TK C B Γ t fun b => (b = true → K true) ∧ (b = false → TK C B Γ u K)) : TK C B Γ (tOr t u) K := fun W H σ e Q q =>
  h W H σ e _ fun b W1 H1 s1 h1 => by
    cases b with
    | true => exact q true W1 H1 s1 (h1.1 rfl)
    | false =>
      show u σ H1 Q
      exact h1.2 rfl W1 H1 σ (e.step s1) Q fun c W2 H2 s2 k => q c W2 H2 (s1.trans s2) k
theorem tk_not {K : Bool → Prop} (h : TK C B Γ t fun b => K (!b)) : TK C B Γ (tNot t) K := fun W H σ e Q q => h W H σ e _ fun b W1 H1 s1 h1 => q (!b) W1 H1 s1 h1
theorem ek_andV (h : EK C B Γ ta fun d => ∃ b, d = .bl b ∧ (b = true → EK C B Γ tb K) ∧ (b = false → K (.bl false))) : EK C B Γ (tAndV ta tb) K := fun W H σ e Q q =>
  h W H σ e _ fun d v W1 H1 s1 r1 ⟨b, e0, h1⟩ => by
    subst e0; cases r1
    refine ⟨b, rfl, ?_⟩
    cases b with
    | true =>
      show tb σ H1 Q
      exact h1.1 rfl W1 H1 σ (e.step s1) Q fun d v W2 H2 s2 r k => q d v W2 H2 (s1.trans s2) r k
    | false => exact q _ _ W1 H1 s1 (.bl false) (h1.2 rfl)
theorem ek_orV (h : EK C B Γ ta fun d => ∃ b, d = .bl b ∧ (b = true → K (.bl true)) ∧ (b = false → EK C B Γ tb K)) : EK C B Γ (tOrV ta tb) K := fun W H σ e Q q =>
  h W H σ e _ fun d v W1 H1 s1 r1 ⟨b, e0, h1⟩ => by
    subst e0; cases r1
    refine ⟨b, rfl, ?_⟩
    cases b with
    | true => exact q _ _ W1 H1 s1 (.bl true) (h1.1 rfl)
    | false =>
      show tb σ H1 Q
      exact h1.2 rfl W1 H1 σ (e.step s1) Q fun d v W2 H2 s2 r k => q d v W2 H2 (s1.trans s2) r k
theorem ek_notV (h : EK C B Γ ta fun d => ∃ b, d = .bl b ∧ K (.bl (!b))) : EK C B Γ (tNotV ta) K := fun W H σ e Q q =>
  h W H σ e _ fun d v W1 H1 s1 r1 ⟨b, e0, h1⟩ => by
    subst e0; cases r1
    exact ⟨b, rfl, q _ _ W1 H1 s1 (.bl _) h1⟩
theorem ek_if (h : TK C B Γ t fun b => (b = true → EK C B Γ ta K) ∧ (b = false → EK C B Γ tb K)) : EK C B Γ (tIf t ta tb) K := fun W H σ e Q q =>
  h W H σ e _ fun b W1 H1 s1 h1 => by
    cases b with
    | true =>
      show ta σ H1 Q
      exact h1.1 rfl W1 H1 σ (e.step s1) Q fun d v W2 H2 s2 r k => q d v W2 H2 (s1.trans s2) r k
    | false =>
      show tb σ H1 Q
      exact h1.2 rfl W1 H1 σ (e.step s1) Q fun d v W2 H2 s2 r k => q d v W2 H2 (s1.trans s2) r k
/-- operations on data -/
theorem rk_I0 {g : Int → Int → V} {i j : Int} {d : D} (hg : ∀ W, Rep C B.P W (g i j) d) (k : K d) : RK C B (rI0 g) (.int i) (.int j) K := fun W H hw pl v1 v2 r1 r2 Q q => by
  cases r1; cases r2
  exact ⟨i, j, rfl, rfl, q d _ W H (.refl hw) (hg W) k⟩
theorem rk_I {Cd : Int → Int → Prop} {g : Int → Int → V} {i j : Int} {d : D} (hg : ∀ W, Rep C B.P W (g i j) d) (hc : Cd i j) (k : K d) : RK C B (rI Cd g) (.int i) (.int j) K := fun W H hw pl v1 v2 r1 r2 Q q => by
  cases r1; cases r2
  exact ⟨i, j, rfl, rfl, hc, q d _ W H (.refl hw) (hg W) k⟩
theorem RK.or1 {r r' : R2} {d1 d2 : D} (h : RK C B r d1 d2 K) : RK C B (fun x y H Q => r x y H Q ∨ r' x y H Q) d1 d2 K := fun W H hw pl v1 v2 r1 r2 Q q => .inl (h W H hw pl v1 v2 r1 r2 Q q)
theorem RK.or2 {r r' : R2} {d1 d2 : D} (h : RK C B r' d1 d2 K) : RK C B (fun x y H Q => r x y H Q ∨ r' x y H Q) d1 d2 K := fun W H hw pl v1 v2 r1 r2 Q q => .inr (h W H hw pl v1 v2 r1 r2 Q q)
theorem uk_I {g : Int → V} {i : Int} {d : D} (hg : ∀ W, Rep C B.P W (g i) d) (k : K d) : UK C B (rU g) (.int i) K := fun W H hw pl v1 r1 Q q => by
  cases r1
  exact ⟨i, rfl, q d _ W H (.refl hw) (hg W) k⟩
/-- scalars compared -/
def D.scal : D → Option V
  | .non => some .non
  | .bl b => some (.bl b)
  | .int i => some (.int i)
  | .str s => some (.str s)
  | _ => none
theorem rep_scal {P : Option Addr} {W : Hp} {v w : V} {d : D} (h : d.scal = some w) (r : Rep C P W v d) : v = w := by
  cases r <;> first | (cases h; rfl) | cases h
theorem rk_eq {d1 d2 : D} {v1 v2 : V} (h1 : d1.scal = some v1) (h2 : d2.scal = some v2) (hs : scal v1 v2 = true) (k : K (.bl (decide (v1 = v2)))) : RK C B rEq d1 d2 K := fun W H hw pl x y r1 r2 Q q => by
  rw [rep_scal h1 r1, rep_scal h2 r2]
  exact ⟨hs, q _ _ W H (.refl hw) (.bl _) k⟩
theorem rk_ne {d1 d2 : D} {v1 v2 : V} (h1 : d1.scal = some v1) (h2 : d2.scal = some v2) (hs : scal v1 v2 = true) (k : K (.bl (!decide (v1 = v2)))) : RK C B rNe d1 d2 K := fun W H hw pl x y r1 r2 Q q => by
  rw [rep_scal h1 r1, rep_scal h2 r2]
  exact ⟨hs, q _ _ W H (.refl hw) (.bl _) k⟩
end
end G
end

section
set_option maxRecDepth 100000
set_option maxHeartbeats 2000000
/-! the data layer: statements, loops, comprehensions -/
namespace G
open PySem PySem.Spec PyProof.Rows L2

structure Oc where
  nx : List Sl → Prop
  rt : D → Prop
  bk : List Sl → Prop := fun _ => False
  ct : List Sl → Prop := fun _ => False

section
variable (C : Cl) (B : Bs)
structure Sat (O : Oc) (D' : Ends) : Prop where
  nx : ∀ Γ W H σ, EnvOk C B W H σ Γ → O.nx Γ → D'.nx σ H
  rt : ∀ d v W H, Stp C B.P B.S B.W0 B.H0 W H → Rep C B.P W v d → O.rt d → D'.rt v H
  bk : ∀ Γ W H σ, EnvOk C B W H σ Γ → O.bk Γ → D'.bk σ H
  ct : ∀ Γ W H σ, EnvOk C B W H σ Γ → O.ct Γ → D'.ct σ H
def SK (Γ : List Sl) (ts : TS) (O : Oc) : Prop := ∀ W H σ, EnvOk C B W H σ Γ → ∀ D' : Ends, Sat C B O D' → ts D' σ H
/-- a target gets data -/
def GK (Γ : List Sl) (g : TG) (d : D) (K : List Sl → Prop) : Prop := ∀ W H σ v, EnvOk C B W H σ Γ → Rep C B.P W v d → ∀ Q : L2.St → Hp → Prop, (∀ Γ' W' H' σ', EnvOk C B W' H' σ' Γ' → K Γ' → Q σ' H') → g v σ H Q
def GKs (Γ : List Sl) (g : TGs) (l : List D) (K : List Sl → Prop) : Prop := ∀ W H σ vs, EnvOk C B W H σ Γ → RepL C B.P W vs l → ∀ Q : L2.St → Hp → Prop, (∀ Γ' W' H' σ', EnvOk C B W' H' σ' Γ' → K Γ' → Q σ' H') → g vs σ H Q
/-- targets that are names: the slots change, the heap does not -/
def GN (Γ : List Sl) (g : TG) (d : D) (T : List Nat) (K : List Sl → Prop) : Prop := ∀ W H σ v (ow : Nat → Addr), EnvOk C B W H σ Γ → (∀ i s, Γ[i]? = some s → s.isO = true → i ∉ T) → Owns C B W H σ Γ ow → Rep C B.P W v d → ∀ Q : L2.St → Hp → Prop, (∀ Γ' σ', EnvOk C B W H σ' Γ' → Owns C B W H σ' Γ' ow → (∀ vs : List Nat, (∀ i ∈ T, i ∈ vs) → L2.wipe σ' vs = L2.wipe σ vs) → K Γ' → Q σ' H) → g v σ H Q
/-- what an iterator yields -/
structure Yl (J : It) (W1 : Hp) (l : List D) : Prop where
  stop : ∀ H, Same W1 H → J.stop l.length H
  go : ∀ i W H, i < l.length → Same W1 W → Same W H → PlOk C B.P W H → J.go i H ∧ ∀ x H', J.yld i H x H' → ∃ W' d, Stp C B.P none W H W' H' ∧ l[i]? = some d ∧ Rep C B.P W' x d
def IK (Γ : List Sl) (wi : TI) (K : List D → Prop) : Prop := ∀ W H σ, EnvOk C B W H σ Γ → ∀ R : It → Hp → Prop, (∀ J W' H' l, Stp C B.P none W H W' H' → Yl C B J W' l → K l → R J H') → wi σ H R
end

section
variable {C : Cl} {B : Bs} {Γ : List Sl} {ta tb te : TE} {tt : TT} {t u : TS} {O : Oc} {K : D → Prop}
theorem SK.mono {O' : Oc} (h : SK C B Γ t O) (n : ∀ Γ, O.nx Γ → O'.nx Γ) (r : ∀ d, O.rt d → O'.rt d) (b : ∀ Γ, O.bk Γ → O'.bk Γ) (c : ∀ Γ, O.ct Γ → O'.ct Γ) : SK C B Γ t O' := fun W H σ e D' s =>
  h W H σ e D' ⟨fun Γ W H σ e z => s.nx Γ W H σ e (n Γ z), fun d v W H e r' z => s.rt d v W H e r' (r d z), fun Γ W H σ e z => s.bk Γ W H σ e (b Γ z), fun Γ W H σ e z => s.ct Γ W H σ e (c Γ z)⟩
theorem sk_seq (h : SK C B Γ t { O with nx := fun Γ' => SK C B Γ' u O }) : SK C B Γ (tSeq t u) O := fun W H σ e D' s =>
  h W H σ e { D' with nx := u D' } ⟨fun Γ W H σ e z => z W H σ e D' s, s.rt, s.bk, s.ct⟩
/-- with a word between -/
theorem sk_cut (M : List Sl → Prop) (h : SK C B Γ t { O with nx := M }) (k : ∀ Γ', M Γ' → SK C B Γ' u O) : SK C B Γ (tSeq t u) O :=
  sk_seq (h.mono k (fun _ z => z) (fun _ z => z) (fun _ z => z))
theorem sk_next (h : O.nx Γ) : SK C B Γ tNext O := fun W H σ e D' s => s.nx Γ W H σ e h
theorem sk_break (h : O.bk Γ) : SK C B Γ tBreak O := fun W H σ e D' s => s.bk Γ W H σ e h
theorem sk_cont (h : O.ct Γ) : SK C B Γ tCont O := fun W H σ e D' s => s.ct Γ W H σ e h
theorem sk_weak {Γ' : List Sl} (w : Wk Γ Γ') (h : SK C B Γ' t O) : SK C B Γ t O := fun W H σ e D' s => h W H σ (e.weak w) D' s
theorem sk_freeze (i : Nat) {l : List D} (hs : Γ[i]? = some (.own l)) (h : SK C B (Γ.set i (.d (.lst l))) t O) : SK C B Γ t O := fun W H σ e D' s => by
  obtain ⟨W', _, e'⟩ := e.freeze hs
  exact h W' H σ e' D' s
theorem sk_asg {g : TG} (h : EK C B Γ te fun d => GK C B Γ g d O.nx) : SK C B Γ (tAsg te g) O := fun W H σ e D' s =>
  h W H σ e _ fun d v W1 H1 s1 r1 k => k W1 H1 σ v (e.step s1) r1 D'.nx fun Γ' W' H' σ' e' z => s.nx Γ' W' H' σ' e' z
theorem gk_name {i : Nat} {d : D} {K : List Sl → Prop} (k : K (Γ.set i (.d d))) (hi : Nat.blt i Γ.length = true := by rfl) : GK C B Γ (gName i) d K := fun W H σ v e r Q q =>
  q _ W H _ (e.setD (Nat.le_of_ble_eq_true hi) r) k
theorem gk_tup {KK : PySem.W.Frag} {n : Nat} {gs : TGs} {d : D} {K : List Sl → Prop} (h : ∃ l, d = .tup l ∧ l.length = n ∧ GKs C B Γ gs l K) : GK C B Γ (gTup KK n gs) d K := fun W H σ v e r Q q => by
  obtain ⟨l, rfl, hn, k⟩ := h
  cases r with
  | tup ha rl => exact ⟨_, _, rfl, SqT.of (e.wh _ _ ha), rl.length.trans hn, k W H σ _ e rl Q q⟩
theorem gk_tupL {KK : PySem.W.Frag} {n : Nat} {gs : TGs} {l : List D} {K : List Sl → Prop} (hn : l.length = n) (h : GKs C B Γ gs l K) : GK C B Γ (gTup KK n gs) (.tup l) K := gk_tup ⟨l, rfl, hn, h⟩
theorem gks_nil {K : List Sl → Prop} (k : K Γ) : GKs C B Γ gNil [] K := fun W H σ vs e r Q q => by
  cases r
  exact ⟨rfl, q Γ W H σ e k⟩
theorem RepL.later {P : Option Addr} {W W' : Hp} {vs : List V} {l : List D} (h : RepL C P W vs l) (s : Same W W') : RepL C P W' vs l := h.mono s
theorem gks_cons {gs : TGs} {d : D} {l : List D} {i : Nat} {K : List Sl → Prop} (h : GKs C B (Γ.set i (.d d)) gs l K) (hi : Nat.blt i Γ.length = true := by rfl) : GKs C B Γ (gCons (gName i) gs) (d :: l) K := fun W H σ vs e r Q q => by
  cases r with
  | cons r1 r2 => exact ⟨_, _, rfl, h W H _ _ (e.setD (Nat.le_of_ble_eq_true hi) r1) r2 Q q⟩
/-- a tuple within -/
theorem gks_consT {KK : PySem.W.Frag} {n i j : Nat} {gs : TGs} {x y : D} {l : List D} {K : List Sl → Prop} (h : GKs C B ((Γ.set i (.d x)).set j (.d y)) gs l K) (hi : Nat.blt i Γ.length = true := by rfl) (hj : Nat.blt j Γ.length = true := by rfl) :
    GKs C B Γ (gCons (gTup KK 2 (gCons (gName i) (gCons (gName j) gNil))) gs) (.tup [x, y] :: l) K := fun W H σ vs e r Q q => by
  cases r with
  | cons r1 r2 =>
    cases r1 with
    | tup ha rl =>
      cases rl with
      | cons q1 rl =>
        cases rl with
        | cons q2 rl =>
          cases rl
          refine ⟨_, _, rfl, _, _, rfl, SqT.of (e.wh _ _ ha), rfl, ⟨_, _, rfl, _, _, rfl, rfl, ?_⟩⟩
          exact h W H _ _ ((e.setD (Nat.le_of_ble_eq_true hi) q1).setD (by rw [List.length_set]; exact Nat.le_of_ble_eq_true hj) q2) r2 Q q
/-- own[i] = v -/
theorem gk_sub {i : Nat} {l : List D} {ti : TE} {d : D} {K : List Sl → Prop} (hs : Γ[i]? = some (.own l)) (h : EK C B Γ ti fun d2 => ∃ k j, d2 = .int k ∧ ixN l.length k = some j ∧ K (Γ.set i (.own (l.set j d)))) : GK C B Γ (gSub (tVar i) ti rSetL) d K := fun W H σ v e r Q q => by
  obtain ⟨ow, o⟩ := e.ow
  obtain ⟨h1, vs, h2, h3⟩ := o.ok i _ hs
  refine ⟨_, getD_some h1, h W H σ e _ fun d2 v2 W2 H2 s2 r2 ⟨k, j, e2, hj, kx⟩ => ?_⟩
  subst e2
  cases r2
  have o2 := o.step s2
  obtain ⟨h1', vs', h2', h3'⟩ := o2.ok i _ hs
  refine ⟨ow i, vs', k, j, rfl, rfl, h2', by rw [h3'.length]; exact hj, ?_⟩
  obtain ⟨ow2, o3, f⟩ := (e.step s2).chg (u := .lst (vs'.set j v)) (t := .own (l.set j d)) hs rfl rfl rfl
  have ee : ow2 i = ow i := by
    obtain ⟨g1, _⟩ := o3.ok i _ hs
    rw [h1] at g1
    injection g1 with g1
    injection g1 with g1
    exact g1.symm
  rw [ee] at f
  exact q _ W2 _ σ (f ⟨h1, vs'.set j v, upd_same, h3'.set (r.mono s2.ww) j⟩) kx
theorem sk_asgO {i : Nat} (h : EF C B Γ te fun l => O.nx (Γ.set i (.own l))) (hi : Nat.blt i Γ.length = true := by rfl) : SK C B Γ (tAsg te (gName i)) O := fun W H σ e D' s =>
  h W H σ e _ fun l a vs W1 H1 s1 ha hW hh r1 k => by
    obtain ⟨ow, o⟩ := e.ow
    refine s.nx _ W1 H1 _ ((e.step s1).setO (Nat.le_of_ble_eq_true hi) (e.stp.free ha) hW (fun z => e.pl.ne a z ha) ⟨ow, o.step s1, o.ne ha⟩ hh r1) k
theorem sk_ret (h : EK C B Γ te O.rt) : SK C B Γ (tRet te) O := fun W H σ e D' s =>
  h W H σ e _ fun d v W1 H1 s1 r1 k => s.rt d v W1 H1 (e.stp.trans s1.self) r1 k
theorem sk_drop (h : EK C B Γ te fun _ => O.nx Γ) : SK C B Γ (tDrop te) O := fun W H σ e D' s =>
  h W H σ e _ fun d v W1 H1 s1 r1 k => s.nx Γ W1 H1 σ (e.step s1) k
theorem sk_if (h : TK C B Γ tt fun b => (b = true → SK C B Γ t O) ∧ (b = false → SK C B Γ u O)) : SK C B Γ (tIfS tt t u) O := fun W H σ e D' s =>
  h W H σ e _ fun b W1 H1 s1 k => by
    cases b with
    | true => exact k.1 rfl W1 H1 σ (e.step s1) D' s
    | false => exact k.2 rfl W1 H1 σ (e.step s1) D' s
theorem sk_append {KK : PySem.W.Frag} {i : Nat} {l : List D} (hs : Γ[i]? = some (.own l)) (h : EK C B Γ te fun d => l.length < sizeLine ∧ O.nx (Γ.set i (.own (l ++ [d])))) :
    SK C B Γ (tDrop (tBM KK "list" rAppend (tVar i) (tCons te tNil))) O := fun W H σ e D' s => by
  obtain ⟨ow, o⟩ := e.ow
  obtain ⟨h1, vs, h2, h3⟩ := o.ok i _ hs
  refine ⟨_, getD_some h1, .inl ⟨rfl, _, SqL.of h2⟩, h W H σ e _ fun d v W1 H1 s1 r1 ⟨hz, k⟩ => ?_⟩
  have o2 := o.step s1
  obtain ⟨h1', vs', h2', h3'⟩ := o2.ok i _ hs
  refine ⟨ow i, vs', v, rfl, rfl, h2', by rw [h3'.length]; exact hz, ?_⟩
  obtain ⟨ow2, o3, f⟩ := (e.step s1).chg (u := .lst (vs' ++ [v])) (t := .own (l ++ [d])) hs rfl rfl rfl
  have ee : ow2 i = ow i := by
    obtain ⟨g1, _⟩ := o3.ok i _ hs
    rw [h1] at g1
    injection g1 with g1
    injection g1 with g1
    exact g1.symm
  rw [ee] at f
  exact s.nx _ W1 _ σ (f ⟨h1, vs' ++ [v], upd_same, h3'.append (.one r1)⟩) k
/-- loops -/
theorem sk_for {wi : TI} {g : TG} (h : IK C B Γ wi fun l => ∃ I : Nat → List Sl → Prop, I 0 Γ ∧
      (∀ W1 i d Γ', l[i]? = some d → I i Γ' → GK C (B.keep W1) Γ' g d fun Γ2 => SK C (B.keep W1) Γ2 t { O with nx := I (i + 1), ct := I (i + 1), bk := O.nx }) ∧ ∀ Γ', I l.length Γ' → O.nx Γ') : SK C B Γ (tFor wi g t) O := fun W H σ e D' s =>
  h W H σ e _ fun J W1 H1 l s1 y ⟨I, i0, hs, hd⟩ => by
    have e1 := e.step s1
    refine ⟨fun i m σ H => m = l.length - i ∧ i ≤ l.length ∧ ∃ W2 Γ2, EnvOk C (B.keep W1) W2 H σ Γ2 ∧ I i Γ2, ⟨l.length, rfl, Nat.zero_le _, W1, Γ, e1.keep W1 (.refl _), i0⟩, ?_⟩
    rintro i m σ2 H2 ⟨rfl, hi, W2, Γ2, e2, i2⟩
    have e3 : EnvOk C B W2 H2 σ2 Γ2 := e2.unkeep e1.kp
    by_cases hlt : i < l.length
    · obtain ⟨y1, y2⟩ := y.go i W2 H2 hlt e2.kp e2.wh e2.pl
      refine .inr ⟨y1, fun σ' H' => ∃ W2 Γ2, EnvOk C (B.keep W1) W2 H' σ' Γ2 ∧ I (i + 1) Γ2, fun σ' H' z => ⟨l.length - (i + 1), by omega, rfl, hlt, z⟩, fun x H3 hy => ?_⟩
      obtain ⟨W3, d, s3, hd', r3⟩ := y2 x H3 hy
      refine hs W1 i d Γ2 hd' i2 W3 H3 σ2 x (e2.step s3) r3 _ fun Γ4 W4 H4 σ4 e4 k4 => ?_
      exact k4 W4 H4 σ4 e4 _ ⟨fun Γ5 W5 H5 σ5 e5 z => ⟨W5, Γ5, e5, z⟩, fun d v W5 H5 s5 r5 z => s.rt d v W5 H5 s5 r5 z, fun Γ5 W5 H5 σ5 e5 z => s.nx Γ5 W5 H5 σ5 (e5.unkeep e1.kp) z, fun Γ5 W5 H5 σ5 e5 z => ⟨W5, Γ5, e5, z⟩⟩
    · have hh : i = l.length := by omega
      subst hh
      exact .inl ⟨y.stop H2 (e2.kp.trans e2.wh), s.nx Γ2 W2 H2 σ2 e3 (hd Γ2 i2)⟩
theorem sk_while {tc : TT} (I : Nat → List Sl → Prop) (h0 : ∃ m, I m Γ) (hs : ∀ m Γ', I m Γ' → TK C B Γ' tc fun b => (b = true → SK C B Γ' t { O with nx := fun Γ2 => ∃ m', m' < m ∧ I m' Γ2, ct := fun Γ2 => ∃ m', m' < m ∧ I m' Γ2, bk := O.nx }) ∧ (b = false → O.nx Γ')) :
    SK C B Γ (tWhile tc t) O := fun W H σ e D' s => by
  obtain ⟨m0, i0⟩ := h0
  refine ⟨fun m σ H => ∃ W2 Γ2, EnvOk C B W2 H σ Γ2 ∧ I m Γ2, ⟨m0, W, Γ, e, i0⟩, ?_⟩
  rintro m σ2 H2 ⟨W2, Γ2, e2, i2⟩
  refine hs m Γ2 i2 W2 H2 σ2 e2 _ fun b W3 H3 s3 k => ?_
  have e3 := e2.step s3
  cases b with
  | true =>
    rw [if_pos rfl]
    refine ⟨fun σ' H' => ∃ m', m' < m ∧ ∃ W2 Γ2, EnvOk C B W2 H' σ' Γ2 ∧ I m' Γ2, fun σ' H' z => z, k.1 rfl W3 H3 σ2 e3 _ ⟨fun Γ5 W5 H5 σ5 e5 ⟨m', z, z2⟩ => ⟨m', z, W5, Γ5, e5, z2⟩, fun d v W5 H5 s5 r5 z => s.rt d v W5 H5 s5 r5 z, fun Γ5 W5 H5 σ5 e5 z => s.nx Γ5 W5 H5 σ5 e5 z, fun Γ5 W5 H5 σ5 e5 ⟨m', z, z2⟩ => ⟨m', z, W5, Γ5, e5, z2⟩⟩⟩
  | false =>
    rw [if_neg Bool.false_ne_true]
    exact s.nx Γ2 W3 H3 σ2 e3 (k.2 rfl)
/-- what is walked -/
theorem yl_list {KK : PySem.W.Frag} {W1 : Hp} {a : Addr} {vs : List V} {l : List D} (ha : W1 a = some (.lst vs)) (r : RepL C B.P W1 vs l) : Yl C B (Itl KK a) W1 l where
  stop := fun H s => ⟨vs, SqL.of (s _ _ ha), Nat.le_of_eq r.length⟩
  go := fun i W H hi s1 s2 pl => by
    have hv : i < vs.length := by rw [r.length]; exact hi
    refine ⟨⟨vs, vs[i], SqL.of (s2 _ _ (s1 _ _ ha)), by simp [hv]⟩, fun x H' ⟨e, y⟩ => ?_⟩
    subst e
    obtain ⟨d, h1, h2⟩ := (r.mono s1).getV (y vs (SqL.of (s2 _ _ (s1 _ _ ha))))
    exact ⟨W, d, .refl s2, h1, h2⟩
theorem yl_tup {KK : PySem.W.Frag} {W1 : Hp} {a : Addr} {vs : List V} {l : List D} (ha : W1 a = some (.tup vs)) (r : RepL C B.P W1 vs l) : Yl C B (Itt KK a) W1 l where
  stop := fun H s => ⟨vs, SqT.of (s _ _ ha), Nat.le_of_eq r.length⟩
  go := fun i W H hi s1 s2 pl => by
    have hv : i < vs.length := by rw [r.length]; exact hi
    refine ⟨⟨vs, vs[i], SqT.of (s2 _ _ (s1 _ _ ha)), by simp [hv]⟩, fun x H' ⟨e, y⟩ => ?_⟩
    subst e
    obtain ⟨d, h1, h2⟩ := (r.mono s1).getV (y vs (SqT.of (s2 _ _ (s1 _ _ ha))))
    exact ⟨W, d, .refl s2, h1, h2⟩
def rangeD (lo : Int) (n : Nat) : List D := (List.range n).map fun (k : Nat) => .int (lo + (k : Int))
theorem yl_range {W1 : Hp} {lo : Int} {n : Nat} : Yl C B (Itr lo n) W1 (rangeD lo n) where
  stop := fun H s => by show n ≤ _; simp [rangeD]
  go := fun i W H hi s1 s2 pl => by
    have hi' : i < n := by simpa [rangeD] using hi
    refine ⟨hi', fun x H' ⟨e, y⟩ => ?_⟩
    subst e; subst y
    exact ⟨W, .int (lo + i), .refl s2, by simp [rangeD, hi'], .int _⟩
/-- a list or a tuple, by the universal rule -/
def iAny (KK : PySem.W.Frag) (te : TE) : TI := fun σ H R => iList KK te σ H R ∨ iTup KK te σ H R
theorem pi_any {X : Cx} {tg l : Expr} {tl : TE} (hl : PE X l tl) : PI X tg l (iAny X.K tl) := ⟨fun pins s σ H R I h => by
  rcases h with h | h
  · exact (pi_list hl).run pins s σ H R I h
  · exact (pi_tup hl).run pins s σ H R I h⟩
end
end G
end

section
set_option maxRecDepth 100000
set_option maxHeartbeats 2000000
/-! the data layer: what is walked, comprehensions, built-ins -/
namespace G
open PySem PySem.Spec PyProof.Rows L2

/-- a list or a tuple, by the value -/
def iSeq (KK : PySem.W.Frag) (te : TE) : TI := fun σ H R => te σ H fun x H1 => ∃ a, x = .ref a ∧ (((∃ xs, SqL KK H1 a xs) ∧ R (Itl KK a) H1) ∨ ((∃ xs, SqT KK H1 a xs) ∧ R (Itt KK a) H1))
theorem pi_seq {X : Cx} {tg l : Expr} {tl : TE} (hl : PE X l tl) : PI X tg l (iSeq X.K tl) := by
  refine ⟨fun pins s σ H R I h => ?_⟩
  refine thn (hl.run pins s σ H _ I h) fun v s1 ⟨x, H1, I1, r1, q1⟩ => ?_
  obtain ⟨a, e, q⟩ := q1
  subst e
  cases r1
  rcases q with ⟨⟨xs, hq⟩, q⟩ | ⟨⟨xs, hq⟩, q⟩
  · obtain ⟨its, rv, p, hz⟩ := I1.list hq
    refine wpAny_pyIter_list p.isList ?_
    refine ⟨s1.heap.objs.size, [s1.heap.objs.size], _, _, H1, rfl, I1.kept (t' := s1.toks) fun b o e => Heap.get?_push_of_some _ e, turn_list a _, ⟨_, Heap.get?_push_size _ rfl, rfl, rfl⟩, fun b hb => ?_, q⟩
    have e : b = s1.heap.objs.size := by simpa using hb
    subst e
    exact I1.fpOk (Nat.le_refl _) (I1.hok.fresh (Nat.le_refl _))
  · obtain ⟨its, rv, p, hz⟩ := I1.tuple hq
    refine wpAny_pyIter_tuple (show s1.heap.IsTuple a its.toArray from p) ?_
    refine ⟨s1.heap.objs.size, [s1.heap.objs.size], _, _, H1, rfl, I1.kept (t' := s1.toks) fun b o e => Heap.get?_push_of_some _ e, turn_tuple a _, ⟨_, Heap.get?_push_size _ rfl, rfl, rfl⟩, fun b hb => ?_, q⟩
    have e : b = s1.heap.objs.size := by simpa using hb
    subst e
    exact I1.fpOk (Nat.le_refl _) (I1.hok.fresh (Nat.le_refl _))

def enumD (l : List D) : List D := l.zipIdx.map fun p => .tup [.int (p.2 : Nat), p.1]
def zipD (l m : List D) : List D := (l.zip m).map fun p => .tup [p.1, p.2]

section
variable {C : Cl} {B : Bs} {Γ : List Sl} {ta tb te : TE} {K : List D → Prop} {KK : PySem.W.Frag}
theorem ik_seq (h : EK C B Γ te fun d => ∃ k l, d = Kd.d k l ∧ K l) : IK C B Γ (iSeq KK te) K := fun W H σ e R q =>
  h W H σ e _ fun d v W1 H1 s1 r1 ⟨k, l, e0, h1⟩ => by
    cases k with
    | l =>
      subst e0
      cases r1 with
      | lst ha r => exact ⟨_, rfl, .inl ⟨⟨_, SqL.of (s1.wh _ _ ha)⟩, q _ W1 H1 l s1 (yl_list ha r) h1⟩⟩
    | t =>
      subst e0
      cases r1 with
      | tup ha r => exact ⟨_, rfl, .inr ⟨⟨_, SqT.of (s1.wh _ _ ha)⟩, q _ W1 H1 l s1 (yl_tup ha r) h1⟩⟩
/-- the script -/
theorem yl_raw {W1 : Hp} {a : Addr} {o : Obj} {vs : List V} {l : List D} (ha : W1 a = some (.frz o (.lst vs))) (r : RepL C B.P W1 vs l) : Yl C B (Itl KK a) W1 l where
  stop := fun H s => ⟨vs, .inl (.inr ⟨o, s _ _ ha⟩), Nat.le_of_eq r.length⟩
  go := fun i W H hi s1 s2 pl => by
    have hv : i < vs.length := by rw [r.length]; exact hi
    have q : SqL KK H a vs := .inl (.inr ⟨o, s2 _ _ (s1 _ _ ha)⟩)
    refine ⟨⟨vs, vs[i], q, by simp [hv]⟩, fun x H' ⟨e, y⟩ => ?_⟩
    subst e
    obtain ⟨d, h1, h2⟩ := (r.mono s1).getV (y vs q)
    exact ⟨W, d, .refl s2, h1, h2⟩
theorem ik_raw (h : EK C B Γ te fun d => ∃ l, d = .raw l ∧ K l) : IK C B Γ (iSeq KK te) K := fun W H σ e R q =>
  h W H σ e _ fun d v W1 H1 s1 r1 ⟨l, e0, h1⟩ => by
    subst e0
    cases r1 with
    | raw ha r => exact ⟨_, rfl, .inl ⟨⟨_, .inl (.inr ⟨_, s1.wh _ _ ha⟩)⟩, q _ W1 H1 l s1 (yl_raw ha r) h1⟩⟩
theorem ik_range1 {ta : TA} (h : AK C B Γ ta fun l => ∃ j : Int, l = [.int j] ∧ -(2 ^ 62) ≤ j ∧ j < 2 ^ 62 ∧ K (rangeD 0 j.toNat)) : IK C B Γ (iRng1 ta) K := fun W H σ e R q =>
  h W H σ e _ fun l vs W1 H1 s1 r1 ⟨j, e0, h1, h2, k⟩ => by
    subst e0
    cases r1 with
    | cons r rr =>
      cases r; cases rr
      exact ⟨j, rfl, h1, h2, q _ W1 H1 _ s1 yl_range k⟩
theorem ik_range2 {ta : TA} (h : AK C B Γ ta fun l => ∃ i j : Int, l = [.int i, .int j] ∧ (-(2 ^ 62) ≤ i ∧ i < 2 ^ 62 ∧ -(2 ^ 62) ≤ j ∧ j < 2 ^ 62) ∧ K (rangeD i (j - i).toNat)) : IK C B Γ (iRng2 ta) K := fun W H σ e R q =>
  h W H σ e _ fun l vs W1 H1 s1 r1 ⟨i, j, e0, h1, k⟩ => by
    subst e0
    cases r1 with
    | cons r rr =>
      cases r
      cases rr with
      | cons r rr =>
        cases r; cases rr
        exact ⟨i, j, rfl, h1, q _ W1 H1 _ s1 yl_range k⟩
theorem yl_enum {W1 : Hp} {a : Addr} {vs : List V} {l : List D} (ha : W1 a = some (.lst vs)) (r : RepL C B.P W1 vs l) : Yl C B (Ite KK a) W1 (enumD l) where
  stop := fun H s => ⟨vs, SqL.of (s _ _ ha), by simp [enumD, r.length]⟩
  go := fun i W H hi s1 s2 pl => by
    have hi' : i < l.length := by simpa [enumD] using hi
    have hv : i < vs.length := by rw [r.length]; exact hi'
    refine ⟨⟨vs, vs[i], SqL.of (s2 _ _ (s1 _ _ ha)), by simp [hv]⟩, fun x H' ⟨T, x0, e1, e2, e3, y⟩ => ?_⟩
    subst e1; subst e3
    obtain ⟨d, h1, h2⟩ := (r.mono s1).getV (y vs (SqL.of (s2 _ _ (s1 _ _ ha))))
    have st := Stp.new (C := C) (P := B.P) (S := none) (o := .tup [.int (i : Nat), x0]) s2 e2 pl.ne
    exact ⟨_, .tup [.int (i : Nat), d], st, by simp [enumD, h1], .tup upd_same (.cons (.int _) (.one (h2.mono st.ww)))⟩
theorem ik_enum {ta : TA} (h : AK C B Γ ta fun l => ∃ xs, l = [.lst xs] ∧ K (enumD xs)) : IK C B Γ (iEnum KK ta) K := fun W H σ e R q =>
  h W H σ e _ fun l vs W1 H1 s1 r1 ⟨xs, e0, k⟩ => by
    subst e0
    cases r1 with
    | cons r rr =>
      cases rr
      cases r with
      | lst ha r => exact ⟨_, _, rfl, SqL.of (s1.wh _ _ ha), q _ W1 H1 _ s1 (yl_enum ha r) k⟩
theorem yl_zipL {W1 : Hp} {a b : Addr} {vs ws : List V} {l m : List D} (ha : W1 a = some (.lst vs)) (hb : W1 b = some (.lst ws)) (r : RepL C B.P W1 vs l) (r2 : RepL C B.P W1 ws m) : Yl C B (Itz KK a b) W1 (zipD l m) where
  stop := fun H s => ⟨vs, ws, SqL.of (s _ _ ha), SqL.of (s _ _ hb), by
    simp only [zipD, List.length_map, List.length_zip, r.length, r2.length]
    omega⟩
  go := fun i W H hi s1 s2 pl => by
    have hi' : i < l.length ∧ i < m.length := by
      simp only [zipD, List.length_map, List.length_zip] at hi
      omega
    have hv : i < vs.length := by rw [r.length]; exact hi'.1
    have hw : i < ws.length := by rw [r2.length]; exact hi'.2
    refine ⟨⟨vs, ws, vs[i], ws[i], SqL.of (s2 _ _ (s1 _ _ ha)), SqL.of (s2 _ _ (s1 _ _ hb)), by simp [hv], by simp [hw]⟩, fun x H' ⟨T, x0, y0, e1, e2, e3, y, z⟩ => ?_⟩
    subst e1; subst e3
    obtain ⟨d, h1, h2⟩ := (r.mono s1).getV (y vs (SqL.of (s2 _ _ (s1 _ _ ha))))
    obtain ⟨d', h3, h4⟩ := (r2.mono s1).getV (z ws (SqL.of (s2 _ _ (s1 _ _ hb))))
    have st := Stp.new (C := C) (P := B.P) (S := none) (o := .tup [x0, y0]) s2 e2 pl.ne
    exact ⟨_, .tup [d, d'], st, by simp [zipD, List.getElem?_zip_eq_some, h1, h3], .tup upd_same (.cons (h2.mono st.ww) (.one (h4.mono st.ww)))⟩
theorem yl_zipT {W1 : Hp} {a b : Addr} {vs ws : List V} {l m : List D} (ha : W1 a = some (.tup vs)) (hb : W1 b = some (.tup ws)) (r : RepL C B.P W1 vs l) (r2 : RepL C B.P W1 ws m) : Yl C B (RZ.ItzT KK a b) W1 (zipD l m) where
  stop := fun H s => ⟨vs, ws, SqT.of (s _ _ ha), SqT.of (s _ _ hb), by
    simp only [zipD, List.length_map, List.length_zip, r.length, r2.length]
    omega⟩
  go := fun i W H hi s1 s2 pl => by
    have hi' : i < l.length ∧ i < m.length := by
      simp only [zipD, List.length_map, List.length_zip] at hi
      omega
    have hv : i < vs.length := by rw [r.length]; exact hi'.1
    have hw : i < ws.length := by rw [r2.length]; exact hi'.2
    refine ⟨⟨vs, ws, vs[i], ws[i], SqT.of (s2 _ _ (s1 _ _ ha)), SqT.of (s2 _ _ (s1 _ _ hb)), by simp [hv], by simp [hw]⟩, fun x H' ⟨T, x0, y0, e1, e2, e3, y, z⟩ => ?_⟩
    subst e1; subst e3
    obtain ⟨d, h1, h2⟩ := (r.mono s1).getV (y vs (SqT.of (s2 _ _ (s1 _ _ ha))))
    obtain ⟨d', h3, h4⟩ := (r2.mono s1).getV (z ws (SqT.of (s2 _ _ (s1 _ _ hb))))
    have st := Stp.new (C := C) (P := B.P) (S := none) (o := .tup [x0, y0]) s2 e2 pl.ne
    exact ⟨_, .tup [d, d'], st, by simp [zipD, List.getElem?_zip_eq_some, h1, h3], .tup upd_same (.cons (h2.mono st.ww) (.one (h4.mono st.ww)))⟩
theorem ik_zip {ta : TA} (h : AK C B Γ ta fun l => ∃ k xs ys, l = [Kd.d k xs, Kd.d k ys] ∧ K (zipD xs ys)) : IK C B Γ (RZ.iZipA KK ta) K := fun W H σ e R q =>
  h W H σ e _ fun l vs W1 H1 s1 r1 ⟨k, xs, ys, e0, kk⟩ => by
    subst e0
    cases r1 with
    | cons r rr =>
      cases rr with
      | cons r' rr =>
        cases rr
        cases k with
        | l =>
          cases r with
          | lst ha r =>
            cases r' with
            | lst hb r2 => exact ⟨_, _, _, _, rfl, .inl ⟨SqL.of (s1.wh _ _ ha), SqL.of (s1.wh _ _ hb), q _ W1 H1 _ s1 (yl_zipL ha hb r r2) kk⟩⟩
        | t =>
          cases r with
          | tup ha r =>
            cases r' with
            | tup hb r2 => exact ⟨_, _, _, _, rfl, .inr ⟨SqT.of (s1.wh _ _ ha), SqT.of (s1.wh _ _ hb), q _ W1 H1 _ s1 (yl_zipT ha hb r r2) kk⟩⟩
theorem rev_at {α : Type} {l : List α} {i : Nat} (h : i < l.length) : l.reverse[i]? = l[l.length - 1 - i]? := List.getElem?_reverse h
theorem yl_revL {W1 : Hp} {a : Addr} {vs : List V} {l : List D} (ha : W1 a = some (.lst vs)) (r : RepL C B.P W1 vs l) : Yl C B (Itv KK a vs.length) W1 l.reverse where
  stop := fun H s => by show vs.length ≤ _; rw [List.length_reverse, r.length]; exact Nat.le_refl _
  go := fun i W H hi s1 s2 pl => by
    have hi' : i < l.length := by simpa using hi
    have hv : vs.length - 1 - i < vs.length := by have := r.length; omega
    refine ⟨⟨by rw [r.length]; exact hi', vs, vs[vs.length - 1 - i], SqL.of (s2 _ _ (s1 _ _ ha)), by simp [hv]⟩, fun x H' ⟨e, y⟩ => ?_⟩
    subst e
    obtain ⟨d, h1, h2⟩ := (r.mono s1).getV (y vs (SqL.of (s2 _ _ (s1 _ _ ha))))
    exact ⟨W, d, .refl s2, by rw [rev_at hi', ← r.length]; exact h1, h2⟩
theorem yl_revT {W1 : Hp} {a : Addr} {vs : List V} {l : List D} (ha : W1 a = some (.tup vs)) (r : RepL C B.P W1 vs l) : Yl C B (RT.ItvT KK a vs.length) W1 l.reverse where
  stop := fun H s => by show vs.length ≤ _; rw [List.length_reverse, r.length]; exact Nat.le_refl _
  go := fun i W H hi s1 s2 pl => by
    have hi' : i < l.length := by simpa using hi
    have hv : vs.length - 1 - i < vs.length := by have := r.length; omega
    refine ⟨⟨by rw [r.length]; exact hi', vs, vs[vs.length - 1 - i], SqT.of (s2 _ _ (s1 _ _ ha)), by simp [hv]⟩, fun x H' ⟨e, y⟩ => ?_⟩
    subst e
    obtain ⟨d, h1, h2⟩ := (r.mono s1).getV (y vs (SqT.of (s2 _ _ (s1 _ _ ha))))
    exact ⟨W, d, .refl s2, by rw [rev_at hi', ← r.length]; exact h1, h2⟩
theorem ik_rev (h : EK C B Γ te fun d => ∃ k l, d = Kd.d k l ∧ K l.reverse) : IK C B Γ (RT.iRevA KK te) K := fun W H σ e R q =>
  h W H σ e _ fun d v W1 H1 s1 r1 ⟨k, l, e0, h1⟩ => by
    cases k with
    | l =>
      subst e0
      cases r1 with
      | lst ha r => exact ⟨_, _, rfl, .inl ⟨SqL.of (s1.wh _ _ ha), q _ W1 H1 _ s1 (yl_revL ha r) h1⟩⟩
    | t =>
      subst e0
      cases r1 with
      | tup ha r => exact ⟨_, _, rfl, .inr ⟨SqT.of (s1.wh _ _ ha), q _ W1 H1 _ s1 (yl_revT ha r) h1⟩⟩

/-! ### comprehensions -/
theorem wipe_set {σ : L2.St} {x : Option V} : ∀ {vs : List Nat} {i : Nat}, i ∈ vs → L2.wipe (σ.set i x) vs = L2.wipe σ vs
  | [], i, h => by cases h
  | v :: vs, i, h => by
    show (L2.wipe (σ.set i x) vs).set v none = (L2.wipe σ vs).set v none
    by_cases hv : v = i
    · subst hv
      have : ∀ (ws : List Nat) (τ : L2.St), (L2.wipe (τ.set v x) ws).set v none = (L2.wipe τ ws).set v none := by
        intro ws
        induction ws with
        | nil => intro τ; show (τ.set v x).set v none = τ.set v none; rw [List.set_set]
        | cons w ws ih =>
          intro τ
          show ((L2.wipe (τ.set v x) ws).set w none).set v none = ((L2.wipe τ ws).set w none).set v none
          by_cases hw : w = v
          · subst hw; rw [ih]
          · rw [List.set_comm _ _ hw, ih, List.set_comm _ _ (Ne.symm hw)]
      exact this vs σ
    · rcases List.mem_cons.mp h with e | h
      · exact absurd e.symm hv
      · rw [wipe_set h]
theorem wipe_wipe (σ : L2.St) : ∀ vs : List Nat, L2.wipe (L2.wipe σ vs) vs = L2.wipe σ vs := by
  have key : ∀ (ws vs : List Nat) (τ : L2.St), (∀ v ∈ ws, v ∈ vs) → L2.wipe (L2.wipe τ ws) vs = L2.wipe τ vs := by
    intro ws
    induction ws with
    | nil => intro vs τ _; rfl
    | cons w ws ih =>
      intro vs τ h
      show L2.wipe ((L2.wipe τ ws).set w none) vs = _
      rw [wipe_set (h w List.mem_cons_self)]
      exact ih vs τ fun v hv => h v (List.mem_cons_of_mem _ hv)
  exact fun vs => key vs vs σ fun _ h => h
theorem Owns.setD {W H : Hp} {σ : L2.St} {ow : Nat → Addr} (o : Owns C B W H σ Γ ow) (hl : σ.length = Γ.length) {i : Nat} {v : V} {x : D} (hi : i < Γ.length) (r : Rep C B.P W v x) : Owns C B W H (σ.set i (some v)) (Γ.set i (.d x)) ow := by
  refine ⟨fun a b s t h1 h2 h3 h4 => ?_, fun a s h1 h2 => ?_, fun a s h1 => ?_⟩
  · by_cases ha : i = a
    · subst ha; rw [List.getElem?_set_self hi] at h1; cases h1; cases h3
    · by_cases hb : i = b
      · subst hb; rw [List.getElem?_set_self hi] at h2; cases h2; cases h4
      · rw [List.getElem?_set_ne ha] at h1; rw [List.getElem?_set_ne hb] at h2
        exact o.inj a b s t h1 h2 h3 h4
  · by_cases ha : i = a
    · subst ha; rw [List.getElem?_set_self hi] at h1; cases h1; cases h2
    · rw [List.getElem?_set_ne ha] at h1; exact o.fr a s h1 h2
  · by_cases ha : i = a
    · subst ha
      rw [List.getElem?_set_self hi] at h1; cases h1
      rw [getD_set_same (by omega)]
      exact ⟨v, rfl, r⟩
    · rw [List.getElem?_set_ne ha] at h1
      rw [getD_set_ne ha]
      exact o.ok a s h1
/-- a comprehension's target: names among vs -/
def CG (C : Cl) (B : Bs) (Γ : List Sl) (g : TG) (d : D) (vs : List Nat) (K : List Sl → Prop) : Prop := ∀ W H σ v (ow : Nat → Addr), EnvOk C B W H σ Γ → Owns C B W H σ Γ ow → Rep C B.P W v d → ∀ Q : L2.St → Hp → Prop,
  (∀ Γ' σ', EnvOk C B W H σ' Γ' → (∃ ow', Owns C B W H σ' Γ' ow' ∧ ∀ i s, Γ'[i]? = some s → s.isO = true → ∃ j t, Γ[j]? = some t ∧ t.isO = true ∧ ow' i = ow j) → L2.wipe σ' vs = L2.wipe σ vs → K Γ' → Q σ' H) → g v σ H Q
def CGs (C : Cl) (B : Bs) (Γ : List Sl) (g : TGs) (l : List D) (vs : List Nat) (K : List Sl → Prop) : Prop := ∀ W H σ xs (ow : Nat → Addr), EnvOk C B W H σ Γ → Owns C B W H σ Γ ow → RepL C B.P W xs l → ∀ Q : L2.St → Hp → Prop,
  (∀ Γ' σ', EnvOk C B W H σ' Γ' → (∃ ow', Owns C B W H σ' Γ' ow' ∧ ∀ i s, Γ'[i]? = some s → s.isO = true → ∃ j t, Γ[j]? = some t ∧ t.isO = true ∧ ow' i = ow j) → L2.wipe σ' vs = L2.wipe σ vs → K Γ' → Q σ' H) → g xs σ H Q
theorem set_isO {i : Nat} {x : D} {a : Nat} {s : Sl} (h : (Γ.set i (.d x))[a]? = some s) (hs : s.isO = true) : Γ[a]? = some s := by
  by_cases ha : i = a
  · subst ha
    by_cases hi : i < Γ.length
    · rw [List.getElem?_set_self hi] at h; cases h; cases hs
    · rw [List.getElem?_eq_none (by simpa using hi)] at h; cases h
  · rw [List.getElem?_set_ne ha] at h; exact h
theorem cg_name {i : Nat} {d : D} {vs : List Nat} {K : List Sl → Prop} (k : K (Γ.set i (.d d))) (hi : Nat.blt i Γ.length = true := by rfl) (hv : i ∈ vs := by decide) : CG C B Γ (gName i) d vs K := fun W H σ v ow e o r Q q =>
  q _ _ (e.setD (Nat.le_of_ble_eq_true hi) r) ⟨ow, o.setD e.len (Nat.le_of_ble_eq_true hi) r, fun a s h hs => ⟨a, s, set_isO h hs, hs, rfl⟩⟩ (wipe_set hv) k
theorem cg_tup {n : Nat} {gs : TGs} {l : List D} {vs : List Nat} {K : List Sl → Prop} (hn : l.length = n) (h : CGs C B Γ gs l vs K) : CG C B Γ (gTup KK n gs) (.tup l) vs K := fun W H σ v ow e o r Q q => by
  cases r with
  | tup ha rl => exact ⟨_, _, rfl, SqT.of (e.wh _ _ ha), rl.length.trans hn, h W H σ _ ow e o rl Q q⟩
theorem cgs_nil {vs : List Nat} {K : List Sl → Prop} (k : K Γ) : CGs C B Γ gNil [] vs K := fun W H σ xs ow e o r Q q => by
  cases r
  exact ⟨rfl, q Γ σ e ⟨ow, o, fun i s h hs => ⟨i, s, h, hs, rfl⟩⟩ rfl k⟩
theorem cgs_cons {gs : TGs} {d : D} {l : List D} {i : Nat} {vs : List Nat} {K : List Sl → Prop} (h : CGs C B (Γ.set i (.d d)) gs l vs K) (hi : Nat.blt i Γ.length = true := by rfl) (hv : i ∈ vs := by decide) : CGs C B Γ (gCons (gName i) gs) (d :: l) vs K := fun W H σ xs ow e o r Q q => by
  cases r with
  | cons r1 r2 =>
    refine ⟨_, _, rfl, h W H _ _ ow (e.setD (Nat.le_of_ble_eq_true hi) r1) (o.setD e.len (Nat.le_of_ble_eq_true hi) r1) r2 Q fun Γ' σ' e' o' w k => q Γ' σ' e' ?_ (w.trans (wipe_set hv)) k⟩
    obtain ⟨ow', o', m⟩ := o'
    refine ⟨ow', o', fun a s h1 hs => ?_⟩
    obtain ⟨j, t, h2, h3, h4⟩ := m a s h1 hs
    exact ⟨j, t, set_isO h2 h3, h3, h4⟩
theorem Owns.wipe {W H : Hp} {σ : L2.St} {ow : Nat → Addr} (o : Owns C B W H σ Γ ow) : ∀ vs : List Nat, Owns C B W H (L2.wipe σ vs) (wipeG Γ vs) ow
  | [] => o
  | v :: vs => by
    have o := Owns.wipe o vs
    show Owns C B W H ((L2.wipe σ vs).set v none) ((wipeG Γ vs).set v .no) ow
    generalize L2.wipe σ vs = τ at o
    generalize wipeG Γ vs = Δ at o
    refine ⟨fun a b s t h1 h2 h3 h4 => ?_, fun a s h1 h2 => ?_, fun a s h1 => ?_⟩
    · by_cases ha : v = a
      · subst ha
        by_cases hi : v < Δ.length
        · rw [List.getElem?_set_self hi] at h1; cases h1; cases h3
        · rw [List.getElem?_eq_none (by simpa using hi)] at h1; cases h1
      · by_cases hb : v = b
        · subst hb
          by_cases hi : v < Δ.length
          · rw [List.getElem?_set_self hi] at h2; cases h2; cases h4
          · rw [List.getElem?_eq_none (by simpa using hi)] at h2; cases h2
        · rw [List.getElem?_set_ne ha] at h1; rw [List.getElem?_set_ne hb] at h2
          exact o.inj a b s t h1 h2 h3 h4
    · by_cases ha : v = a
      · subst ha
        by_cases hi : v < Δ.length
        · rw [List.getElem?_set_self hi] at h1; cases h1; cases h2
        · rw [List.getElem?_eq_none (by simpa using hi)] at h1; cases h1
      · rw [List.getElem?_set_ne ha] at h1; exact o.fr a s h1 h2
    · by_cases ha : v = a
      · subst ha
        by_cases hi : v < Δ.length
        · rw [List.getElem?_set_self hi] at h1; cases h1; trivial
        · rw [List.getElem?_eq_none (by simpa using hi)] at h1; cases h1
      · rw [List.getElem?_set_ne ha] at h1
        rw [getD_set_ne ha]
        exact o.ok a s h1
/-- [te for g in wi if tt]; J says what is made behind i items -/
theorem ef_lc {wi : TI} {g : TG} {tt : TT} {vs : List Nat} (h : IK C B Γ wi fun l => ∃ J : Nat → List D → Prop, J 0 [] ∧
      (∀ W1 i d acc, l[i]? = some d → J i acc → CG C (B.keep W1) (wipeG Γ vs) g d vs fun Γ2 => TK C (B.keep W1) Γ2 tt fun b => (b = true → EK C (B.keep W1) Γ2 te fun y => acc.length < sizeLine ∧ J (i + 1) (acc ++ [y])) ∧ (b = false → J (i + 1) acc)) ∧
      ∀ acc, J l.length acc → K acc) : EF C B Γ (tLc wi g tt te vs) K := fun W H σ e Q q =>
  h W H σ e _ fun It W1 H1 l s1 y ⟨J, j0, hs, hd⟩ Dl hDl => by
    have e1 := e.step s1
    obtain ⟨ow, o⟩ := e.ow
    have o1 := o.step s1
    have hW1 : W1 Dl = none := by
      cases z : W1 Dl with
      | none => rfl
      | some x => rw [s1.wh _ _ z] at hDl; cases hDl
    have hP : B.P ≠ some Dl := fun z => e1.pl.ne Dl z hDl
    have hH : H Dl = none := s1.free hDl
    have h0 : B.H0 Dl = none := e.stp.free hH
    have hn := o1.ne hDl
    obtain ⟨e2, o2⟩ := e1.poke (u := .lst []) o1 hW1 hP h0 hn
    have s2 : Stp C B.P none W H W1 (upd H1 Dl (.lst [])) := s1.trans (Stp.own s1.wh hDl e1.pl.ne)
    refine ⟨fun i m H' => m = l.length - i ∧ i ≤ l.length ∧ ∃ W2 acc va, EnvOk C B W2 H' σ Γ ∧ Owns C B W2 H' σ Γ ow ∧ Same W1 W2 ∧ Stp C B.P none W H W2 H' ∧ W2 Dl = none ∧ H' Dl = some (.lst va) ∧ RepL C B.P W2 va acc ∧ J i acc,
      ⟨l.length, rfl, Nat.zero_le _, W1, [], [], e2, o2, .refl _, s2, hW1, upd_same, .nil, j0⟩, ?_⟩
    rintro i m H2 ⟨rfl, hi, W2, acc, va, e3, o3, w12, st, d1, d2, d3, d4⟩
    by_cases hlt : i < l.length
    · obtain ⟨y1, y2⟩ := y.go i W2 H2 hlt w12 e3.wh e3.pl
      refine .inr ⟨y1, fun H' => ∃ W2 acc va, EnvOk C B W2 H' σ Γ ∧ Owns C B W2 H' σ Γ ow ∧ Same W1 W2 ∧ Stp C B.P none W H W2 H' ∧ W2 Dl = none ∧ H' Dl = some (.lst va) ∧ RepL C B.P W2 va acc ∧ J (i + 1) acc, fun H' z => ⟨l.length - (i + 1), by omega, rfl, hlt, z⟩, fun x H3 hy => ?_⟩
      obtain ⟨W3, d, s3, hd', r3⟩ := y2 x H3 hy
      have e4 := (e3.step s3).wipe vs
      have o4 := (o3.step s3).wipe vs
      refine hs W1 i d acc hd' d4 W3 H3 _ x ow (e4.keep W1 (w12.trans s3.ww)) ⟨o4.inj, o4.fr, o4.ok⟩ r3 _ fun Γ5 σ5 e5 o5 w5 k5 => ⟨w5.trans (by rw [wipe_wipe]), ?_⟩
      refine k5 W3 H3 σ5 e5 _ fun b W6 H6 s6 k6 => ?_
      have s36 := s3.trans s6
      have hDl6 : H6 Dl = some (.lst va) := s36.hh _ _ d2 hP (fun z => nomatch z)
      have W6D : W6 Dl = none := (s36.old _ _ d2).trans d1
      cases b with
      | false => exact ⟨W6, acc, va, e3.step s36, o3.step s36, w12.trans s36.ww, st.trans s36, W6D, hDl6, d3.mono s36.ww, k6.2 rfl⟩
      | true =>
        refine k6.1 rfl W6 H6 σ5 (e5.step s6) _ fun yv v W7 H7 s7 r7 ⟨hz, k7⟩ => ?_
        have s37 := s36.trans s7
        have hDl7 : H7 Dl = some (.lst va) := s37.hh _ _ d2 hP (fun z => nomatch z)
        have W7D : W7 Dl = none := (s37.old _ _ d2).trans d1
        refine ⟨va, hDl7, by rw [d3.length]; exact hz, ?_⟩
        obtain ⟨e8, o8⟩ := (e3.step s37).poke (u := .lst (va ++ [v])) (o3.step s37) W7D hP h0 hn
        have st7 := st.trans s37
        refine ⟨W7, acc ++ [yv], va ++ [v], e8, o8, w12.trans s37.ww, ⟨st7.ww, e8.wh, fun a u q1 q2 q3 => ?_, fun a u q1 => ?_, st7.old, fun a q1 q2 => ?_⟩, W7D, upd_same, (d3.mono s37.ww).append (.one r7), k7⟩
        · rw [upd_ne (fun z => by subst z; rw [hH] at q1; cases q1)]
          exact st7.hh a u q1 q2 q3
        · rw [upd_ne (fun z => by subst z; rw [hH] at q1; cases q1)]
          exact st7.dom a u q1
        · rw [upd_ne (fun z => by subst z; exact hP q1)]
          exact st7.pool a q1 q2
    · have hh : i = l.length := by omega
      subst hh
      exact .inl ⟨y.stop H2 (w12.trans e3.wh), q acc Dl va W2 H2 st hH d1 d2 d3 (hd acc d4)⟩
theorem tk_yes {K : Bool → Prop} (k : K true) : TK C B Γ tYes K := fun W H σ e Q q => q true W H (.refl e.wh) k
end
end G
end

section
set_option maxRecDepth 100000
set_option maxHeartbeats 2000000
/-! list(reversed(a list)) -/
namespace GRv
open PySem PySem.Spec PyProof.Rows L2 RT
section
variable {prog : Program} {w : World} {A : Around} {E : Value → Shared → Prop} {s : Shared}
theorem init_rev {it l S : Addr} {items : Array Value} {R : Result → Shared → Prop} (hh : A.handled = none) (hit : s.heap.IsRevIter it l ((items.size : Int) - 1)) (hl : s.heap.IsList l items) (hne : l ≠ it) (hn : items.size ≤ sizeLine)
    (hSi : S ≠ it) (hSl : S ≠ l) (hS : s.heap.get? S = some { cls := .type "list", data := .seq #[] })
    (hR : ∀ (h' : Heap) (tk : Nat) (acc : Array Value) (c : Nat), (∀ b o, b ≠ it → b ≠ S → s.heap.get? b = some o → h'.get? b = some o) → h'.get? S = some { cls := .type "list", dict := none, data := .seq acc c, slots := #[] } →
      ItemsOf (fun i v => items[items.size - 1 - i]? = some v) acc items.size → R (.ok (.ret .none)) { s with heap := h', toks := tk }) :
    wpAny (model prog w) A.in1 (Builtin.«list.__init__» ⟨[.ref S, .ref it], []⟩)
      (fun fin s' => match fin with | .done f => R (.ok f) s' | .again c' => c'.quiet = true ∧ codeAny (model prog w) A c' R s') (fun e s' => R (.error e) s') s := by
  have W := (Walks.listRev (prog := prog) (w := w) (A := A.in1) hh it l hne items).toS
  have hSf : S ∉ [it, l] := by simp only [List.mem_cons, List.not_mem_nil, or_false, not_or]; exact ⟨hSi, hSl⟩
  show wpAny _ A.in1 (do let old ← Builtin.List.listItems (.ref S); Builtin.List.listUpdate (.ref S) (fun _ => #[]); letGo old.toList.reverse; Builtin.List.listExtendWith (.ref S) (.ref it) .none) _ _ s
  refine wpAny_bind ?_
  unfold Builtin.List.listItems
  refine wpAny_bind (wpAny_seqItems hS rfl (wpAny_pure ?_))
  show wpAny _ A.in1 (updateSeq S (fun _ => #[]) >>= fun _ => letGo (#[] : Array Value).toList.reverse >>= fun _ => Builtin.List.listExtendWith (.ref S) (.ref it) .none) _ _ s
  refine wpAny_bind (wpAny_updateSeq hS rfl ?_)
  have hS₂ := Heap.get?_update_self (Obj.mapSeq (fun _ => (#[] : Array Value))) hS rfl
  have oth : ∀ b o, b ≠ S → s.heap.get? b = some o → (s.heap.update S (Obj.mapSeq (fun _ => (#[] : Array Value)))).get? b = some o :=
    fun b o hb e => (Heap.get?_update_other _ _ (Ne.symm hb)).trans e
  refine wpAny_bind (wpAny_letGo ?_)
  generalize hh2 : s.heap.update S (Obj.mapSeq (fun _ => (#[] : Array Value))) = h2 at hS₂ oth
  have hit1 : h2.IsRevIter it l ((items.size : Int) - 1) := hit.at fun o e => oth it o (Ne.symm hSi) e
  have hl1 : h2.IsList l items := hl.at fun o e => oth l o (Ne.symm hSl) e
  have hT : ({ s with heap := h2 } : Shared).TypeIs (.ref it) "list_reverseiterator" := Heap.IsRevIter.typeIs (s := { s with heap := h2 }) hit1
  have h1 : Builtin.List.listSameRef (.ref S) (.ref it) = false := by simp [Builtin.List.listSameRef, hSi]
  show wpAny _ A.in1 (Builtin.List.listExtendWith (.ref S) (.ref it) .none) _ _ { s with heap := h2 }
  unfold Builtin.List.listExtendWith
  refine wpAny_bind (wpAny_typeOf hT ?_)
  rw [if_neg (by rw [h1]; decide)]
  refine wpAny_bind (wpAny_pyIter_revIter (s := { s with heap := h2 }) hit1 ?_)
  refine wpAny_bind (wpAny_holding ?_)
  unfold Builtin.List.listLengthHint
  refine wpAny_bind (wpAny_specialOf hT nolen_lri ?_)
  show wpAny _ A.in1 (specialOf (Value.ref it) (Str.ofString "__length_hint__") >>= _) _ _ _
  refine wpAny_bind (wpAny_specialOf hT hint_lri ?_)
  generalize hid : ("list_reverseiterator.__length_hint__" : String) = id0
  wp_delta
  rw [show splitId id0 = some ("list_reverseiterator", "__length_hint__") from by subst hid; decide +kernel]
  subst hid
  refine wpAny_bind (wpAny_isInstance (b := true) hT (by rw [isSubtype_type]; kernel_rfl) ?_)
  refine wpAny_pure ?_
  rw [if_neg (by decide)]
  have e0 : ((items.size : Nat) : Int) - 1 - ((0 : Nat) : Int) = (items.size : Int) - 1 := by omega
  refine wpAny_pure ⟨plainId_quiet F.plain_extend_loop _, codeAny_extend_loopS W hn _ hSf _ items.size 0 _ _ _ rfl (Nat.zero_le _) ⟨Nat.zero_le _, by rw [e0]; exact hit1, hl1⟩ hS₂ (ItemsOf.nil _) fun s' acc' c' hm hS' hacc => ?_⟩
  have q := hR s'.heap s'.toks acc' c' (fun b o hb hbS e => hm.heap b o (fun hmem => ?_) (oth b o hbS e)) hS' hacc
  · rw [Moved.eq_with hm]
    exact q
  · rcases List.mem_cons.mp hmem with e' | hmem
    · exact hbS e'
    · exact hb (List.mem_singleton.mp hmem)
theorem call_list_rev {it l : Addr} {items : Array Value} {Q : Value → Shared → Prop} (hh : A.handled = none) (hit : s.heap.IsRevIter it l ((items.size : Int) - 1)) (hl : s.heap.IsList l items) (hne : l ≠ it) (hn : items.size ≤ sizeLine)
    (hQ : ∀ (h' : Heap) (tk : Nat) (acc : Array Value) (c : Nat), (∀ b o, b ≠ it → s.heap.get? b = some o → h'.get? b = some o) → h'.get? s.heap.objs.size = some { cls := .type "list", dict := none, data := .seq acc c, slots := #[] } →
      ItemsOf (fun i v => items[items.size - 1 - i]? = some v) acc items.size → Q (.ref s.heap.objs.size) { s with heap := h', toks := tk }) :
    wpAny (model prog w) A (call (.type "list") [.ref it]) Q E s := by
  have hS : (s.heap.push { cls := .type "list", data := .seq #[] }).get? s.heap.objs.size = some { cls := .type "list", data := .seq #[] } := Heap.get?_push_size _ rfl
  obtain ⟨oi, hoi, _⟩ := id hit
  obtain ⟨ol, hol, _⟩ := id hl
  have hSi : s.heap.objs.size ≠ it := Nat.ne_of_gt (Heap.lt_size hoi)
  have hSl : s.heap.objs.size ≠ l := Nat.ne_of_gt (Heap.lt_size hol)
  refine callType_codes (Q₁ := fun obj s₁ => obj = .ref s.heap.objs.size ∧ s₁ = { s with heap := s.heap.push { cls := .type "list", data := .seq #[] } }) F.called_list (F.typeCall_list_1 _) F.entry_list_init
    (code_list_new _ ⟨rfl, rfl⟩) fun obj s₁ h₁ => ?_
  obtain ⟨rfl, rfl⟩ := h₁
  refine ⟨⟨_, hS, rfl⟩, F.args_list_init_2 _ _, init_rev (A := A.in1) (s := { s with heap := s.heap.push { cls := .type "list", data := .seq #[] } }) hh (hit.at fun o e => Heap.get?_push_of_some _ e) (hl.push _) hne hn hSi hSl hS fun h' tk acc c hk hS' hacc => ?_⟩
  exact ⟨rfl, hQ h' tk acc c (fun b o hb e => hk b o hb (Nat.ne_of_lt (Heap.lt_size e)) (Heap.get?_push_of_some _ e)) hS' hacc⟩
end
section
variable {X : Cx}
/-- list(reversed(x)), x a list -/
def tLstRev (K : PySem.W.Frag) (te : TE) : TE := fun σ H Q => te σ H fun v H1 => ∃ (a : Addr) (xs : List V), v = .ref a ∧ SqL K H1 a xs ∧ ∀ q, H1 q = none → Q (.ref q) (upd H1 q (.lst xs.reverse))
theorem pe_lstRev {e : Expr} {te : TE} {p p2 pos pos2 : Pos} (hc : X.calm = true) (hg : Gl X "list") (hm : X.mg "list" = none) (hg2 : Gl X "reversed") (hm2 : X.mg "reversed" = none) (he : PE X e te)
    (hs : starEach [e] X.env = (false, eval e X.env) :: starEach [] X.env := by rfl)
    (hs2 : starEach [.Call (.Name "reversed" p2) [e] [] pos2] X.env = (false, eval (.Call (.Name "reversed" p2) [e] [] pos2) X.env) :: starEach [] X.env := by rfl) :
    PE X (.Call (.Name "list" p) [.Call (.Name "reversed" p2) [e] [] pos2] [] pos) (tLstRev X.K te) := by
  refine ⟨fun pins s σ H Q I h => ?_⟩
  refine Call_ (ld_blt I hg hm boot_list (PyProof.Rows.callWith_type1 (args_cons (Call_ (ld_blt I hg2 hm2 PyProof.Rows.boot_reversed (PyProof.Rows.callWith_type1 (args_cons (thn (he.run pins s σ H _ I h) fun u s1 ⟨v, H1, I1, r1, q1⟩ => args_nil ?_) hs) hs rfl))) hs2) hs2 rfl))
  obtain ⟨a, xs, ev, hq, q⟩ := q1
  subst ev
  obtain rfl : u = Value.ref a := r1
  obtain ⟨its, rv, p', hz⟩ := I1.list hq
  refine call_reversed_list p'.isList (args_nil ?_)
  have k0 : ∀ b o, s1.heap.get? b = some o → (s1.heap.push (revObj a ((its.toArray.size : Int) - 1))).get? b = some o := fun b o e => Heap.get?_push_of_some _ e
  have I2 : Inv X pins σ H1 { s1 with heap := s1.heap.push (revObj a ((its.toArray.size : Int) - 1)) } := I1.kept (t' := s1.toks) k0
  obtain ⟨f0, f1, f2, f3, f4, f5⟩ := I1.fpOk (H' := H1) (b := s1.heap.objs.size) (Nat.le_refl _) (I1.hok.fresh (Nat.le_refl _))
  have hl := p'.isList
  obtain ⟨ol, hol, _⟩ := id hl
  have hne : a ≠ s1.heap.objs.size := Nat.ne_of_lt (Heap.lt_size hol)
  have hn : its.toArray.size ≤ sizeLine := by rw [List.size_toArray, ← rv.length]; exact hz
  refine call_list_rev (s := { s1 with heap := s1.heap.push (revObj a ((its.toArray.size : Int) - 1)) }) (I1.ok.hd hc) ⟨_, Heap.get?_push_size _ rfl, rfl, rfl⟩ (hl.push _) hne hn fun h' tk acc c hk hS hi => ?_
  have hsz : (s1.heap.push (revObj a ((its.toArray.size : Int) - 1))).objs.size = s1.heap.objs.size + 1 := Heap.size_push _ _
  have hv := vals_rev rv hi
  have hfr : H1 (s1.heap.push (revObj a ((its.toArray.size : Int) - 1))).objs.size = none := I2.hok.fresh (Nat.le_refl _)
  have new : ObjOk X.prog X.w (upd H1 (s1.heap.push (revObj a ((its.toArray.size : Int) - 1))).objs.size (.lst xs.reverse)) h' (s1.heap.push (revObj a ((its.toArray.size : Int) - 1))).objs.size (.lst xs.reverse) :=
    ⟨by rw [List.length_reverse]; exact hz, acc.toList, c, hv, by rw [Array.toArray_toList]; exact hS⟩
  exact ⟨.ref _, upd H1 _ (.lst xs.reverse), I2.turnedNew (t' := tk) (ch := [s1.heap.objs.size]) (fun b o hb e => hk b o (by simpa using hb) e) (fun b hb => by
    have e : b = s1.heap.objs.size := by simpa using hb
    subst e
    exact ⟨f0, f1, f2, f3, f4, f5⟩) (Nat.le_refl _) new, rfl, q _ hfr⟩
end
end GRv
end

section
set_option maxRecDepth 100000
set_option maxHeartbeats 2000000
/-! the data layer: operators, built-ins, defs -/
namespace G
open PySem PySem.Spec PyProof.Rows L2

section
variable {C : Cl} {B : Bs} {Γ : List Sl} {ta tb te : TE} {K : D → Prop} {KK : PySem.W.Frag}
/-- a built-in's call on one sequence -/
def LK (C : Cl) (B : Bs) (r : List V → Hp → VK → Prop) (k : Kd) (l : List D) (K : D → Prop) : Prop := ∀ W H a vs, Same W H → PlOk C B.P W H → H a = some (k.ho vs) → B.P ≠ some a → (k = .t → W a = some (.tup vs)) → RepL C B.P W vs l → ∀ Q : VK, (∀ d v W' H', Stp C B.P none W H W' H' → Rep C B.P W' v d → K d → Q v H') → r [.ref a] H Q
theorem ek_cbL {r : List V → Hp → VK → Prop} (h : EL C B Γ ta fun k l => LK C B r k l K) : EK C B Γ (tCB r (tCons ta tNil)) K := fun W H σ e Q q =>
  h W H σ e _ fun k l a vs W1 H1 s1 ha hP hT r1 h1 => h1 W1 H1 a vs s1.wh (e.pl.step s1) ha hP hT r1 Q fun d v W3 H3 s3 r3 kk => q d v W3 H3 (s1.trans s3) r3 kk
/-- len -/
def rLenU (K : PySem.W.Frag) : List V → Hp → VK → Prop := fun xs H Q => ∃ x n, xs = [x] ∧ LenV K x H n ∧ Q (.int n) H
theorem cr_lenU {X : Cx} : CallR X (.builtin "len") (rLenU X.K) := call_len
theorem lk_len {k : Kd} {l : List D} (h : K (.int (l.length : Nat))) : LK C B (rLenU KK) k l K := fun W H a vs hw pl ha hP hT r Q q => by
  refine ⟨_, vs.length, rfl, ?_, q _ _ W H (.refl hw) (.int _) (by rw [r.length]; exact h)⟩
  cases k with
  | l => exact .inl ⟨vs, SqL.of ha, rfl⟩
  | t => exact .inr ⟨vs, SqT.of ha, rfl⟩
theorem ek_len (h : EL C B Γ ta fun _ l => K (.int (l.length : Nat))) : EK C B Γ (tCB (rLenU KK) (tCons ta tNil)) K :=
  ek_cbL fun W H σ e Q q => h W H σ e Q fun k l a vs W' H' s ha hP hT r kk => q k l a vs W' H' s ha hP hT r (lk_len kk)
/-- list(x), tuple(x) -/
def rListU (K : PySem.W.Frag) : List V → Hp → VK → Prop := fun xs H Q => ∃ p ys, xs = [.ref p] ∧ (SqL K H p ys ∨ SqT K H p ys) ∧ ∀ l, H l = none → Q (.ref l) (upd H l (.lst ys))
def rTupU (K : PySem.W.Frag) : List V → Hp → VK → Prop := fun xs H Q => ∃ p ys, xs = [.ref p] ∧ ((SqL K H p ys ∧ ∀ l, H l = none → Q (.ref l) (upd H l (.tup ys))) ∨ (SqT K H p ys ∧ Q (.ref p) H))
theorem cr_listU {X : Cx} : CallR X (.type "list") (rListU X.K) := call_list_of
theorem cr_tupU {X : Cx} : CallR X (.type "tuple") (rTupU X.K) := call_tuple_of
theorem ef_list {K : List D → Prop} (h : EL C B Γ ta fun _ l => K l) : EF C B Γ (tCB (rListU KK) (tCons ta tNil)) K := fun W H σ e Q q =>
  h W H σ e _ fun k l a vs W1 H1 s1 ha hP hT r1 h1 => by
    refine ⟨a, vs, rfl, ?_, fun p hp => ?_⟩
    · cases k with
      | l => exact .inl (SqL.of ha)
      | t => exact .inr (SqT.of ha)
    · have s2 := Stp.own (C := C) (P := B.P) (S := none) (o := .lst vs) s1.wh hp (e.pl.step s1).ne
      have hW : W1 p = none := by
        cases z : W1 p with
        | none => rfl
        | some o => rw [s1.wh _ _ z] at hp; cases hp
      exact q l p vs _ _ (s1.trans s2) (s1.free hp) hW upd_same r1 h1
theorem ek_tuple (h : EL C B Γ ta fun _ l => K (.tup l)) : EK C B Γ (tCB (rTupU KK) (tCons ta tNil)) K := fun W H σ e Q q =>
  h W H σ e _ fun k l a vs W1 H1 s1 ha hP hT r1 h1 => by
    cases k with
    | l =>
      refine ⟨a, vs, rfl, .inl ⟨SqL.of ha, fun p hp => ?_⟩⟩
      have s2 := Stp.new (C := C) (P := B.P) (S := none) (o := .tup vs) s1.wh hp (e.pl.step s1).ne
      exact q _ _ _ _ (s1.trans s2) (.tup upd_same (r1.mono s2.ww)) h1
    | t => exact ⟨a, vs, rfl, .inr ⟨SqT.of ha, q _ _ W1 H1 s1 (.tup (hT rfl) r1) h1⟩⟩
/-- list(reversed(x)) -/
theorem ef_lstRev {K : List D → Prop} (h : EL C B Γ ta fun k l => k = .l ∧ K l.reverse) : EF C B Γ (GRv.tLstRev KK ta) K := fun W H σ e Q q =>
  h W H σ e _ fun k l a vs W1 H1 s1 ha hP hT r1 ⟨hk, h1⟩ => by
    subst hk
    refine ⟨a, vs, rfl, SqL.of ha, fun p hp => ?_⟩
    have s2 := Stp.own (C := C) (P := B.P) (S := none) (o := .lst vs.reverse) s1.wh hp (e.pl.step s1).ne
    have hW : W1 p = none := by
      cases z : W1 p with
      | none => rfl
      | some o => rw [s1.wh _ _ z] at hp; cases hp
    exact q l.reverse p vs.reverse _ _ (s1.trans s2) (s1.free hp) hW upd_same r1.reverse h1
/-- sum, all, any -/
theorem ek_sum (h : EL C B Γ ta fun k l => k = .l ∧ ∃ ns : List Int, l = ns.map D.int ∧ K (.int ns.sum)) : EK C B Γ (tCB (rSum KK) (tCons ta tNil)) K := fun W H σ e Q q =>
  h W H σ e _ fun k l a vs W1 H1 s1 ha hP hT r1 ⟨hk, ns, hl, h1⟩ => by
    subst hk; subst hl
    have e0 := r1.ints
    subst e0
    exact ⟨a, ns, rfl, SqL.of ha, q _ _ W1 H1 s1 (.int _) h1⟩
theorem ek_all (h : EL C B Γ ta fun k l => k = .l ∧ ∃ bs : List Bool, l = bs.map D.bl ∧ K (.bl (bs.all id))) : EK C B Γ (tCB (rAll KK) (tCons ta tNil)) K := fun W H σ e Q q =>
  h W H σ e _ fun k l a vs W1 H1 s1 ha hP hT r1 ⟨hk, ns, hl, h1⟩ => by
    subst hk; subst hl
    have e0 := r1.bls
    subst e0
    exact ⟨a, ns, rfl, SqL.of ha, q _ _ W1 H1 s1 (.bl _) h1⟩
theorem ek_any (h : EL C B Γ ta fun k l => k = .l ∧ ∃ bs : List Bool, l = bs.map D.bl ∧ K (.bl (bs.any id))) : EK C B Γ (tCB (rAny KK) (tCons ta tNil)) K := fun W H σ e Q q =>
  h W H σ e _ fun k l a vs W1 H1 s1 ha hP hT r1 ⟨hk, ns, hl, h1⟩ => by
    subst hk; subst hl
    have e0 := r1.bls
    subst e0
    exact ⟨a, ns, rfl, SqL.of ha, q _ _ W1 H1 s1 (.bl _) h1⟩
/-- gcd, abs, int -/
theorem ck_gcd {a b : Int} (k : K (.int ((Nat.gcd a.natAbs b.natAbs : Nat) : Int))) : CK C B rGcd [.int a, .int b] K := fun W H hw pl vs r Q q => by
  cases r with
  | cons r1 r2 =>
    cases r1
    cases r2 with
    | cons r1 r2 =>
      cases r1; cases r2
      exact ⟨a, b, rfl, q _ _ W H (.refl hw) (.int _) k⟩
def rAbs : List V → Hp → VK → Prop := fun xs H Q => ∃ i, xs = [.int i] ∧ Q (.int (if i < 0 then -i else i)) H
theorem cr_abs {X : Cx} : CallR X (.builtin "abs") rAbs := call_abs
theorem ck_abs {a : Int} (k : K (.int (if a < 0 then -a else a))) : CK C B rAbs [.int a] K := fun W H hw pl vs r Q q => by
  cases r with
  | cons r1 r2 =>
    cases r1; cases r2
    exact ⟨a, rfl, q _ _ W H (.refl hw) (.int _) k⟩
def rInt1 : List V → Hp → VK → Prop := fun xs H Q => (∃ i, xs = [.int i] ∧ Q (.int i) H) ∨ ∃ k, xs = [.bl k] ∧ Q (.int (if k then 1 else 0)) H
theorem cr_int1 {X : Cx} : CallR X (.type "int") rInt1 := call_int1
theorem ck_int {a : Int} (k : K (.int a)) : CK C B rInt1 [.int a] K := fun W H hw pl vs r Q q => by
  cases r with
  | cons r1 r2 =>
    cases r1; cases r2
    exact .inl ⟨a, rfl, q _ _ W H (.refl hw) (.int _) k⟩
/-- isinstance -/
structure InsF (KK : PySem.W.Frag) (A : Addr) : Prop where
  cl : Cls KK A
  ha : PySem.W.findIn KK (.ref A) "__class__" = some (some (.builtin "object.__class__"))
  hn : PySem.W.specialIn KK (.builtin "object.__class__") "__get__" = some (some (.builtin "getset_descriptor.__get__"))
  htk : PySem.W.takesIn KK (.builtin "object.__class__") = some true
  hm : PySem.W.mroIn KK A (.type "object") = some true
inductive TyD (C : Cl) (KK : PySem.W.Frag) : D → Value → Prop where
  | non : TyD C KK .non (.type "NoneType")
  | bl (b : Bool) : TyD C KK (.bl b) (.type "bool")
  | int (i : Int) : TyD C KK (.int i) (.type "int")
  | str (s : Str) : TyD C KK (.str s) (.type "str")
  | lst (l : List D) : TyD C KK (.lst l) (.type "list")
  | tup (l : List D) : TyD C KK (.tup l) (.type "tuple")
  | dic (l : List (Key × D)) : TyD C KK (.dic l) (.type "dict")
  | frac (q : Rat) (h : InsF KK C.frac) : TyD C KK (.frac q) (.ref C.frac)
  | obj (c : Nat) (l : List (Str × D)) (h : InsF KK (C.cls c)) : TyD C KK (.obj c l) (.ref (C.cls c))
theorem TyD.tyx {P : Option Addr} {W H : Hp} {v : V} {d : D} {t : Value} (h : TyD C KK d t) (hw : Same W H) (r : Rep C P W v d) : TyX KK H v t := by
  cases h with
  | non => cases r; exact .base .non
  | bl b => cases r; exact .base (.bl b)
  | int b => cases r; exact .base (.int b)
  | str b => cases r; exact .base (.str b)
  | lst l => cases r with | lst ha _ => exact .base (.lst (hw _ _ ha))
  | tup l => cases r with | tup ha _ => exact .base (.tup (hw _ _ ha))
  | dic l => cases r with | dic ha _ _ => exact .base (.dK (hw _ _ ha))
  | frac q h => cases r with | frac ha => exact .base (.ins (hw _ _ ha) h.cl h.ha h.hn h.htk h.hm)
  | obj c l h => cases r with | obj ha _ _ => exact .base (.ins (hw _ _ ha) h.cl h.ha h.hn h.htk h.hm)
inductive ClsD : D → Value → Prop where
  | ty (n : String) : ClsD (.ty n) (.type n)
  | cls (a : Addr) : ClsD (.cls a) (.ref a)
theorem ClsD.v {P : Option Addr} {W : Hp} {v : V} {d : D} {u : Value} (h : ClsD d u) (r : Rep C P W v d) : ClsV v u := by
  cases h with
  | ty n => cases r; exact .ty n
  | cls a => cases r; exact .own a
theorem ClsD.vs {P : Option Addr} {W : Hp} : ∀ {vs : List V} {l : List D} {us : List Value}, Paired ClsD l us → RepL C P W vs l → Paired ClsV vs us
  | _, _, _, .nil, .nil => .nil
  | _, _, _, .cons h t, .cons r s => .cons (h.v r) (ClsD.vs t s)
def rIsU (K : PySem.W.Frag) : List V → Hp → VK → Prop := fun xs H Q => rIsi K xs H Q ∨ rIsiT K xs H Q
theorem cr_isU {X : Cx} : CallR X (.builtin "isinstance") (rIsU X.K) := CallR.or call_isi call_isiT
theorem ck_is {d c : D} {t u : Value} {b : Bool} (ht : TyD C KK d t) (hc : ClsD c u) (hk : PySem.W.kitOne KK t u = some b) (k : K (.bl b)) : CK C B (rIsU KK) [d, c] K := fun W H hw pl vs r Q q => by
  cases r with
  | cons r1 r2 =>
    cases r2 with
    | cons r2 r3 =>
      cases r3
      exact .inl ⟨_, _, t, u, b, rfl, hc.v r2, ht.tyx hw r1, hk, q _ _ W H (.refl hw) (.bl _) k⟩
theorem ck_isT {d : D} {cs : List D} {t : Value} {us : List Value} {b : Bool} (ht : TyD C KK d t) (hc : Paired ClsD cs us) (hk : PySem.W.kitAny KK t us = some b) (k : K (.bl b)) : CK C B (rIsU KK) [d, .tup cs] K := fun W H hw pl vs r Q q => by
  cases r with
  | cons r1 r2 =>
    cases r2 with
    | cons r2 r3 =>
      cases r3
      cases r2 with
      | tup ha rl => exact .inr ⟨_, _, _, t, us, b, rfl, hw _ _ ha, ClsD.vs hc rl, ht.tyx hw r1, hk, q _ _ W H (.refl hw) (.bl _) k⟩
/-- a built-in class, an own class as a value -/
theorem ek_ty {n : String} (k : K (.ty n)) : EK C B Γ (tC (.ty n)) K := fun W H σ e Q q => q _ _ W H (.refl e.wh) (.ty n) k
theorem ek_cls {a : Addr} (k : K (.cls a)) : EK C B Γ (tC (.ref a)) K := fun W H σ e Q q => q _ _ W H (.refl e.wh) (.cls a) k
end

/-! ### an operator of an own class, both sides of it -/
def rOwn (C : Addr) (sp : Sp) : R2 := fun x y H Q => ∃ a b dx dy fs gs, x = .ref a ∧ y = .ref b ∧ H a = some (.ins C dx fs) ∧ H b = some (.ins C dy gs) ∧ sp [x, y] H Q E0
theorem op_own {X : Cx} {CX : CXT} {n : Nat} {A f : Addr} {fd : FuncData} {ps : List Str} {sp : Sp} {op : Operator} (F : FnOk X.prog X.w X.K X.mg X.base CX n f fd ps sp)
    (hs : PySem.W.findIn X.K (.ref A) (PySem.dunder op.info.2) = some (some (.ref f))) (hf : PySem.W.isFn X.K (.ref f) = true) (hc : PySem.W.selfFirst X.K A = true) (hb : Binds X.K fd ps []) (hx : Passes CX X E0) (hr : Room n X.A) :
    OpR X (binaryOp op) (rOwn A sp) := by
  intro pins s σ H x y v u Q I rx ry h
  obtain ⟨a, b, dx, dy, fs, gs, rfl, rfl, ha, hb', hsp⟩ := h
  cases rx
  cases ry
  obtain ⟨mA, J, _⟩ := ins_get I.hok ha
  obtain ⟨mB, J', _⟩ := ins_get I.hok hb'
  obtain ⟨od, J, _⟩ := J.look
  obtain ⟨od', J', _⟩ := J'.look
  obtain ⟨m, hF⟩ := I.fr
  refine PySem.W.binop_K (op := op) hF I.ok.mod.kin J J'.type hc hs hf ?_
  have r2 : Vals [V.ref a, V.ref b] [Value.ref a, Value.ref b] := .cons rfl (.cons rfl .nil)
  refine thn (run_fn (us := [.ref a, .ref b]) (vs := [.ref a, .ref b]) F hr hb .nil hx I r2 hsp) fun z s' hz => ?_
  obtain ⟨v, H', I', rv, q⟩ := hz
  have e : EP X pins σ Q z s' := ⟨v, H', I', rv, q⟩
  cases v with
  | non => cases rv; exact e
  | bl b => cases rv; exact e
  | int i => obtain ⟨t, rfl⟩ := rv; exact e
  | str i => obtain ⟨t, rfl⟩ := rv; exact e
  | byt i => obtain ⟨t, rfl⟩ := rv; exact e
  | flt i => obtain ⟨t, rfl⟩ := rv; exact e
  | ref a => cases rv; exact e
  | ty n => cases rv; exact e
section
variable {C : Cl} {B : Bs} {Γ : List Sl} {ta tb te : TE} {K : D → Prop} {KK : PySem.W.Frag}
theorem rk_own {S : List D → (D → Prop) → Prop} {p q : Rat} (h : S [.frac p, .frac q] K) : RK C B (rOwn C.frac (SpOf C S)) (.frac p) (.frac q) K := fun W H hw pl v1 v2 r1 r2 Q k => by
  obtain ⟨a, dx, e1, ha⟩ := rep_frac r1
  obtain ⟨b, dy, e2, hb⟩ := rep_frac r2
  exact ⟨a, b, dx, dy, _, _, e1, e2, hw _ _ ha, hw _ _ hb, B.P, W, _, K, hw, pl, .cons r1 (.one r2), h, fun d v W' H' kd s r => k d v W' H' s r kd⟩
/-! ### all forms of an operator -/
def rAddI : R2 := rI0 fun i j => .int (i + j)
def rSubI : R2 := rI0 fun i j => .int (i - j)
def rMulI : R2 := rI CMulW fun i j => .int (i * j)
/-- int, then own -/
def rU (r r' : R2) : R2 := fun x y H Q => r x y H Q ∨ r' x y H Q
theorem op_U {X : Cx} {f : Value → Value → Sem Value} {r r' : R2} (h : OpR X f r) (h' : OpR X f r') : OpR X f (rU r r') := OpR.or h h'
theorem rk_U1 {r r' : R2} {d1 d2 : D} (h : RK C B r d1 d2 K) : RK C B (rU r r') d1 d2 K := RK.or1 h
theorem rk_U2 {r r' : R2} {d1 d2 : D} (h : RK C B r' d1 d2 K) : RK C B (rU r r') d1 d2 K := RK.or2 h
theorem op_addI {X : Cx} : OpR X (binaryOp .Add) rAddI := op_add
theorem op_subI {X : Cx} : OpR X (binaryOp .Sub) rSubI := op_sub
theorem op_mulI {X : Cx} : OpR X (binaryOp .Mult) rMulI := op_mulW
theorem rk_add {i j : Int} (k : K (.int (i + j))) : RK C B rAddI (.int i) (.int j) K := rk_I0 (d := .int (i + j)) (fun _ => .int _) k
theorem rk_sub {i j : Int} (k : K (.int (i - j))) : RK C B rSubI (.int i) (.int j) K := rk_I0 (d := .int (i - j)) (fun _ => .int _) k
theorem rk_mul {i j : Int} (h : CMulW i j) (k : K (.int (i * j))) : RK C B rMulI (.int i) (.int j) K := rk_I (d := .int (i * j)) (fun _ => .int _) h k
def rDivI : R2 := rI CDivW fun i j => .int (i / j)
theorem op_divI {X : Cx} : OpR X (binaryOp .FloorDiv) rDivI := op_fdivW
theorem rk_div {i j : Int} (h : CDivW i j) (k : K (.int (i / j))) : RK C B rDivI (.int i) (.int j) K := rk_I (d := .int (i / j)) (fun _ => .int _) h k
def rModI : R2 := rI (fun _ j => 0 < j) fun i j => .int (i % j)
theorem op_modI {X : Cx} : OpR X (binaryOp .Mod) rModI := op_mod
theorem rk_mod {i j : Int} (h : 0 < j) (k : K (.int (i % j))) : RK C B rModI (.int i) (.int j) K := rk_I (d := .int (i % j)) (fun _ => .int _) h k
def rLtI : R2 := rI0 fun i j => .bl (decide (i < j))
def rLeI : R2 := rI0 fun i j => .bl (decide (i ≤ j))
def rGtI : R2 := rI0 fun i j => .bl (decide (j < i))
def rGeI : R2 := rI0 fun i j => .bl (decide (j ≤ i))
theorem op_ltI {X : Cx} : OpR X (compareOp .Lt) rLtI := op_lt
theorem op_leI {X : Cx} : OpR X (compareOp .LtE) rLeI := op_le
theorem op_gtI {X : Cx} : OpR X (compareOp .Gt) rGtI := op_gt
theorem op_geI {X : Cx} : OpR X (compareOp .GtE) rGeI := op_ge
theorem rk_lt {i j : Int} (k : K (.bl (decide (i < j)))) : RK C B rLtI (.int i) (.int j) K := rk_I0 (d := .bl (decide (i < j))) (fun _ => .bl _) k
theorem rk_le {i j : Int} (k : K (.bl (decide (i ≤ j)))) : RK C B rLeI (.int i) (.int j) K := rk_I0 (d := .bl (decide (i ≤ j))) (fun _ => .bl _) k
theorem rk_gt {i j : Int} (k : K (.bl (decide (j < i)))) : RK C B rGtI (.int i) (.int j) K := rk_I0 (d := .bl (decide (j < i))) (fun _ => .bl _) k
theorem rk_ge {i j : Int} (k : K (.bl (decide (j ≤ i)))) : RK C B rGeI (.int i) (.int j) K := rk_I0 (d := .bl (decide (j ≤ i))) (fun _ => .bl _) k
theorem rk_eqI {i j : Int} (k : K (.bl (decide (i = j)))) : RK C B rEq (.int i) (.int j) K := rk_eq (v1 := .int i) (v2 := .int j) rfl rfl rfl (by
  rw [show decide (V.int i = V.int j) = decide (i = j) from decide_eq_decide.mpr ⟨fun h => by injection h, fun h => by rw [h]⟩]
  exact k)
theorem rk_neI {i j : Int} (k : K (.bl (!decide (i = j)))) : RK C B rNe (.int i) (.int j) K := rk_ne (v1 := .int i) (v2 := .int j) rfl rfl rfl (by
  rw [show decide (V.int i = V.int j) = decide (i = j) from decide_eq_decide.mpr ⟨fun h => by injection h, fun h => by rw [h]⟩]
  exact k)
def rIsN : R2 := fun x y H Q => y = .non ∧ Q (.bl (decide (x = .non))) H
def rNotN : R2 := fun x y H Q => y = .non ∧ Q (.bl (!decide (x = .non))) H
theorem op_isNon {X : Cx} : OpR X (compareOp .Is) rIsN := op_isN
theorem op_notNon {X : Cx} : OpR X (compareOp .IsNot) rNotN := op_notN
def D.isN : D → Bool
  | .non => true
  | _ => false
theorem rep_isN {P : Option Addr} {W : Hp} {v : V} {d : D} (r : Rep C P W v d) : decide (v = .non) = d.isN := by
  cases r <;> rfl
theorem rk_isN {d : D} (k : K (.bl d.isN)) : RK C B rIsN d .non K := fun W H hw pl v1 v2 r1 r2 Q q => by
  cases r2
  exact ⟨rfl, q _ _ W H (.refl hw) (.bl _) (by rw [rep_isN r1]; exact k)⟩
theorem rk_notN {d : D} (k : K (.bl (!d.isN))) : RK C B rNotN d .non K := fun W H hw pl v1 v2 r1 r2 Q q => by
  cases r2
  exact ⟨rfl, q _ _ W H (.refl hw) (.bl _) (by rw [rep_isN r1]; exact k)⟩
/-- chains -/
theorem ek_chain {r r' : R2} {tc : TE} (h : EK C B Γ ta fun d1 => EK C B Γ tb fun d2 => RK C B r d1 d2 fun z => ∃ b, z = .bl b ∧ (b = true → EK C B Γ tc fun d3 => RK C B r' d2 d3 K) ∧ (b = false → K (.bl false))) : EK C B Γ (tChain r r' ta tb tc) K := fun W H σ e Q q =>
  h W H σ e _ fun d1 v1 W1 H1 s1 r1 h1 => h1 W1 H1 σ (e.step s1) _ fun d2 v2 W2 H2 s2 r2 h2 =>
    h2 W2 H2 s2.wh ((e.pl.step s1).step s2) v1 v2 (r1.mono s2.ww) r2 _ fun z zv W3 H3 s3 r3 ⟨b, ez, k1, k2⟩ => by
      subst ez; cases r3
      refine ⟨b, rfl, ?_⟩
      have s123 := (s1.trans s2).trans s3
      cases b with
      | false => exact q _ _ W3 H3 s123 (.bl false) (k2 rfl)
      | true =>
        show tc σ H3 _
        exact k1 rfl W3 H3 σ (e.step s123) _ fun d3 v3 W4 H4 s4 r4 h4 => h4 W4 H4 s4.wh ((e.pl.step s123).step s4) v2 v3 (r2.mono (s3.trans s4).ww) r4 Q fun d v W5 H5 s5 r5 k => q d v W5 H5 ((s123.trans s4).trans s5) r5 k
/-- + and * of lists -/
theorem ef_cat {K : List D → Prop} (h : EL C B Γ ta fun k l => k = .l ∧ EL C B Γ tb fun k' m => k' = .l ∧ l.length + m.length ≤ sizeLine ∧ K (l ++ m)) : EF C B Γ (tOp rCat ta tb) K := fun W H σ e Q q =>
  h W H σ e _ fun k l a vs W1 H1 s1 ha hP hT r1 ⟨hk, h1⟩ => h1 W1 H1 σ (e.step s1) _ fun k' m b ws W2 H2 s2 hb hP2 hT2 r2 ⟨hk', hz, h2⟩ => by
    subst hk; subst hk'
    have ha2 := s2.hh _ _ ha hP (fun z => nomatch z)
    refine ⟨a, b, vs, ws, rfl, rfl, ha2, hb, by rw [r1.length, r2.length]; exact hz, fun p hp => ?_⟩
    have s12 := s1.trans s2
    have s3 := Stp.own (C := C) (P := B.P) (S := none) (o := .lst (vs ++ ws)) s12.wh hp (e.pl.step s12).ne
    have hW : W2 p = none := by
      cases z : W2 p with
      | none => rfl
      | some o => rw [s12.wh _ _ z] at hp; cases hp
    exact q (l ++ m) p (vs ++ ws) _ _ (s12.trans s3) (s12.free hp) hW upd_same ((r1.mono s2.ww).append r2) h2
theorem ef_rep {K : List D → Prop} (h : EL C B Γ ta fun k l => k = .l ∧ EK C B Γ tb fun d => ∃ n : Int, d = .int n ∧ -(2 ^ 63) ≤ n ∧ n < 2 ^ 63 ∧ l.length * n.toNat ≤ sizeLine ∧ K (List.replicate n.toNat l).flatten) : EF C B Γ (tOp rRep ta tb) K := fun W H σ e Q q =>
  h W H σ e _ fun k l a vs W1 H1 s1 ha hP hT r1 ⟨hk, h1⟩ => h1 W1 H1 σ (e.step s1) _ fun d v2 W2 H2 s2 r2 ⟨n, e2, hz1, hz2, hz3, h2⟩ => by
    subst hk; subst e2
    cases r2
    have ha2 := s2.hh _ _ ha hP (fun z => nomatch z)
    refine ⟨a, n, vs, rfl, rfl, ha2, hz1, hz2, by rw [r1.length]; exact hz3, fun p hp => ?_⟩
    have s12 := s1.trans s2
    have s3 := Stp.own (C := C) (P := B.P) (S := none) (o := .lst (List.replicate n.toNat vs).flatten) s12.wh hp (e.pl.step s12).ne
    have hW : W2 p = none := by
      cases z : W2 p with
      | none => rfl
      | some o => rw [s12.wh _ _ z] at hp; cases hp
    exact q _ p _ _ _ (s12.trans s3) (s12.free hp) hW upd_same ((r1.mono s2.ww).rep n.toNat) h2
/-- slices -/
def OK (C : Cl) (B : Bs) (Γ : List Sl) (to : TO) (K : Option Int → Prop) : Prop := ∀ W H σ, EnvOk C B W H σ Γ → ∀ Q : Option Int → Hp → Prop, (∀ o W' H', Stp C B.P none W H W' H' → K o → Q o H') → to σ H Q
theorem ok_none {K : Option Int → Prop} (k : K none) : OK C B Γ tNoPart K := fun W H σ e Q q => q none W H (.refl e.wh) k
theorem ok_some {K : Option Int → Prop} (h : EK C B Γ te fun d => ∃ i, d = .int i ∧ K (some i)) : OK C B Γ (tPart te) K := fun W H σ e Q q =>
  h W H σ e _ fun d v W1 H1 s1 r1 ⟨i, e0, k⟩ => by
    subst e0; cases r1
    exact ⟨i, rfl, q _ W1 H1 s1 k⟩
def cutD (l : List D) (lo hi : Option Int) : List D := (l.drop (HT.sIx l.length 0 lo)).take (HT.sIx l.length l.length hi - HT.sIx l.length 0 lo)
theorem ef_slice {K : List D → Prop} {tl th : TO} (h : EL C B Γ ta fun k l => k = .l ∧ OK C B Γ tl fun lo => OK C B Γ th fun hi => K (cutD l lo hi)) : EF C B Γ (tSl (rSlL KK) ta tl th) K := fun W H σ e Q q =>
  h W H σ e _ fun k l a vs W1 H1 s1 ha hP hT r1 ⟨hk, h1⟩ => h1 W1 H1 σ (e.step s1) _ fun lo W2 H2 s2 h2 => h2 W2 H2 σ ((e.step s1).step s2) _ fun hi W3 H3 s3 h3 => by
    subst hk
    have s23 := s2.trans s3
    have ha2 := s23.hh _ _ ha hP (fun z => nomatch z)
    have s13 := s1.trans s23
    refine ⟨a, vs, rfl, SqL.of ha2, fun p hp => ?_⟩
    have s4 := Stp.own (C := C) (P := B.P) (S := none) (o := .lst (cutV vs lo hi)) s13.wh hp (e.pl.step s13).ne
    have hW : W3 p = none := by
      cases z : W3 p with
      | none => rfl
      | some o => rw [s13.wh _ _ z] at hp; cases hp
    exact q _ p _ _ _ (s13.trans s4) (s13.free hp) hW upd_same ((r1.mono s23.ww).cut lo hi) h3
end

/-! ### a def -/
def G0 (N : List Str) (l : List D) : List Sl := l.map Sl.d ++ List.replicate (N.length - l.length) .no
theorem env_start {C : Cl} {P : Option Addr} {W H : Hp} {N : List Str} {vs : List V} {l : List D} (hw : Same W H) (pl : PlOk C P W H) (r : RepL C P W vs l) : EnvOk C ⟨P, none, W, H, W⟩ W H (L2.start N vs) (G0 N l) where
  stp := .refl hw
  kp := .refl W
  pl := pl
  len := by simp [L2.start, G0, r.length]
  ow := by
    have no : ∀ (i : Nat) (s : Sl), (G0 N l)[i]? = some s → s.isO = false := fun i s h => by
      unfold G0 at h
      have m := List.mem_of_getElem? h
      rcases List.mem_append.mp m with m | m
      · obtain ⟨d, _, e⟩ := List.mem_map.mp m
        subst e; rfl
      · rw [List.eq_of_mem_replicate m]; rfl
    refine ⟨fun _ => 0, fun i j s t h1 h2 h3 => ?_, fun i s h1 h2 => ?_, fun i s h => ?_⟩
    · rw [no i s h1] at h3; cases h3
    · rw [no i s h1] at h2; cases h2
    · unfold G0 at h
      by_cases hi : i < l.length
      · rw [List.getElem?_append_left (by simpa using hi), List.getElem?_map] at h
        cases hd : l[i]? with
        | none => rw [hd] at h; cases h
        | some d =>
          rw [hd] at h; cases h
          obtain ⟨v, h1, h2⟩ := r.get hd
          refine ⟨v, ?_, h2⟩
          unfold L2.start
          have hiv : i < vs.length := by rw [r.length]; exact hi
          rw [List.getD_eq_getElem?_getD, List.getElem?_append_left (by simpa using hiv), List.getElem?_map, h1]
          rfl
      · rw [List.getElem?_append_right (by simpa using hi)] at h
        have m := List.mem_of_getElem? h
        rw [List.eq_of_mem_replicate m]
        trivial
theorem sp_body {C : Cl} {S : List D → (D → Prop) → Prop} {t : TS} {N : List Str} (h : ∀ B l K, S l K → SK C B (G0 N l) t { nx := fun _ => K .non, rt := K }) (vs : List V) (H : Hp) (Q : VK) (E : XK) (q : SpOf C S vs H Q E) :
    t { nx := fun _ H' => Q .non H', rt := Q } (L2.start N vs) H := by
  obtain ⟨P, W, l, K, hw, pl, r, hS, k⟩ := q
  exact h ⟨P, none, W, H, W⟩ l K hS W H _ (env_start hw pl r) _ ⟨fun Γ W' H' σ' e z => k .non .non W' H' z e.stp .non, fun d v W' H' s r' z => k d v W' H' z s r', fun _ _ _ _ _ z => z.elim, fun _ _ _ _ _ z => z.elim⟩
/-- the promise of a def by its body -/
theorem fn_ok {P : Program} {w : World} {K : PySem.W.Frag} {mg : Str → Option Value} {base : Heap} {x qual : Str} {params : Arguments} {body : List Stmt} {scope : Scope} {dvs : List V} {kws : List (Str × V)} {f : Addr} {fd : FuncData} {N ps : List Str} {k : Nat}
    {C : Cl} {S : List D → (D → Prop) → Prop} (F : FunD K x qual params body scope dvs kws f fd) (sc : FnScope N ps scope) (len : ∀ l K, S l K → l.length = ps.length)
    (hb : ∀ (cdv : Value) (A : Around) (outer : List Env) (s : Shared) (H : Hp) (E : XK), Room k (A.deeper (envOfC qual scope s.heap.objs.size f cdv)) →
      ∃ t, PSs (cxOf (L2.CX P w) P w K mg base N qual scope f cdv A outer s H E).nox body t ∧ ∀ B l K, S l K → SK C B (G0 N l) t { nx := fun _ => K .non, rt := K }) : FnOk P w K mg base (L2.CX P w) (k + 1) f fd ps (SpOf C S) :=
  F.ok sc (fun vs H Q E ⟨P, W, l, K, _, _, r, hS, _⟩ => r.length.trans (len l K hS)) fun cdv A outer s H vs Q E hr hsp => by
    obtain ⟨t, h1, h2⟩ := hb cdv A outer s H E hr
    exact ⟨t, h1.nox, sp_body h2 vs H Q E hsp⟩
end G
end

section
set_option maxRecDepth 100000
set_option maxHeartbeats 2000000
/-! the data layer: statements with their ends as arguments; calls by names -/
namespace G
open PySem PySem.Spec PyProof.Rows L2

/-- nx: behind it; rt: what is returned; bk, ct: break, continue -/
def SX (C : Cl) (B : Bs) (Γ : List Sl) (t : TS) (nx : List Sl → Prop) (rt : D → Prop) (bk ct : List Sl → Prop) : Prop := SK C B Γ t ⟨nx, rt, bk, ct⟩
section
variable {C : Cl} {B : Bs} {Γ : List Sl} {ta tb te : TE} {tt : TT} {t u : TS} {nx bk ct : List Sl → Prop} {rt : D → Prop} {KK : PySem.W.Frag}
theorem sx_seq (h : SX C B Γ t (fun Γ' => SX C B Γ' u nx rt bk ct) rt bk ct) : SX C B Γ (tSeq t u) nx rt bk ct := sk_seq (O := ⟨nx, rt, bk, ct⟩) h
theorem sx_cut (M : List Sl → Prop) (h : SX C B Γ t M rt bk ct) (k : ∀ Γ', M Γ' → SX C B Γ' u nx rt bk ct) : SX C B Γ (tSeq t u) nx rt bk ct := sk_cut (O := ⟨nx, rt, bk, ct⟩) M h k
theorem sx_next (h : nx Γ) : SX C B Γ tNext nx rt bk ct := sk_next (O := ⟨nx, rt, bk, ct⟩) h
theorem sx_break (h : bk Γ) : SX C B Γ tBreak nx rt bk ct := sk_break (O := ⟨nx, rt, bk, ct⟩) h
theorem sx_cont (h : ct Γ) : SX C B Γ tCont nx rt bk ct := sk_cont (O := ⟨nx, rt, bk, ct⟩) h
theorem sx_weak {Γ' : List Sl} (w : Wk Γ Γ') (h : SX C B Γ' t nx rt bk ct) : SX C B Γ t nx rt bk ct := sk_weak w h
theorem sx_freeze (i : Nat) {l : List D} (hs : Γ[i]? = some (.own l)) (h : SX C B (Γ.set i (.d (.lst l))) t nx rt bk ct) : SX C B Γ t nx rt bk ct := sk_freeze i hs h
theorem sx_asg {g : TG} (h : EK C B Γ te fun d => GK C B Γ g d nx) : SX C B Γ (tAsg te g) nx rt bk ct := sk_asg (O := ⟨nx, rt, bk, ct⟩) h
theorem sx_set {i : Nat} (hi : Nat.blt i Γ.length = true) (h : EK C B Γ te fun d => nx (Γ.set i (.d d))) : SX C B Γ (tAsg te (gName i)) nx rt bk ct := sk_asg (O := ⟨nx, rt, bk, ct⟩) (h.mono fun d k => gk_name k hi)
theorem sx_setO {i : Nat} (hi : Nat.blt i Γ.length = true) (h : EF C B Γ te fun l => nx (Γ.set i (.own l))) : SX C B Γ (tAsg te (gName i)) nx rt bk ct := sk_asgO (O := ⟨nx, rt, bk, ct⟩) h hi
theorem sx_ret (h : EK C B Γ te rt) : SX C B Γ (tRet te) nx rt bk ct := sk_ret (O := ⟨nx, rt, bk, ct⟩) h
theorem sx_drop (h : EK C B Γ te fun _ => nx Γ) : SX C B Γ (tDrop te) nx rt bk ct := sk_drop (O := ⟨nx, rt, bk, ct⟩) h
theorem sx_if (h : TK C B Γ tt fun b => (b = true → SX C B Γ t nx rt bk ct) ∧ (b = false → SX C B Γ u nx rt bk ct)) : SX C B Γ (tIfS tt t u) nx rt bk ct := sk_if (O := ⟨nx, rt, bk, ct⟩) h
theorem sx_append {i : Nat} {l : List D} (hs : Γ[i]? = some (.own l)) (h : EK C B Γ te fun d => l.length < sizeLine ∧ nx (Γ.set i (.own (l ++ [d])))) : SX C B Γ (tDrop (tBM KK "list" rAppend (tVar i) (tCons te tNil))) nx rt bk ct := sk_append (O := ⟨nx, rt, bk, ct⟩) hs h
theorem sx_never (h : False) : SX C B Γ tNever nx rt bk ct := h.elim
/-- own[i] = v -/
theorem sx_setI {i : Nat} {l : List D} {ti : TE} (hs : Γ[i]? = some (.own l)) (h : EK C B Γ te fun d => EK C B Γ ti fun d2 => ∃ k j, d2 = .int k ∧ ixN l.length k = some j ∧ nx (Γ.set i (.own (l.set j d)))) : SX C B Γ (tAsg te (gSub (tVar i) ti rSetL)) nx rt bk ct :=
  sk_asg (O := ⟨nx, rt, bk, ct⟩) (h.mono fun d k => gk_sub hs k)
/-- a, b = x, y -/
theorem sx_par {i j : Nat} {ta : TA} (hi : Nat.blt i Γ.length = true) (hj : Nat.blt j Γ.length = true) (h : AK C B Γ ta fun l => ∃ x y, l = [x, y] ∧ nx ((Γ.set i (.d x)).set j (.d y))) : SX C B Γ (tPar i j ta) nx rt bk ct := fun W H σ e D' s =>
  h W H σ e _ fun l vs W1 H1 s1 r1 ⟨x, y, e0, k⟩ => by
    subst e0
    cases r1 with
    | cons r1 r2 =>
      cases r2 with
      | cons r2 r3 =>
        cases r3
        exact ⟨_, _, rfl, s.nx _ W1 H1 _ (((e.step s1).setD (Nat.le_of_ble_eq_true hi) r1).setD (by rw [List.length_set]; exact Nat.le_of_ble_eq_true hj) r2) k⟩
/-- a loop whose target is a name -/
theorem sx_for {wi : TI} {i : Nat} (hi : ∀ Γ' : List Sl, Γ'.length = Γ.length → Nat.blt i Γ'.length = true) (h : IK C B Γ wi fun l => ∃ I : Nat → List Sl → Prop, I 0 Γ ∧ (∀ j Γ', I j Γ' → Γ'.length = Γ.length) ∧
      (∀ B' j d Γ', l[j]? = some d → I j Γ' → SX C B' (Γ'.set i (.d d)) t (I (j + 1)) rt nx (I (j + 1))) ∧ ∀ Γ', I l.length Γ' → nx Γ') : SX C B Γ (tFor wi (gName i) t) nx rt bk ct :=
  sk_for (O := ⟨nx, rt, bk, ct⟩) fun W H σ e R q => h W H σ e R fun J W' H' l s y ⟨I, h0, hl, hs, hd⟩ => q J W' H' l s y ⟨I, h0, fun W1 j d Γ' h1 h2 => gk_name (hs (B.keep W1) j d Γ' h1 h2) (hi Γ' (hl j Γ' h2)), hd⟩
/-- a loop with any target -/
theorem sx_forG {wi : TI} {g : TG} (h : IK C B Γ wi fun l => ∃ I : Nat → List Sl → Prop, I 0 Γ ∧
      (∀ B' j d Γ', l[j]? = some d → I j Γ' → GK C B' Γ' g d fun Γ2 => SX C B' Γ2 t (I (j + 1)) rt nx (I (j + 1))) ∧ ∀ Γ', I l.length Γ' → nx Γ') : SX C B Γ (tFor wi g t) nx rt bk ct :=
  sk_for (O := ⟨nx, rt, bk, ct⟩) fun W H σ e R q => h W H σ e R fun J W' H' l s y ⟨I, h0, hs, hd⟩ => q J W' H' l s y ⟨I, h0, fun W1 j d Γ' h1 h2 => hs (B.keep W1) j d Γ' h1 h2, hd⟩
theorem sx_while {tc : TT} (I : Nat → List Sl → Prop) (h0 : ∃ m, I m Γ) (hs : ∀ m Γ', I m Γ' → TK C B Γ' tc fun b => (b = true → SX C B Γ' t (fun Γ2 => ∃ m', m' < m ∧ I m' Γ2) rt nx (fun Γ2 => ∃ m', m' < m ∧ I m' Γ2)) ∧ (b = false → nx Γ')) :
    SX C B Γ (tWhile tc t) nx rt bk ct := sk_while (O := ⟨nx, rt, bk, ct⟩) I h0 hs
theorem sx_mono {nx' bk' ct' : List Sl → Prop} {rt' : D → Prop} (h : SX C B Γ t nx rt bk ct) (n : ∀ Γ, nx Γ → nx' Γ) (r : ∀ d, rt d → rt' d) (b : ∀ Γ, bk Γ → bk' Γ) (c : ∀ Γ, ct Γ → ct' Γ) : SX C B Γ t nx' rt' bk' ct' := SK.mono h n r b c
end

/-! ### objects that are made -/
def putD (f : Str) (v : D) : List (Str × D) → List (Str × D)
  | [] => [(f, v)]
  | (g, x) :: r => if g = f then (g, v) :: r else (g, x) :: putD f v r
theorem put_rep {C : Cl} {P : Option Addr} {W : Hp} {f : Str} {v : V} {d : D} (h : Rep C P W v d) : ∀ {fs : List (Str × V)} {l : List (Str × D)}, fs.map (·.1) = l.map (·.1) → RepL C P W (fs.map (·.2)) (l.map (·.2)) →
    (putF f v fs).map (·.1) = (putD f d l).map (·.1) ∧ RepL C P W ((putF f v fs).map (·.2)) ((putD f d l).map (·.2))
  | [], [], _, _ => ⟨rfl, .one h⟩
  | [], _ :: _, e, _ => by cases e
  | _ :: _, [], e, _ => by cases e
  | (g, x) :: fs, (g', y) :: l, e, r => by
    have h1 : g = g' := by simp at e; exact e.1
    have h2 : fs.map (·.1) = l.map (·.1) := by simp at e; exact e.2
    subst h1
    cases r with
    | cons r rr =>
      obtain ⟨i1, i2⟩ := put_rep (f := f) h h2 rr
      show (if g = f then (g, v) :: fs else (g, x) :: putF f v fs).map (·.1) = (if g = f then (g, d) :: l else (g, y) :: putD f d l).map (·.1) ∧ RepL C P W ((if g = f then (g, v) :: fs else (g, x) :: putF f v fs).map (·.2)) ((if g = f then (g, d) :: l else (g, y) :: putD f d l).map (·.2))
      by_cases hg : g = f
      · rw [if_pos hg, if_pos hg]
        exact ⟨by simp [h2], .cons h rr⟩
      · rw [if_neg hg, if_neg hg]
        exact ⟨by simp [i1], .cons r i2⟩
section
variable {C : Cl} {B : Bs} {Γ : List Sl} {te : TE} {nx bk ct : List Sl → Prop} {rt : D → Prop} {KK : PySem.W.Frag}
theorem sx_fld {i : Nat} {A : Addr} {fl : List (Str × D)} {f : Str} (hs : Γ[i]? = some (.ins A fl)) (c : Cls KK A) (n : NoAttr KK A f) (hl : fl.length < 1000) (h : EK C B Γ te fun d => nx (Γ.set i (.ins A (putD f d fl)))) : SX C B Γ (sFld KK (tVar i) te f) nx rt bk ct := fun W H σ e D' s =>
  h W H σ e _ fun d v W1 H1 s1 r1 k => by
    have e1 := e.step s1
    obtain ⟨ow, o⟩ := e1.ow
    obtain ⟨h1, dx, fs, h2, h3, h4⟩ := o.ok i _ hs
    have hlen : fs.length = fl.length := by have := congrArg List.length h3; simpa using this
    refine ⟨_, getD_some h1, ow i, A, dx, fs, rfl, h2, c, n, by omega, ?_⟩
    obtain ⟨ow2, o3, g⟩ := e1.chg (u := .ins A dx (putF f v fs)) (t := .ins A (putD f d fl)) hs rfl rfl rfl
    have ee : ow2 i = ow i := by
      obtain ⟨g1, _⟩ := o3.ok i _ hs
      rw [h1] at g1
      injection g1 with g1
      injection g1 with g1
      exact g1.symm
    rw [ee] at g
    obtain ⟨p1, p2⟩ := put_rep (f := f) r1 h3 h4
    exact s.nx _ W1 _ σ (g ⟨h1, dx, _, upd_same, p1, p2⟩) k
end
def fracL (q : Rat) : List (Str × D) := [("num", .int q.num), ("den", .int q.den)]
/-- what an __init__ promises -/
def SpI (C : Cl) (A : Addr) (S : List D → (List (Str × D) → Prop) → Prop) : Sp := fun vs H Q _ => ∃ P W p dx us l K, vs = .ref p :: us ∧ H p = some (.ins A dx []) ∧ W p = none ∧ P ≠ some p ∧ Same W H ∧ PlOk C P W H ∧ RepL C P W us l ∧ S l K ∧
  ∀ fl fs dx' W' H', K fl → Stp C P (some p) W H W' H' → H' p = some (.ins A dx' fs) → W' p = none → fs.map (·.1) = fl.map (·.1) → RepL C P W' (fs.map (·.2)) (fl.map (·.2)) → Q .non H'
theorem env_startI {C : Cl} {P : Option Addr} {W H : Hp} {A p dx : Addr} {x : Str} {N : List Str} {vs : List V} {l : List D} (hp : H p = some (.ins A dx [])) (hW : W p = none) (hP : P ≠ some p) (hw : Same W H) (pl : PlOk C P W H) (r : RepL C P W vs l) :
    EnvOk C ⟨P, some p, W, H, W⟩ W H (L2.start (x :: N) (.ref p :: vs)) (.ins A [] :: G0 N l) := by
  have e := env_start (N := N) hw pl r
  obtain ⟨ow, o⟩ := e.ow
  have st : L2.start (x :: N) (.ref p :: vs) = some (.ref p) :: L2.start N vs := by
    unfold L2.start
    simp
  rw [st]
  have no : ∀ (i : Nat) (s : Sl), (G0 N l)[i]? = some s → s.isO = false := fun i s h => by
    unfold G0 at h
    have m := List.mem_of_getElem? h
    rcases List.mem_append.mp m with m | m
    · obtain ⟨d, _, e⟩ := List.mem_map.mp m
      subst e; rfl
    · rw [List.eq_of_mem_replicate m]; rfl
  refine ⟨.refl hw, .refl W, pl, by have := e.len; simpa using this, fun _ => p, fun i j s t h1 h2 h3 h4 _ => ?_, fun i s h1 h2 => ?_, fun i s h => ?_⟩
  · cases i with
    | succ i => rw [no i s (by simpa using h1)] at h3; cases h3
    | zero =>
      cases j with
      | succ j => rw [no j t (by simpa using h2)] at h4; cases h4
      | zero => rfl
  · cases i with
    | succ i => rw [no i s (by simpa using h1)] at h2; cases h2
    | zero =>
      simp at h1; subst h1
      exact ⟨hW, hP, fun z => Bool.noConfusion z, fun _ => rfl⟩
  · cases i with
    | zero =>
      simp at h; subst h
      exact ⟨rfl, dx, [], hp, rfl, .nil⟩
    | succ i =>
      have k := o.ok i s (by simpa using h)
      have hn := no i s (by simpa using h)
      cases s with
      | no => trivial
      | d x => exact k
      | own l => cases hn
      | ins c l => cases hn
theorem sp_bodyI {C : Cl} {A : Addr} {S : List D → (List (Str × D) → Prop) → Prop} {t : TS} {x : Str} {N : List Str} (h : ∀ B l K, S l K → SX C B (.ins A [] :: G0 N l) t (fun Γ => ∃ fl, Γ[0]? = some (.ins A fl) ∧ K fl) (fun _ => False) (fun _ => False) (fun _ => False)) (vs : List V) (H : Hp) (Q : VK) (E : XK) (q : SpI C A S vs H Q E) :
    t { nx := fun _ H' => Q .non H', rt := Q } (L2.start (x :: N) vs) H := by
  obtain ⟨P, W, p, dx, us, l, K, rfl, hp, hW, hP, hw, pl, r, hS, k⟩ := q
  refine h ⟨P, some p, W, H, W⟩ l K hS W H _ (env_startI hp hW hP hw pl r) _ ⟨fun Γ W' H' σ' e z => ?_, fun _ _ _ _ _ _ z => z.elim, fun _ _ _ _ _ z => z.elim, fun _ _ _ _ _ z => z.elim⟩
  obtain ⟨fl, h0, kf⟩ := z
  obtain ⟨ow, o⟩ := e.ow
  obtain ⟨f1, _, _, f4⟩ := o.fr 0 _ h0 rfl
  obtain ⟨_, dx', fs, g1, g2, g3⟩ := o.ok 0 _ h0
  have f5 : (some p : Option Addr) = some (ow 0) := f4 rfl
  have f6 : p = ow 0 := Option.some.inj f5
  rw [← f6] at f1 g1
  exact k fl fs dx' W' H' kf e.stp g1 f1 g2 g3
section
variable {C : Cl} {B : Bs} {Γ : List Sl} {K : D → Prop}
/-- a new object is data -/
theorem ek_make {A : Addr} {S : List D → (List (Str × D) → Prop) → Prop} {dvs : List V} {dds : List D} {ta : TA} (hd : ∀ W, RepL C B.P W dvs dds)
    (R : List (Str × D) → D → Prop) (hR : ∀ (W : Hp) (x dx : Addr) (fs : List (Str × V)) (fl : List (Str × D)) (d : D), R fl d → W x = some (.ins A dx fs) → fs.map (·.1) = fl.map (·.1) → RepL C B.P W (fs.map (·.2)) (fl.map (·.2)) → Rep C B.P W (.ref x) d)
    (h : AK C B Γ ta fun l => S (l ++ dds) fun fl => ∃ d, R fl d ∧ K d) : EK C B Γ (tMake A (SpI C A S) dvs E0 ta) K := fun W H σ e Q q =>
  h W H σ e _ fun l vs W1 H1 s1 r1 h1 x dx hx hdx hne => by
    have pl := e.pl.step s1
    have hP : B.P ≠ some x := fun z => pl.ne x z hx
    have hP2 : B.P ≠ some dx := fun z => pl.ne dx z hdx
    have nW : ∀ a, H1 a = none → W1 a = none := fun a ha => by
      cases z : W1 a with
      | none => rfl
      | some o => rw [s1.wh _ _ z] at ha; cases ha
    have up : ∀ a o, H1 a = some o → (upd (upd H1 dx (.own x)) x (.ins A dx [])) a = some o := fun a o ha => by
      rw [upd_ne (ne_of_none ha hx), upd_ne (ne_of_none ha hdx)]; exact ha
    refine ⟨B.P, W1, x, dx, vs ++ dvs, l ++ dds, _, rfl, upd_same, nW x hx, hP, fun a o z => up a o (s1.wh a o z), fun a z => ?_, r1.append (hd W1), h1, fun fl fs dx' W' H' ⟨d, hRd, kd⟩ st g1 g2 g3 g4 => ⟨rfl, ?_⟩⟩
    · have hax : a ≠ x := fun y => by subst y; exact hP z
      have had : a ≠ dx := fun y => by subst y; exact hP2 z
      rw [upd_ne hax, upd_ne had]
      exact pl a z
    · have ww : Same W' (upd W' x (.ins A dx' fs)) := fun a o z => by
        rw [upd_ne (fun y => by subst y; rw [g2] at z; cases z)]; exact z
      refine q d (.ref x) (upd W' x (.ins A dx' fs)) H' ⟨(s1.ww.trans st.ww).trans ww, fun a o z => ?_, fun a o z p _ => ?_, fun a o z => ?_, fun a o z => ?_, fun a z w => ?_⟩ (hR _ x dx' fs fl d hRd upd_same g3 (g4.mono ww)) kd
      · by_cases ha : a = x
        · subst ha; rw [upd_same] at z; cases z; exact g1
        · rw [upd_ne ha] at z; exact st.wh a o z
      · have z1 := s1.hh a o z p (fun y => nomatch y)
        exact st.hh a o (up a o z1) p fun y => by cases y; rw [hx] at z1; cases z1
      · obtain ⟨o1, z1⟩ := s1.dom a o z
        exact st.dom a o1 (up a o1 z1)
      · obtain ⟨o1, z1⟩ := s1.dom a o z
        rw [upd_ne (ne_of_none z1 hx)]
        exact (st.old a o1 (up a o1 z1)).trans (s1.old a o z)
      · have w1 := s1.pool a z w
        obtain ⟨o1, z1⟩ := C.pks w1
        refine C.pkm ww (st.pool a z ?_)
        rw [up a o1 z1, ← z1]
        exact w1
theorem ek_mkO {c : Nat} {S : List D → (List (Str × D) → Prop) → Prop} {dvs : List V} {dds : List D} {ta : TA} (hd : ∀ W, RepL C B.P W dvs dds)
    (h : AK C B Γ ta fun l => S (l ++ dds) fun fl => K (.obj c fl)) : EK C B Γ (tMake (C.cls c) (SpI C (C.cls c) S) dvs E0 ta) K :=
  ek_make hd (fun fl d => d = .obj c fl) (fun W x dx fs fl d e h1 h2 h3 => by subst e; exact .obj h1 h2 h3)
    (fun W H σ e Q q => h W H σ e Q fun l vs W' H' s r k => q l vs W' H' s r (by
      have : (fun fl => ∃ d, d = D.obj c fl ∧ K d) = fun fl => K (.obj c fl) := by
        funext fl; exact propext ⟨fun ⟨d, e, k⟩ => e ▸ k, fun k => ⟨_, rfl, k⟩⟩
      rw [this]; exact k))
theorem ek_mkF {S : List D → (List (Str × D) → Prop) → Prop} {dvs : List V} {dds : List D} {ta : TA} (hd : ∀ W, RepL C B.P W dvs dds)
    (h : AK C B Γ ta fun l => S (l ++ dds) fun fl => ∃ q : Rat, fl = fracL q ∧ K (.frac q)) : EK C B Γ (tMake C.frac (SpI C C.frac S) dvs E0 ta) K :=
  ek_make hd (fun fl d => ∃ q : Rat, fl = fracL q ∧ d = .frac q) (fun W x dx fs fl d ⟨q, e1, e2⟩ h1 h2 h3 => by
      subst e1; subst e2
      match fs, h2, h3 with
      | [(a, v), (b, u)], h2, h3 =>
        have ha : a = "num" := by have := congrArg List.head? h2; simpa [fracL] using this
        have hb : b = "den" := by have := congrArg (fun l => l[1]?) h2; simpa [fracL] using this
        subst ha; subst hb
        cases h3 with
        | cons g1 g2 =>
          cases g2 with
          | cons g2 g3 =>
            cases g1; cases g2; cases g3
            exact .frac h1)
    (fun W H σ e Q q => h W H σ e Q fun l vs W' H' s r k => q l vs W' H' s r (by
      have : (fun fl => ∃ d, (∃ q : Rat, fl = fracL q ∧ d = D.frac q) ∧ K d) = fun fl : List (Str × D) => ∃ q : Rat, fl = fracL q ∧ K (.frac q) := by
        funext fl; exact propext ⟨fun ⟨d, ⟨q, e1, e2⟩, k⟩ => ⟨q, e1, e2 ▸ k⟩, fun ⟨q, e1, k⟩ => ⟨_, ⟨q, e1, rfl⟩, k⟩⟩
      rw [this]; exact k))
end

/-! ### calls by names -/
/-- the def that the module's name x stands for keeps a promise -/
def Cal (P : Program) (w : World) (K : PySem.W.Frag) (mg : Str → Option Value) (base : Heap) (k : Nat) (x : Str) (ps : List Str) (sp : Sp) : Prop :=
  mg x = some (.ref (He.ga K x)) ∧ PySem.W.keepIn K (.ref (He.ga K x)) = true ∧ ∃ fd, FnOk P w K mg base (L2.CX P w) k (He.ga K x) fd ps sp ∧ Binds K fd ps []
section
variable {X : Cx} {k j : Nat} {x : Str} {ps : List Str} {sp : Sp} {p pos : Pos} {e : Expr} {es : List Expr} {t : TA}
theorem pe_calC (c : Cal X.prog X.w X.K X.mg X.base k x ps sp) (hr : Room j X.A) (hk : k ≤ j) (hg : Gl X x) (ha : PA X (e :: es) t) (hdb : (x == ("__debug__" : Str)) = false := by decide)
    (he : starEach (e :: es) X.env = (false, eval e X.env) :: starEach es X.env := by rfl) (hpl : (backTo pos (starEach es X.env)).any (·.1) = false := by rfl) : PE X (.Call (.Name x p) (e :: es) [] pos) (tCall sp [] E0 t) := by
  obtain ⟨h1, h2, fd, F, b⟩ := c
  exact pe_call F (hr.mono hk) hg h1 h2 b .nil passL ha hdb he hpl
/-- a module's int -/
theorem pe_gint {i : Int} (h : ∃ t, X.mg x = some (.int i t)) (hg : Gl X x) (hd : (x == ("__debug__" : Str)) = false := by decide) : PE X (.Name x pos) (tC (.int i)) := by
  obtain ⟨t, h⟩ := h
  exact pe_glob (v := .int i) hg h ⟨t, rfl⟩ hd
theorem pe_gcls {a : Addr} (h : X.mg x = some (.ref a)) (hg : Gl X x) (hd : (x == ("__debug__" : Str)) = false := by decide) : PE X (.Name x pos) (tC (.ref a)) := pe_glob (v := .ref a) hg h rfl hd
end
/-- a def of the text -/
abbrev FnP (K : PySem.W.Frag) (x : Str) (st : Stmt) (fd : FuncData) : Prop := FunD K x x (defArgs st) (defBody st) (defScope st) [] [] (He.ga K x) fd
theorem cal_mk {P : Program} {w : World} {K : PySem.W.Frag} {mg : Str → Option Value} {base : Heap} {k : Nat} {x : Str} {st : Stmt} {N ps : List Str} {C : Cl} {S : List D → (D → Prop) → Prop} (g : mg x = some (.ref (He.ga K x))) (F : ∃ fd, FnP K x st fd) (sc : FnScope N ps (defScope st))
    (b : ∀ (kV doc pm : Value) (an : Option Addr) (cdv ct : Value) (us : List Value), us.length = ps.length → bindArgs (PySem.W.fnOf x x (defArgs st) (defBody st) (defScope st) .none kV doc pm an cdv ct) ⟨us, []⟩ = pure (ps.zip us))
    (len : ∀ l K, S l K → l.length = ps.length)
    (hb : ∀ (f : Addr) (cdv : Value) (A : Around) (outer : List Env) (s : Shared) (H : Hp) (E : XK), Room k (A.deeper (envOfC x (defScope st) s.heap.objs.size f cdv)) →
      ∃ t, PSs (cxOf (L2.CX P w) P w K mg base N x (defScope st) f cdv A outer s H E).nox (defBody st) t ∧ ∀ B l K, S l K → SX C B (G0 N l) t (fun _ => K .non) K (fun _ => False) (fun _ => False)) : Cal P w K mg base (k + 1) x ps (SpOf C S) := by
  obtain ⟨fd, F⟩ := F
  exact ⟨g, F.kp, fd, fn_ok F sc len fun cdv A outer s H E hr => hb _ cdv A outer s H E hr, F.bindsN b⟩
end G
end

section
set_option maxRecDepth 100000
set_option maxHeartbeats 2000000
/-! the data layer: classes made, methods, operators by names -/
namespace G
open PySem PySem.Spec PyProof.Rows L2
section
variable (P : Program) (w : World) (K : PySem.W.Frag) (mg : Str → Option Value) (base : Heap)
/-- C(..) -/
def CalM (k : Nat) (x : Str) (dvs : List V) (sp : Sp) : Prop := mg x = some (.ref (He.ga K x)) ∧ ∃ f fd ps ds, Mk K (He.ga K x) f ∧ FnOk P w K mg base (L2.CX P w) k f fd ps sp ∧ Binds K fd ps ds ∧ Vals dvs ds
/-- o.m(..) -/
def CalT (k : Nat) (A : Addr) (m : Str) (sp : Sp) : Prop := Cls K A ∧ ∃ f fd ps, Meth K A m f ∧ FnOk P w K mg base (L2.CX P w) k f fd ps sp ∧ Binds K fd ps []
/-- an operator -/
def CalO (k : Nat) (A : Addr) (op : Operator) (sp : Sp) : Prop := PySem.W.selfFirst K A = true ∧ ∃ f fd ps, PySem.W.findIn K (.ref A) (PySem.dunder op.info.2) = some (some (.ref f)) ∧ PySem.W.isFn K (.ref f) = true ∧ FnOk P w K mg base (L2.CX P w) k f fd ps sp ∧ Binds K fd ps []
end
section
variable {X : Cx} {k j : Nat} {x m : Str} {A : Addr} {dvs : List V} {sp : Sp} {p pos apos : Pos} {e o : Expr} {es : List Expr} {t : TA} {ta : TE} {opr : Operator}
theorem pe_mkC (c : CalM X.prog X.w X.K X.mg X.base k x dvs sp) (hr : Room j X.A) (hk : k + 1 ≤ j) (hg : Gl X x) (ha : PA X (e :: es) t) (hdb : (x == ("__debug__" : Str)) = false := by decide)
    (he : starEach (e :: es) X.env = (false, eval e X.env) :: starEach es X.env := by rfl) (hpl : (backTo pos (starEach es X.env)).any (·.1) = false := by rfl) : PE X (.Call (.Name x p) (e :: es) [] pos) (tMake (He.ga X.K x) sp dvs E0 t) := by
  obtain ⟨h1, f, fd, ps, ds, M, F, b, hd⟩ := c
  exact pe_make M F (hr.mono hk) hg h1 b hd passL ha hdb he hpl
theorem pe_mtC {pl : Sem Bool} (c : CalT X.prog X.w X.K X.mg X.base k A m sp) (hr : Room j X.A) (hk : k ≤ j) (ho : PE X o ta) (ha : PA X (e :: es) t)
    (hst : starEach (e :: es) X.env = (false, eval e X.env) :: starEach es X.env := by rfl) (hpl : (backTo pos (starEach es X.env)).any (·.1) = false := by rfl)
    (ht : eval (.Call (.Attribute o m apos) (e :: es) [] pos) X.env = (do
      let ov ← eval o X.env
      standAt apos.atName
      let (f, first) ← holding [ov] (getMethod ov m pl)
      callWith pos f first (backTo pos (starEach (e :: es) X.env)) (backToKw pos (keywordEach [] X.env))) := by rfl) :
    PE X (.Call (.Attribute o m apos) (e :: es) [] pos) (tMeth A m sp [] E0 ta t) := by
  obtain ⟨h1, f, fd, ps, M, F, b⟩ := c
  exact pe_meth ho h1 M F (hr.mono hk) b .nil passL ha hst hpl ht
theorem CalO.op (c : CalO X.prog X.w X.K X.mg X.base k A opr sp) (hr : Room j X.A) (hk : k ≤ j) : OpR X (binaryOp opr) (rOwn A sp) := by
  obtain ⟨h1, f, fd, ps, h2, h3, F, b⟩ := c
  exact op_own F h2 h3 h1 b passL (hr.mono hk)
end

/-! ### the rules with the written part named (within a comprehension's block it must be) -/
section
variable {X : Cx}
theorem ix_seqK (KK : PySem.W.Frag) (h : X.K = KK) : IxR X (rIx KK) := h ▸ ix_seq
theorem cr_lenK (KK : PySem.W.Frag) (h : X.K = KK) : CallR X (.builtin "len") (rLenU KK) := h ▸ cr_lenU
theorem cr_listK (KK : PySem.W.Frag) (h : X.K = KK) : CallR X (.type "list") (rListU KK) := h ▸ cr_listU
theorem cr_tupK (KK : PySem.W.Frag) (h : X.K = KK) : CallR X (.type "tuple") (rTupU KK) := h ▸ cr_tupU
theorem cr_isK (KK : PySem.W.Frag) (h : X.K = KK) : CallR X (.builtin "isinstance") (rIsU KK) := h ▸ cr_isU
theorem cr_sumK (KK : PySem.W.Frag) (h : X.K = KK) (hc : X.calm = true) : CallR X (.builtin "sum") (rSum KK) := h ▸ cr_sum hc
theorem cr_allK (KK : PySem.W.Frag) (h : X.K = KK) (hc : X.calm = true) : CallR X (.builtin "all") (rAll KK) := h ▸ cr_all hc
theorem cr_anyK (KK : PySem.W.Frag) (h : X.K = KK) (hc : X.calm = true) : CallR X (.builtin "any") (rAny KK) := h ▸ cr_any hc
theorem sl_listK (KK : PySem.W.Frag) (h : X.K = KK) : SlR X (rSlL KK) := h ▸ sl_list
theorem sl_tupK (KK : PySem.W.Frag) (h : X.K = KK) : SlR X (rSlT KK) := h ▸ sl_tup
section
variable {e e2 tg : Expr} {f : Str} {pos p tpos : Pos} {ta te : TE} {elts : List Expr} {kk n : Nat} {tta : TA} {es : List Expr} {gs : TGs}
theorem pe_fldK (KK : PySem.W.Frag) (h : X.K = KK) (he : PE X e ta) (hb : attributeBase e f X.env (eval e X.env) = eval e X.env) : PE X (.Attribute e f pos) (tFld KK ta f) := h ▸ pe_fld he hb
theorem pi_seqK (KK : PySem.W.Frag) (h : X.K = KK) (hl : PE X e te) : PI X tg e (iSeq KK te) := h ▸ pi_seq hl
theorem pg_tupK (KK : PySem.W.Frag) (h : X.K = KK) (hc : X.calm = true) (hg : PGs X es gs)
    (hn : (assignEach es X.env).length = n := by rfl) (hst : (assignEach es X.env).findIdx? (·.1) = none := by rfl) : PG X (.Tuple es kk pos) (gTup KK n gs) := h ▸ pg_tup hc hg hn hst
theorem pi_enumK (KK : PySem.W.Frag) (h : X.K = KK) (hg : Gl X "enumerate") (hm : X.mg "enumerate" = none) (ha : PA X [e] tta) (hs : starEach [e] X.env = [(false, eval e X.env)] := by rfl) :
    PI X (.Tuple elts kk tpos) (.Call (.Name "enumerate" p) [e] [] pos) (iEnum KK tta) := h ▸ pi_enum hg hm ha hs
theorem pi_zipK (KK : PySem.W.Frag) (h : X.K = KK) (hg : Gl X "zip") (hm : X.mg "zip" = none) (ha : PA X [e, e2] tta)
    (hs : starEach [e, e2] X.env = (false, eval e X.env) :: starEach [e2] X.env := by rfl) (hpl : (backTo pos (starEach [e2] X.env)).any (·.1) = false := by rfl) :
    PI X (.Tuple elts kk tpos) (.Call (.Name "zip" p) [e, e2] [] pos) (RZ.iZipA KK tta) := h ▸ RZ.pi_zipA hg hm ha hs hpl
theorem pi_revK (KK : PySem.W.Frag) (h : X.K = KK) (hg : Gl X "reversed") (hm : X.mg "reversed" = none) (he : PE X e te) (hs : starEach [e] X.env = (false, eval e X.env) :: starEach [] X.env := by rfl) : PI X tg (.Call (.Name "reversed" p) [e] [] pos) (RT.iRevA KK te) := h ▸ RT.pi_revA hg hm he hs
end
section
variable {k j : Nat} {x m : Str} {dvs : List V} {sp : Sp} {p pos : Pos} {e : Expr} {es : List Expr} {t : TA}
theorem pe_mkK (KK : PySem.W.Frag) (h : X.K = KK) (c : CalM X.prog X.w X.K X.mg X.base k x dvs sp) (hr : Room j X.A) (hk : k + 1 ≤ j) (hg : Gl X x) (ha : PA X (e :: es) t) (hdb : (x == ("__debug__" : Str)) = false := by decide)
    (he : starEach (e :: es) X.env = (false, eval e X.env) :: starEach es X.env := by rfl) (hpl : (backTo pos (starEach es X.env)).any (·.1) = false := by rfl) : PE X (.Call (.Name x p) (e :: es) [] pos) (tMake (He.ga KK x) sp dvs E0 t) := h ▸ pe_mkC c hr hk hg ha hdb he hpl
end
section
variable {e : Expr} {te : TE} {k : Nat} {p1 p2 p3 pos : Pos}
theorem pe_lstRevK (KK : PySem.W.Frag) (h : X.K = KK) {p q pos2 : Pos} (hc : X.calm = true) (hg : Gl X "list") (hm : X.mg "list" = none) (hg2 : Gl X "reversed") (hm2 : X.mg "reversed" = none) (he : PE X e te)
    (hs : starEach [e] X.env = (false, eval e X.env) :: starEach [] X.env := by rfl)
    (hs2 : starEach [.Call (.Name "reversed" q) [e] [] pos2] X.env = (false, eval (.Call (.Name "reversed" q) [e] [] pos2) X.env) :: starEach [] X.env := by rfl) :
    PE X (.Call (.Name "list" p) [.Call (.Name "reversed" q) [e] [] pos2] [] pos) (GRv.tLstRev KK te) := h ▸ GRv.pe_lstRev hc hg hm hg2 hm2 he hs hs2
theorem pe_revK (KK : PySem.W.Frag) (h : X.K = KK) (he : PE X e te) : PE X (.Subscript e (.Slice none none (some (.UnaryOp .USub (.Constant (.int 1) k p1) p2)) p3) pos) (tRevL KK te) := h ▸ pe_revL he
end
end
section
variable {C : Cl} {B : Bs} {Γ : List Sl} {ta : TE} {KK : PySem.W.Frag}
theorem ef_rev {K : List D → Prop} (h : EL C B Γ ta fun k l => k = .l ∧ K l.reverse) : EF C B Γ (tRevL KK ta) K := fun W H σ e Q q =>
  h W H σ e _ fun k l a vs W1 H1 s1 ha hP hT r1 ⟨hk, h1⟩ => by
    subst hk
    refine ⟨a, vs, rfl, SqL.of ha, fun p hp => ?_⟩
    have s2 := Stp.own (C := C) (P := B.P) (S := none) (o := .lst vs.reverse) s1.wh hp (e.pl.step s1).ne
    have hW : W1 p = none := by
      cases z : W1 p with
      | none => rfl
      | some o => rw [s1.wh _ _ z] at hp; cases hp
    exact q l.reverse p vs.reverse _ _ (s1.trans s2) (s1.free hp) hW upd_same r1.reverse h1
end
end G
end

section
set_option maxRecDepth 100000
set_option maxHeartbeats 2000000
/-! the data layer: methods, __init__s -/
namespace G
open PySem PySem.Spec PyProof.Rows L2
section
variable {P : Program} {w : World} {K : PySem.W.Frag} {mg : Str → Option Value} {base : Heap} {k : Nat} {x qual : Str} {params : Arguments} {body : List Stmt} {scope : Scope} {dvs : List V} {kws : List (Str × V)} {f : Addr} {N ps : List Str} {C : Cl}
/-- a method, a def with defaults -/
theorem mth_mk {S : List D → (D → Prop) → Prop} (F : ∃ fd, FunD K x qual params body scope [] [] f fd) (sc : FnScope N ps scope)
    (b : ∀ (kV doc pm : Value) (an : Option Addr) (cdv ct : Value) (us : List Value), us.length = ps.length → bindArgs (PySem.W.fnOf x qual params body scope .none kV doc pm an cdv ct) ⟨us, []⟩ = pure (ps.zip us))
    (len : ∀ l K, S l K → l.length = ps.length)
    (hb : ∀ (f : Addr) (cdv : Value) (A : Around) (outer : List Env) (s : Shared) (H : Hp) (E : XK), Room k (A.deeper (envOfC qual scope s.heap.objs.size f cdv)) →
      ∃ t, PSs (cxOf (L2.CX P w) P w K mg base N qual scope f cdv A outer s H E).nox body t ∧ ∀ B l K, S l K → SX C B (G0 N l) t (fun _ => K .non) K (fun _ => False) (fun _ => False)) :
    ∃ fd, FnOk P w K mg base (L2.CX P w) (k + 1) f fd ps (SpOf C S) ∧ Binds K fd ps [] := by
  obtain ⟨fd, F⟩ := F
  exact ⟨fd, fn_ok F sc len fun cdv A outer s H E hr => hb _ cdv A outer s H E hr, F.bindsN b⟩
/-- an __init__ -/
theorem init_mk {S : List D → (List (Str × D) → Prop) → Prop} {A0 : Addr} {self : Str} {fd : FuncData} (F : FunD K x qual params body scope dvs kws f fd) (sc : FnScope (self :: N) ps scope) (len : ∀ l K, S l K → l.length + 1 = ps.length)
    (hb : ∀ (f : Addr) (cdv : Value) (A : Around) (outer : List Env) (s : Shared) (H : Hp) (E : XK), Room k (A.deeper (envOfC qual scope s.heap.objs.size f cdv)) →
      ∃ t, PSs (cxOf (L2.CX P w) P w K mg base (self :: N) qual scope f cdv A outer s H E).nox body t ∧ ∀ B l K, S l K → SX C B (.ins A0 [] :: G0 N l) t (fun Γ => ∃ fl, Γ[0]? = some (.ins A0 fl) ∧ K fl) (fun _ => False) (fun _ => False) (fun _ => False)) :
    FnOk P w K mg base (L2.CX P w) (k + 1) f fd ps (SpI C A0 S) :=
  F.ok sc (fun vs H Q E ⟨P, W, p, dx, us, l, K, e, _, _, _, _, _, r, hS, _⟩ => by rw [e, List.length_cons, r.length]; exact len l K hS) fun cdv A outer s H vs Q E hr hsp => by
    obtain ⟨t, h1, h2⟩ := hb _ cdv A outer s H E hr
    exact ⟨t, h1.nox, sp_bodyI h2 vs H Q E hsp⟩
end
section
variable {C : Cl} {B : Bs} {Γ : List Sl} {tt : TT} {t u : TS} {nx bk ct : List Sl → Prop} {rt : D → Prop}
/-- if ..: raise, where nothing is raised -/
theorem sx_guard (h : TK C B Γ tt fun b => b = false) (k : SX C B Γ u nx rt bk ct) : SX C B Γ (tSeq (tIfS tt tNever tNext) u) nx rt bk ct :=
  sx_seq (sx_if (h.mono fun b e => ⟨fun z => (by rw [e] at z; cases z), fun _ => sx_next k⟩))
/-- an if whose way is known -/
theorem sx_ifT (h : TK C B Γ tt fun b => b = true) (k : SX C B Γ t nx rt bk ct) : SX C B Γ (tIfS tt t u) nx rt bk ct := sx_if (h.mono fun b e => ⟨fun _ => k, fun z => (by rw [e] at z; cases z)⟩)
theorem sx_ifF (h : TK C B Γ tt fun b => b = false) (k : SX C B Γ u nx rt bk ct) : SX C B Γ (tIfS tt t u) nx rt bk ct := sx_if (h.mono fun b e => ⟨fun z => (by rw [e] at z; cases z), fun _ => k⟩)
/-- an if whose test tells p -/
theorem sx_ifP (p : Prop) [Decidable p] (h : TK C B Γ tt fun b => b = decide p) (k1 : p → SX C B Γ t nx rt bk ct) (k2 : ¬ p → SX C B Γ u nx rt bk ct) : SX C B Γ (tIfS tt t u) nx rt bk ct :=
  sx_if (h.mono fun b e => ⟨fun z => k1 (of_decide_eq_true (e ▸ z)), fun z => k2 (of_decide_eq_false (e ▸ z))⟩)
end
/-! ### rationals as Fracs -/
theorem divInt_num {n d : Int} (h : 0 < d) : (Rat.divInt n d).num = n / ((Nat.gcd n.natAbs d.natAbs : Nat) : Int) := by
  rw [Rat.num_divInt, Int.sign_eq_one_of_pos h, Int.one_mul]
  congr 1
  show ((Nat.gcd d.natAbs n.natAbs : Nat) : Int) = _
  rw [Nat.gcd_comm]
theorem divInt_den {n d : Int} (h : 0 < d) : ((Rat.divInt n d).den : Int) = d / ((Nat.gcd n.natAbs d.natAbs : Nat) : Int) := by
  rw [Rat.den_divInt, if_neg (by omega)]
  have e : d.gcd n = Nat.gcd n.natAbs d.natAbs := by
    show Nat.gcd d.natAbs n.natAbs = _
    rw [Nat.gcd_comm]
  rw [e]
  have hd : (d.natAbs : Int) = d := by omega
  rw [Int.natCast_ediv, hd]
theorem gcd_pos {n d : Int} (h : 0 < d) : 0 < ((Nat.gcd n.natAbs d.natAbs : Nat) : Int) := by
  have : 0 < Nat.gcd n.natAbs d.natAbs := Nat.gcd_pos_of_pos_right _ (by omega)
  omega
/-- small enough for every operation -/
def Sz (i : Int) : Prop := i.natAbs < 2 ^ 4000
def SzQ (q : Rat) : Prop := Sz q.num ∧ Sz q.den
theorem Sz.mul {i j : Int} (a : Sz i) (b : Sz j) : CMulW i j := wide_mul a b (by decide) (by decide) (by decide)
theorem Sz.prod {i j : Int} (a : Sz i) (b : Sz j) : (i * j).natAbs < 2 ^ 8000 := wide_lt a b
theorem of_small {i : Int} {n : Nat} (h : i.natAbs ≤ n) (hn : n < 2 ^ 64) : Sz i := Nat.lt_of_le_of_lt h (Nat.lt_trans hn (by exact Nat.pow_lt_pow_right (by decide) (by decide)))
theorem cdiv_gcd {n d : Int} {b : Nat} (h : 0 < d) (hb : d.natAbs < 2 ^ b) (h0 : 0 < b) (h9 : b ≤ 9000) : CDivW n ((Nat.gcd n.natAbs d.natAbs : Nat) : Int) := by
  refine wide_div (gcd_pos h) (b := b) ?_ h0 h9
  have : Nat.gcd n.natAbs d.natAbs ≤ d.natAbs := Nat.gcd_le_right _ (by omega)
  omega
end G
end

section
set_option maxRecDepth 100000
set_option maxHeartbeats 2000000
/-! the data layer: short forms -/
namespace G
open PySem PySem.Spec PyProof.Rows L2
theorem br_t {b : Bool} {p q : Prop} (hb : b = true) (h : p) : (b = true → p) ∧ (b = false → q) := ⟨fun _ => h, fun z => (by rw [hb] at z; cases z)⟩
theorem br_f {b : Bool} {p q : Prop} (hb : b = false) (h : q) : (b = true → p) ∧ (b = false → q) := ⟨fun z => (by rw [hb] at z; cases z), fun _ => h⟩
theorem br_p {p : Prop} {q r : Prop} [Decidable p] (h1 : p → q) (h2 : ¬ p → r) : (decide p = true → q) ∧ (decide p = false → r) := ⟨fun z => h1 (of_decide_eq_true z), fun z => h2 (of_decide_eq_false z)⟩
theorem br_n {p : Prop} {q r : Prop} [Decidable p] (h1 : ¬ p → q) (h2 : p → r) : ((!decide p) = true → q) ∧ ((!decide p) = false → r) := ⟨fun z => h1 (by simpa using z), fun z => h2 (by simpa using z)⟩
theorem ps_fldK {X : Cx} {o value : Expr} {f : Str} {pos pos' : Pos} {ta tv : TE} (KK : PySem.W.Frag) (h : X.K = KK) (ha : PE X o ta) (hv : PE X value tv) (hs : swapsWith value (some (.Attribute o f pos')) pos.line X.env = pure false) : PS X (.Assign [.Attribute o f pos'] value pos) (sFld KK ta tv f) := h ▸ ps_fld ha hv hs
theorem Wk.trans : ∀ {a b c : List Sl}, Wk a b → Wk b c → Wk a c
  | _, _, _, .nil, .nil => .nil
  | _, _, _, .same h, .same k => .same (h.trans k)
  | _, _, _, .same h, .no k => .no (h.trans k)
  | _, _, _, .no h, .same k => .no (h.trans k)
  | _, _, _, .no h, .no k => .no (h.trans k)
theorem Wk.set : ∀ {a b : List Sl} {i : Nat} {s : Sl}, Wk a b → Wk (a.set i s) (b.set i s)
  | _, _, _, _, .nil => .nil
  | _, _, 0, _, .same h => .same h
  | _, _, 0, _, .no h => .same h
  | _, _, _ + 1, _, .same h => .same h.set
  | _, _, _ + 1, _, .no h => .no h.set
section
variable {C : Cl} {B : Bs} {Γ : List Sl} {t u : TS} {te ta tb : TE} {nx bk ct : List Sl → Prop} {rt : D → Prop} {K : D → Prop}
theorem gk_weak {Γ' : List Sl} {g : TG} {d : D} {K : List Sl → Prop} (w : Wk Γ Γ') (h : GK C B Γ' g d K) : GK C B Γ g d K := fun W H σ v e r Q q => h W H σ v (e.weak w) r Q q
theorem IK.mono {wi : TI} {K K' : List D → Prop} (h : IK C B Γ wi K) (k : ∀ l, K l → K' l) : IK C B Γ wi K' := fun W H σ e R q => h W H σ e R fun J W' H' l s y z => q J W' H' l s y (k l z)
/-- a loop whose slots are told -/
theorem sx_forW {wi : TI} {i : Nat} (hi : Nat.blt i Γ.length = true) (h : IK C B Γ wi fun l => ∃ (α : Type) (xs : List α) (f : α → D) (F : Nat → List Sl), l = xs.map f ∧ Wk Γ (F 0) ∧ (∀ j, (F j).length = Γ.length) ∧
      (∀ B' j x, xs[j]? = some x → SX C B' ((F j).set i (.d (f x))) t (fun Γ' => Wk Γ' (F (j + 1))) rt nx (fun Γ' => Wk Γ' (F (j + 1)))) ∧ ∀ Γ', Wk Γ' (F xs.length) → nx Γ') : SX C B Γ (tFor wi (gName i) t) nx rt bk ct :=
  sx_for (fun Γ' e => by rw [e]; exact hi) (h.mono fun l ⟨α, xs, f, F, e, h0, hl, hs, hd⟩ => by
    subst e
    refine ⟨fun j Γ' => Wk Γ' (F j), h0, fun j Γ' w => w.length.trans (hl j), fun B' j d Γ' hj w => sx_weak w.set ?_, by rw [List.length_map]; exact hd⟩
    rw [List.getElem?_map] at hj
    cases hx : xs[j]? with
    | none => rw [hx] at hj; cases hj
    | some x =>
      rw [hx] at hj; cases hj
      exact hs B' j x hx)
theorem sx_forGW {wi : TI} {g : TG} (h : IK C B Γ wi fun l => ∃ (α : Type) (xs : List α) (f : α → D) (F : Nat → List Sl), l = xs.map f ∧ Wk Γ (F 0) ∧
      (∀ B' j x, xs[j]? = some x → GK C B' (F j) g (f x) fun Γ2 => SX C B' Γ2 t (fun Γ' => Wk Γ' (F (j + 1))) rt nx (fun Γ' => Wk Γ' (F (j + 1)))) ∧ ∀ Γ', Wk Γ' (F xs.length) → nx Γ') : SX C B Γ (tFor wi g t) nx rt bk ct :=
  sx_forG (h.mono fun l ⟨α, xs, f, F, e, h0, hs, hd⟩ => by
    subst e
    refine ⟨fun j Γ' => Wk Γ' (F j), h0, fun B' j d Γ' hj w => gk_weak w ?_, by rw [List.length_map]; exact hd⟩
    rw [List.getElem?_map] at hj
    cases hx : xs[j]? with
    | none => rw [hx] at hj; cases hj
    | some x =>
      rw [hx] at hj; cases hj
      exact hs B' j x hx)
/-- a comprehension, item by item -/
theorem ef_map {wi : TI} {g : TG} {vs : List Nat} {K : List D → Prop} (h : IK C B Γ wi fun l => ∃ (α : Type) (xs : List α) (f y : α → D), l = xs.map f ∧ xs.length ≤ sizeLine ∧
      (∀ W1 x, x ∈ xs → CG C (B.keep W1) (wipeG Γ vs) g (f x) vs fun Γ2 => EK C (B.keep W1) Γ2 te fun z => z = y x) ∧ K (xs.map y)) : EF C B Γ (tLc wi g tYes te vs) K :=
  ef_lc (h.mono fun l ⟨α, xs, f, y, e, hz, hs, hk⟩ => by
    subst e
    refine ⟨fun i acc => acc = (xs.map y).take i, by simp, fun W1 i d acc hi ha => ?_, fun acc ha => ?_⟩
    · rw [List.getElem?_map] at hi
      cases hx : xs[i]? with
      | none => rw [hx] at hi; cases hi
      | some x =>
        rw [hx] at hi; cases hi
        have hlt : i < xs.length := by
          have := List.getElem?_eq_some_iff.mp hx; exact this.1
        intro W H σ v ow e o r Q q
        refine hs W1 x (List.mem_of_getElem? hx) W H σ v ow e o r Q fun Γ' σ' e' o' w k => q Γ' σ' e' o' w (tk_yes ⟨fun _ => k.mono fun z hz2 => ?_, fun z => nomatch z⟩)
        subst hz2
        subst ha
        refine ⟨by rw [List.length_take, List.length_map]; omega, ?_⟩
        show _ = (xs.map y).take (i + 1)
        rw [List.take_succ, List.getElem?_map, hx]
        rfl
    · rw [ha, List.length_map, show xs.length = (xs.map y).length by rw [List.length_map], List.take_length]; exact hk)
theorem ef_filt {wi : TI} {g : TG} {tt : TT} {vs : List Nat} {K : List D → Prop} (h : IK C B Γ wi fun l => ∃ (α : Type) (xs : List α) (f y : α → D) (p : α → Bool), l = xs.map f ∧ xs.length ≤ sizeLine ∧
      (∀ W1 x, x ∈ xs → CG C (B.keep W1) (wipeG Γ vs) g (f x) vs fun Γ2 => TK C (B.keep W1) Γ2 tt fun b => b = p x ∧ (b = true → EK C (B.keep W1) Γ2 te fun z => z = y x)) ∧ K ((xs.filter p).map y)) : EF C B Γ (tLc wi g tt te vs) K :=
  ef_lc (h.mono fun l ⟨α, xs, f, y, p, e, hz, hs, hk⟩ => by
    subst e
    refine ⟨fun i acc => acc = ((xs.take i).filter p).map y, by simp, fun W1 i d acc hi ha => ?_, fun acc ha => ?_⟩
    · rw [List.getElem?_map] at hi
      cases hx : xs[i]? with
      | none => rw [hx] at hi; cases hi
      | some x =>
        rw [hx] at hi; cases hi
        have hlt : i < xs.length := by
          have := List.getElem?_eq_some_iff.mp hx; exact this.1
        intro W H σ v ow e o r Q q
        refine hs W1 x (List.mem_of_getElem? hx) W H σ v ow e o r Q fun Γ' σ' e' o' w k => q Γ' σ' e' o' w (k.mono fun b hb => ⟨fun hbt => (hb.2 hbt).mono fun z hz2 => ?_, fun hbf => ?_⟩)
        · subst hz2
          subst ha
          have hp : p x = true := by rw [← hb.1, hbt]
          have hle : ((xs.take i).filter p).length ≤ i := Nat.le_trans (List.length_filter_le _ _) (by rw [List.length_take]; omega)
          refine ⟨by rw [List.length_map]; omega, ?_⟩
          show _ = ((xs.take (i + 1)).filter p).map y
          rw [List.take_succ, hx]
          simp [hp]
        · subst ha
          have hp : p x = false := by rw [← hb.1, hbf]
          show _ = ((xs.take (i + 1)).filter p).map y
          rw [List.take_succ, hx]
          simp [hp]
    · rw [ha, List.length_map, List.take_length]; exact hk)
theorem enumD_map {α : Type} (xs : List α) (f : α → D) : enumD (xs.map f) = xs.zipIdx.map fun p => .tup [.int (p.2 : Nat), f p.1] := by
  unfold enumD; rw [List.zipIdx_map, List.map_map]; rfl
theorem zipD_map {α β : Type} (xs : List α) (ys : List β) (f : α → D) (g : β → D) : zipD (xs.map f) (ys.map g) = (xs.zip ys).map fun p => .tup [f p.1, g p.2] := by
  unfold zipD; rw [List.zip_map, List.map_map]; rfl
/-- if ..: .., where the test fails -/
theorem sx_skip {tt : TT} (h : TK C B Γ tt fun b => b = false) (k : SX C B Γ u nx rt bk ct) : SX C B Γ (tSeq (tIfS tt t tNext) u) nx rt bk ct :=
  sx_seq (sx_if (h.mono fun b e => ⟨fun z => (by rw [e] at z; cases z), fun _ => sx_next k⟩))
theorem uk_neg {i : Int} (k : K (.int (-i))) : UK C B (L2.rU fun i => .int (-i)) (.int i) K := uk_I (fun _ => .int _) k
/-! ### dicts -/
def valD (l : List (Key × D)) (k : Key) : Option D := (l.find? fun kv => decide (kv.1 = k)).map (·.2)
theorem valV_rep {P : Option Addr} {W : Hp} {k : Key} {d : D} : ∀ {fs : List (Key × V)} {l : List (Key × D)}, fs.map (·.1) = l.map (·.1) → RepL C P W (fs.map (·.2)) (l.map (·.2)) → valD l k = some d → ∃ v, valV fs k = some v ∧ Rep C P W v d
  | [], [], _, _, h => by cases h
  | [], _ :: _, h, _, _ => by cases h
  | _ :: _, [], h, _, _ => by cases h
  | p :: fs, q :: l, h, r, h2 => by
    rw [List.map_cons, List.map_cons] at h
    injection h with h1 h3
    cases r with
    | cons r rr =>
      by_cases e : q.1 = k
      · rw [valV_pos (h1.trans e)]
        simp [valD, List.find?_cons, e] at h2
        subst h2
        exact ⟨_, rfl, r⟩
      · rw [valV_neg (fun z => e (h1.symm.trans z))]
        simp [valD, List.find?_cons, e] at h2
        exact valV_rep h3 rr (by simpa [valD] using h2)
theorem rep_dic {P : Option Addr} {W : Hp} {v : V} {l : List (Key × D)} (r : Rep C P W v (.dic l)) : ∃ a fs, v = .ref a ∧ W a = some (.dK fs) ∧ fs.map (·.1) = l.map (·.1) ∧ RepL C P W (fs.map (·.2)) (l.map (·.2)) := by
  cases r with
  | dic h e r => exact ⟨_, _, rfl, h, e, r⟩
/-- d["k"] -/
theorem ek_dget {x : Str} (h : EK C B Γ ta fun d => ∃ l y, d = .dic l ∧ valD l (.inr x) = some y ∧ K y) : EK C B Γ (tDGet ta (tC (.str x))) K := fun W H σ e Q q =>
  h W H σ e _ fun d v W1 H1 s1 r1 ⟨l, y, e0, hv, k⟩ => by
    subst e0
    obtain ⟨a, fs, rfl, ha, hk, hr⟩ := rep_dic r1
    obtain ⟨u, hu, ru⟩ := valV_rep hk hr hv
    exact ⟨a, u, rfl, by rw [← hu]; exact DGet.k (k := .inr x) (s1.wh _ _ ha), q y u W1 H1 s1 ru k⟩
/-- what a display's pairs make -/
def PK (C : Cl) (B : Bs) (Γ : List Sl) (trs : List (TE × TE)) (K : List (Key × D) → Prop) : Prop := ∀ W H σ, EnvOk C B W H σ Γ → ∀ Q : List (V × V) → Hp → Prop, (∀ (l : List (Key × D)) (fs : List (Key × V)) W' H', Stp C B.P none W H W' H' → fs.map (·.1) = l.map (·.1) → RepL C B.P W' (fs.map (·.2)) (l.map (·.2)) → K l → Q (fs.map fun kv => (kV kv.1, kv.2)) H') → tPairs trs σ H Q
theorem pk_nil {K : List (Key × D) → Prop} (k : K []) : PK C B Γ [] K := fun W H σ e Q q => q [] [] W H (.refl e.wh) rfl .nil k
theorem pk_cons {x : Str} {trs : List (TE × TE)} {K : List (Key × D) → Prop} (h : EK C B Γ ta fun d => PK C B Γ trs fun l => K ((.inr x, d) :: l)) : PK C B Γ ((tC (.str x), ta) :: trs) K := fun W H σ e Q q =>
  h W H σ e _ fun d v W1 H1 s1 r1 h1 => h1 W1 H1 σ (e.step s1) _ fun l fs W2 H2 s2 hk hr k =>
    q ((.inr x, d) :: l) ((.inr x, v) :: fs) W2 H2 (s1.trans s2) (by rw [List.map_cons, List.map_cons, hk]) (.cons (r1.mono s2.ww) hr) k
theorem mergeK_app : ∀ (fs acc : List (Key × V)), ((acc ++ fs).map (·.1)).Nodup → mergeK acc fs = acc ++ fs
  | [], acc, _ => by rw [List.append_nil]; rfl
  | p :: fs, acc, h => by
    have h1 : (acc.any fun kv => decide (kv.1 = p.1)) = false := by
      rw [List.map_append, List.map_cons] at h
      rw [List.any_eq_false]
      intro kv hk
      have := (List.nodup_append.mp h).2.2 kv.1 (List.mem_map_of_mem hk) p.1 List.mem_cons_self
      simpa using this
    have e : putK acc p.1 p.2 = acc ++ [p] := by unfold putK; rw [h1]; rfl
    show mergeK (putK acc p.1 p.2) fs = _
    rw [e, mergeK_app fs (acc ++ [p]) (by rw [List.append_assoc]; exact h), List.append_assoc]; rfl
/-- {"k": v, ..} -/
theorem ek_disp {trs : List (TE × TE)} (h : PK C B Γ trs fun l => (l.map (·.1)).Nodup ∧ l.length ≤ 15 ∧ K (.dic l)) : EK C B Γ (tDisp trs) K := fun W H σ e Q q p hp => by
  have s0 := Stp.own (C := C) (P := B.P) (S := none) (o := .dK []) e.wh hp e.pl.ne
  have hP : B.P ≠ some p := fun z => e.pl.ne p z hp
  have hW : W p = none := by
    cases z : W p with
    | none => rfl
    | some o => rw [e.wh _ _ z] at hp; cases hp
  refine h W _ σ (e.step s0) _ fun l fs W2 H2 s2 hk hr ⟨hn, hl, k⟩ => ?_
  have hH2 : H2 p = some (.dK []) := s2.hh _ _ upd_same hP (fun z => nomatch z)
  have hW2 : W2 p = none := (s2.old _ _ upd_same).trans hW
  have hlen : fs.length = l.length := by have := congrArg List.length hk; simpa using this
  refine ⟨hH2, fs, rfl, by omega, ?_⟩
  rw [mergeK_app fs [] (by rw [List.nil_append, hk]; exact hn), List.nil_append]
  have ww : Same W2 (upd W2 p (.dK fs)) := fun b x z => by rw [upd_ne (fun y => by subst y; rw [hW2] at z; cases z)]; exact z
  have st := s0.trans s2
  refine q _ _ (upd W2 p (.dK fs)) _ ⟨st.ww.trans ww, fun b x z => ?_, fun b x z1 z2 z3 => ?_, fun b x z => ?_, fun b x z => ?_, fun b z w => ?_⟩ (.dic upd_same hk (hr.mono ww)) k
  · by_cases hb : b = p
    · subst hb; rw [upd_same] at z ⊢; exact z
    · rw [upd_ne hb] at z ⊢; exact s2.wh b x z
  · rw [upd_ne (ne_of_none z1 hp)]; exact st.hh b x z1 z2 z3
  · rw [upd_ne (ne_of_none z hp)]; exact st.dom b x z
  · rw [upd_ne (ne_of_none z hp)]; exact st.old b x z
  · rw [upd_ne (fun y => by subst y; exact hP z)]; exact C.pkm ww (st.pool b z w)
end
end G
end

section
set_option maxRecDepth 100000
set_option maxHeartbeats 2000000
/-! enumerate(a tuple) -/
namespace GEn
open PySem PySem.Spec PyProof.Rows L2
theorem meets_enumerate_newT (l : Addr) (items : Array Value) :
    Meets (Builtin.«enumerate.__new__» ⟨[.type "enumerate", .ref l], []⟩) (fun _ R s => s.heap.IsTuple l items ∧
      R (.ok (.ret (.ref (s.heap.push { cls := .type "tuple_iterator", data := .fields #[.ref l, .int 0 0] }).objs.size)))
        { s with heap := (s.heap.push { cls := .type "tuple_iterator", data := .fields #[.ref l, .int 0 0] }).push { cls := .type "enumerate", data := .fields #[.none, .bool false, .ref s.heap.objs.size, rawInt 0, .none, .none] } }) :=
  .of_wp fun prog w A R s h => by
    obtain ⟨hp, g, d, tk, os⟩ := s; obtain ⟨hl, h⟩ := h
    have hsub := sub_enumerate
    have hL : Heap.IsTuple (Shared.heap ⟨hp, g, d, tk, os⟩) l items := hl
    wp_walk
    refine wpAny_stack_any fun st => wpAny_pure ?_
    split
    · rename_i c _ _ _ _ _
      cases (c == Value.type "enumerate")
      · wp_walk using wpAny_pyIter_tuple hL
        exact ⟨_, rfl, h⟩
      · wp_walk using wpAny_pyIter_tuple hL
        exact ⟨_, rfl, h⟩
    · wp_walk using wpAny_pyIter_tuple hL
      exact ⟨_, rfl, h⟩
theorem call_enumerate_tup {prog : Program} {w : World} {A : Around} {E : Value → Shared → Prop} {s : Shared} {l : Addr} {items : Array Value} {Q : Value → Shared → Prop} (hL : s.heap.IsTuple l items)
    (h : ∀ h', IsEnum h' (s.heap.objs.size + 1) s.heap.objs.size 0 .none → h'.IsTupleIter s.heap.objs.size l 0 → h'.objs.size = s.heap.objs.size + 2 →
      (∀ b o, s.heap.get? b = some o → h'.get? b = some o) → Q (.ref (s.heap.objs.size + 1)) { s with heap := h' }) :
    wpAny (model prog w) A (call (.type "enumerate") [.ref l]) Q E s := by
  refine callType_new F.called_enumerate (by decide) (F.typeCall_enumerate_1 _) (F.newCall_enumerate_1 _) (fun obj => F.args_object_init_2 obj _) F.entry_enumerate_new
    (meets_enumerate_newT l items) ⟨hL, ?_⟩
  have hz : (s.heap.push { cls := .type "tuple_iterator", data := .fields #[.ref l, .int 0 0] }).objs.size = s.heap.objs.size + 1 := Heap.size_push ..
  show _ ∧ _
  rw [hz]
  have he : IsEnum ((s.heap.push { cls := .type "tuple_iterator", data := .fields #[.ref l, .int 0 0] }).push
      { cls := .type "enumerate", data := .fields #[.none, .bool false, .ref s.heap.objs.size, rawInt 0, .none, .none] }) (s.heap.objs.size + 1) s.heap.objs.size 0 .none := by
    have := Heap.get?_push_size (s.heap.push { cls := .type "tuple_iterator", data := .fields #[.ref l, .int 0 0] })
      (o := { cls := .type "enumerate", data := .fields #[.none, .bool false, .ref s.heap.objs.size, rawInt 0, .none, .none] }) rfl
    rw [hz] at this; exact this
  refine ⟨⟨_, he, rfl⟩, h _ he ⟨_, Heap.get?_push_of_some _ (Heap.get?_push_size _ rfl), rfl, rfl⟩ (by rw [Heap.size_push, hz]) fun b o x => Heap.get?_push_of_some _ (Heap.get?_push_of_some _ x)⟩
def IteT (K : PySem.W.Frag) (a : Addr) : It :=
  ⟨fun i H => ∃ (xs : List V) (x : V), SqT K H a xs ∧ xs[i]? = some x, fun i H v H' => ∃ T x, v = .ref T ∧ H T = none ∧ H' = upd H T (.tup [.int (i : Nat), x]) ∧ ∀ xs, SqT K H a xs → xs[i]? = some x, fun i H => ∃ xs : List V, SqT K H a xs ∧ xs.length ≤ i⟩
theorem enum_ne_tup {h : Heap} {e it a : Addr} {i : Int} {old : Value} {items : Array Value} (he : IsEnum h e it i old) (ht : h.IsTuple a items) : e ≠ a := fun z => by
  subst z
  obtain ⟨o, ho, hc, _⟩ := ht
  have he' : h.get? e = some _ := he
  rw [ho] at he'
  injection he' with he'
  rw [he'] at hc
  exact absurd (show Value.type "enumerate" = Value.type "tuple" from hc) (by decide)
theorem it_ne_tup {h : Heap} {it a : Addr} {i : Nat} {items : Array Value} (hit : h.IsTupleIter it a i) (ht : h.IsTuple a items) : a ≠ it := fun z => by
  subst z
  obtain ⟨o, ho, hc, _⟩ := ht
  obtain ⟨o', ho', hc', _⟩ := hit
  rw [ho] at ho'
  injection ho' with ho'
  rw [← ho', hc] at hc'
  exact absurd hc' (by decide)
theorem turn_enumT {P : Program} {w : World} {K : PySem.W.Frag} {elts : List Expr} {kk : Nat} {tpos : Pos} (a e it : Addr) :
    Turn P w K (.Tuple elts kk tpos) (IteT K a) [e, it] e (fun i h => (∃ old, IsEnum h e it ((i : Nat) : Int) old) ∧ h.IsTupleIter it a i ∧ e ≠ it) where
  mem := by simp
  obj := fun i h st b hb => by
    obtain ⟨⟨old, he⟩, ⟨o, ho, hc, hd⟩, _⟩ := st
    have e' : b = e ∨ b = it := by simpa using hb
    rcases e' with z | z
    · rw [z]; exact ⟨_, he, fun v q => nomatch q⟩
    · rw [z]; exact ⟨o, ho, fun v q => by rw [hd] at q; cases q⟩
  keep := fun i h h' st k => let ⟨⟨old, he⟩, hi, hne⟩ := st; ⟨⟨old, k e (by simp) _ he⟩, hi.at fun o q => k it (by simp) o q, hne⟩
  item := by
    intro X hP hw hK hc i pins s σ H E I hf st hg
    subst hP hw hK
    obtain ⟨⟨old, he⟩, hit, hne⟩ := st
    obtain ⟨xs, x, hq, hx⟩ := hg
    obtain ⟨its, rv, p, hz⟩ := I.tuple hq
    have p : s.heap.IsTuple a its.toArray := p
    obtain ⟨u, hu, ru⟩ := rv.get hx
    have hel : e < s.heap.objs.size := Heap.lt_size he
    have hil : it < s.heap.objs.size := by obtain ⟨_, q, _⟩ := hit; exact Heap.lt_size q
    have hlt : i < its.toArray.size := by
      have := List.getElem?_eq_some_iff.mp hu
      obtain ⟨h1, _⟩ := this
      simpa using h1
    refine wpAny_pyNext_enum_itemD (Draws.tuple (A := X.A.in1) (I.ok.hd hc) it a (it_ne_tup hit p) its.toArray) he ⟨hit, p⟩ hlt hne (by
      have := enum_ne_tup he p
      simp [hne, this]) fun u' h' tk hu' ho hit' hT hsz hk => ?_
    have eu : u' = u := by
      have : its.toArray[i]? = some u := by simpa using hu
      rw [this] at hu'; exact (Option.some.inj hu').symm
    subst eu
    obtain ⟨hit', _⟩ := hit'
    refine ⟨_, rfl, wpAny_letOwnedTupleGo_enum (s := { s with heap := h', toks := tk + 1 }) ho fun h'' he' sb => ?_⟩
    have hT2 : h''.get? s.heap.objs.size = some { cls := .type "tuple", data := .seq #[.int i tk, u'] } := (sb.2 _ (Nat.ne_of_gt hel)).trans hT
    have new : ObjOk X.prog X.w (upd H s.heap.objs.size (.tup [.int (i : Nat), x])) h'' s.heap.objs.size (.tup [.int (i : Nat), x]) :=
      ⟨by show 2 ≤ sizeLine; decide, [.int i tk, u'], .cons ⟨_, rfl⟩ (.cons ru .nil), ⟨_, hT2, rfl, _, rfl⟩⟩
    have I1 : Inv X pins σ (upd H s.heap.objs.size (.tup [.int (i : Nat), x])) { s with heap := h'', toks := tk + 1 } :=
      I.turnedNew (ch := [e, it]) (fun b ob hb q => (sb.2 b (fun z => hb (by simp [z]))).trans (hk b ob (fun z => hb (by simp [z])) (fun z => hb (by simp [z])) q)) hf (Nat.le_refl _) new
    refine ⟨.ref s.heap.objs.size, _, I1, rfl, ⟨_, x, rfl, I.hok.fresh (Nat.le_refl _), rfl, fun ys hy => by rw [I.tuple_inj hy hq]; exact hx⟩, ⟨⟨u', ?_⟩, hit'.at fun o q => (sb.2 it (Ne.symm hne)).trans q, hne⟩, fun b hb => ?_⟩
    · have e1 : ((i + 1 : Nat) : Int) = (i : Int) + 1 := by omega
      rw [e1]; exact he'
    · have hb' : b < s.heap.objs.size := by
        have e' : b = e ∨ b = it := by simpa using hb
        rcases e' with z | z
        · rw [z]; exact hel
        · rw [z]; exact hil
      rw [upd_ne (Nat.ne_of_lt hb')]
      exact (hf b hb).1
  done := by
    intro X hP hw hK hc i pins s σ H E I hf st hg
    subst hP hw hK
    obtain ⟨⟨old, he⟩, hit, hne⟩ := st
    obtain ⟨xs, hq, hx⟩ := hg
    obtain ⟨its, rv, p, hz⟩ := I.tuple hq
    have p : s.heap.IsTuple a its.toArray := p
    obtain ⟨f0, f1, f2, f3, f4, f5⟩ := hf it (by simp)
    have hl := rv.length
    unfold pyNext
    have hT : s.TypeIs (.ref e) "enumerate" := ⟨_, he, rfl⟩
    refine wpAny_bind (wpAny_attempt (wpAny_callSpecial?_slot (name := Str.ofString "__next__") hT F.slot_enumerate_next
      (wpAny_call_entry F.slot_enumerate_next hT F.entry_enumerate_next ?_ (F.args_enumerate_next_1 _))))
    show wpAny _ _ (field (.ref e) 2 >>= _) _ _ _
    refine wpAny_bind (wpAny_field he rfl (x := .ref it) rfl ?_)
    refine wpAny_bind (wpAny_nextOf_tuple_end (I.ok.hd hc) hit p (by simp; omega) fun h' x he' hx' => ?_)
    obtain ⟨o, ho, hc⟩ := hx'
    refine wpAny_bind (wpAny_isInstance (T := "StopIteration") (b := true) ⟨o, ho, hc⟩ isSubtype_stop ?_)
    exact wpAny_pure ⟨rfl, I.turned (t' := s.toks) (fun b o hb q => he' b o hb q) f0 f1 f3 f4 f5⟩
  self := fun A i s Q E st h => let ⟨⟨_, he⟩, _⟩ := st; wpAny_pyIter_enum he h
def iEnumA (K : PySem.W.Frag) (ta : TA) : TI := fun σ H R => ta σ H fun vs H1 => ∃ a xs, vs = [.ref a] ∧ (SqL K H1 a xs ∧ R (Ite K a) H1 ∨ SqT K H1 a xs ∧ R (IteT K a) H1)
theorem pi_enumA {X : Cx} {e : Expr} {ta : TA} {p pos tpos : Pos} {elts : List Expr} {kk : Nat} (KK : PySem.W.Frag) (h : X.K = KK) (hg : Gl X "enumerate") (hm : X.mg "enumerate" = none) (ha : PA X [e] ta) (hs : starEach [e] X.env = [(false, eval e X.env)] := by rfl) :
    PI X (.Tuple elts kk tpos) (.Call (.Name "enumerate" p) [e] [] pos) (iEnumA KK ta) := by
  subst h
  refine ⟨fun pins s σ H R I h => ?_⟩
  refine Call_ (ld_blt I hg hm boot_enumerate (PyProof.Rows.callWith_type1 (thn (ha.run pos pins s σ H _ I h) fun us s1 ⟨vs, H1, I1, r1, q1⟩ => ?_) hs rfl))
  obtain ⟨a, xs, ex, q1⟩ := q1
  subst ex
  cases r1 with
  | cons r rr =>
    cases rr
    cases r
    have fr : ∀ b ∈ [s1.heap.objs.size + 1, s1.heap.objs.size], FpOk X pins H1 b := fun b hb => by
      have e' : b = s1.heap.objs.size + 1 ∨ b = s1.heap.objs.size := by simpa using hb
      have hle : s1.heap.objs.size ≤ b := by
        rcases e' with z | z
        · rw [z]; exact Nat.le_add_right _ _
        · rw [z]; exact Nat.le_refl _
      exact I1.fpOk hle (I1.hok.fresh hle)
    rcases q1 with ⟨hq, q⟩ | ⟨hq, q⟩
    · obtain ⟨its, rv, p', hz⟩ := I1.list hq
      refine call_enumerate_list p'.isList fun h' he hit hsz hk => wpAny_pyIter_enum he ?_
      have I2 : Inv X pins σ H1 { s1 with heap := h' } := I1.kept (t' := s1.toks) hk
      exact ⟨s1.heap.objs.size + 1, [s1.heap.objs.size + 1, s1.heap.objs.size], _, _, H1, rfl, I2, turn_enum a (s1.heap.objs.size + 1) s1.heap.objs.size, ⟨⟨.none, he⟩, hit, Nat.succ_ne_self _⟩, fr, q⟩
    · obtain ⟨its, rv, p', hz⟩ := I1.tuple hq
      refine call_enumerate_tup (items := its.toArray) p' fun h' he hit hsz hk => wpAny_pyIter_enum he ?_
      have I2 : Inv X pins σ H1 { s1 with heap := h' } := I1.kept (t' := s1.toks) hk
      exact ⟨s1.heap.objs.size + 1, [s1.heap.objs.size + 1, s1.heap.objs.size], _, _, H1, rfl, I2, turn_enumT a (s1.heap.objs.size + 1) s1.heap.objs.size, ⟨⟨.none, he⟩, hit, Nat.succ_ne_self _⟩, fr, q⟩
end GEn
namespace G
open PySem PySem.Spec PyProof.Rows L2
section
variable {C : Cl} {B : Bs} {Γ : List Sl} {KK : PySem.W.Frag}
theorem yl_enumT {W1 : Hp} {a : Addr} {vs : List V} {l : List D} (ha : W1 a = some (.tup vs)) (r : RepL C B.P W1 vs l) : Yl C B (GEn.IteT KK a) W1 (enumD l) where
  stop := fun H s => ⟨vs, SqT.of (s _ _ ha), by simp [enumD, r.length]⟩
  go := fun i W H hi s1 s2 pl => by
    have hi' : i < l.length := by simpa [enumD] using hi
    have hv : i < vs.length := by rw [r.length]; exact hi'
    refine ⟨⟨vs, vs[i], SqT.of (s2 _ _ (s1 _ _ ha)), by simp [hv]⟩, fun x H' ⟨T, x0, e1, e2, e3, y⟩ => ?_⟩
    subst e1; subst e3
    obtain ⟨d, h1, h2⟩ := (r.mono s1).getV (y vs (SqT.of (s2 _ _ (s1 _ _ ha))))
    have st := Stp.new (C := C) (P := B.P) (S := none) (o := .tup [.int (i : Nat), x0]) s2 e2 pl.ne
    exact ⟨_, .tup [.int (i : Nat), d], st, by simp [enumD, h1], .tup upd_same (.cons (.int _) (.one (h2.mono st.ww)))⟩
theorem ik_enumA {ta : TA} {K : List D → Prop} (h : AK C B Γ ta fun l => ∃ k xs, l = [Kd.d k xs] ∧ K (enumD xs)) : IK C B Γ (GEn.iEnumA KK ta) K := fun W H σ e R q =>
  h W H σ e _ fun l vs W1 H1 s1 r1 ⟨k, xs, e0, hk⟩ => by
    subst e0
    cases r1 with
    | cons r rr =>
      cases rr
      cases k with
      | l => cases r with
        | lst ha r => exact ⟨_, _, rfl, .inl ⟨SqL.of (s1.wh _ _ ha), q _ W1 H1 _ s1 (yl_enum ha r) hk⟩⟩
      | t => cases r with
        | tup ha r => exact ⟨_, _, rfl, .inr ⟨SqT.of (s1.wh _ _ ha), q _ W1 H1 _ s1 (yl_enumT ha r) hk⟩⟩
end
/-! ### None in a list of pairs -/
def pairP (p : Int × Int) : D := .tup [.int p.1, .int p.2]
section
variable {C : Cl} {B : Bs} {Γ : List Sl} {KK : PySem.W.Frag}
theorem dp_pairs {P : Option Addr} {W H : Hp} (s : Same W H) : ∀ {ps : List (Int × Int)} {vs : List V}, RepL C P W vs (ps.map pairP) → DpAll KK H vs (ps.map fun p => .tuple [.int p.1, .int p.2])
  | [], _, r => by cases r; exact .nil
  | p :: ps, _, r => by
    cases r with
    | cons r rr =>
      cases r with
      | tup ha r =>
        cases r with
        | cons r1 r2 =>
          cases r2 with
          | cons r2 r3 =>
            cases r1; cases r2; cases r3
            exact .cons (.tup (SqT.of (s _ _ ha)) (.cons (.int _) (.cons (.int _) .nil))) (dp_pairs s rr)
theorem shaped_pairs : ∀ (ps : List (Int × Int)), PyData.canLayAll0 (ps.map fun p => PyData.tuple [.int p.1, .int p.2]) = true ∧ PyData.depthAll (ps.map fun p => PyData.tuple [.int p.1, .int p.2]) ≤ 2
  | [] => ⟨by simp [PyData.canLayAll0], by simp [PyData.depthAll]⟩
  | p :: ps => by
    obtain ⟨h1, h2⟩ := shaped_pairs ps
    refine ⟨by simp [PyData.canLayAll0, PyData.canLay0, h1], ?_⟩
    simp only [List.map_cons, PyData.depthAll, PyData.depth]
    omega
theorem rk_nonIn {ps : List (Int × Int)} {K : D → Prop} (k : K (.bl false)) : RK C B (rInD KK) .non (.lst (ps.map pairP)) K := fun W H hw pl v1 v2 r1 r2 Q q => by
  cases r1
  cases r2 with
  | lst ha r =>
    obtain ⟨h1, h2⟩ := shaped_pairs ps
    refine ⟨.none, ps.map fun p => .tuple [.int p.1, .int p.2], .non, .lst (SqL.of (hw _ _ ha)) (dp_pairs hw r), by simp [SeqAt.shaped, PyData.canLay0, PyData.depth], ?_, ?_⟩
    · simp only [SeqAt.shaped, PyData.canLay0, PyData.depth, h1, Bool.true_and]
      exact decide_eq_true (by omega)
    · have e : (ps.map fun p => PyData.tuple [.int p.1, .int p.2]).any (fun z => PyData.eqv z .none) = false := by
        rw [List.any_eq_false]
        intro z hz
        obtain ⟨p, _, rfl⟩ := List.mem_map.mp hz
        simp [PyData.eqv]
      rw [e]
      exact q _ _ W H (.refl hw) (.bl _) k
theorem op_nonIn {X : Cx} (h : X.K = KK) {k : Nat} (hr : Room k X.A) : OpR X (compareOp .In) (rInD KK) := h ▸ op_inD (by
  have := hr.un
  omega)
end
end G
/-! ### plain existentials that the rules leave -/
namespace G
open PySem PySem.Spec PyProof.Rows L2
theorem x_bl {b : Bool} {p : Bool → Prop} (h : p b) : ∃ b', D.bl b = D.bl b' ∧ p b' := ⟨b, rfl, h⟩
theorem x_int {i : Int} {p : Int → Prop} (h : p i) : ∃ j, D.int i = D.int j ∧ p j := ⟨i, rfl, h⟩
theorem x_frac {q : Rat} {p : Rat → Prop} (h : p q) : ∃ j, D.frac q = D.frac j ∧ p j := ⟨q, rfl, h⟩
theorem x_lst {l : List D} {p : Kd → List D → Prop} (h : p .l l) : ∃ k m, D.lst l = Kd.d k m ∧ p k m := ⟨.l, l, rfl, h⟩
theorem x_tup {l : List D} {p : Kd → List D → Prop} (h : p .t l) : ∃ k m, D.tup l = Kd.d k m ∧ p k m := ⟨.t, l, rfl, h⟩
theorem x_kd {k : Kd} {l : List D} {p : Kd → List D → Prop} (h : p k l) : ∃ k' m, Kd.d k l = Kd.d k' m ∧ p k' m := ⟨k, l, rfl, h⟩
theorem x_at {l : List D} {i : Int} {x : D} {p : Int → D → Prop} (h1 : atI l i = some x) (h : p i x) : ∃ j y, D.int i = D.int j ∧ atI l j = some y ∧ p j y := ⟨i, x, rfl, h1, h⟩
theorem x_dic {l : List (Key × D)} {x : Str} {y : D} {p : List (Key × D) → D → Prop} (h1 : valD l (.inr x) = some y) (h : p l y) : ∃ m z, D.dic l = D.dic m ∧ valD m (.inr x) = some z ∧ p m z := ⟨l, y, rfl, h1, h⟩
theorem x_r1 {j : Int} {p : Int → Prop} (h1 : -(2 ^ 62) ≤ j) (h2 : j < 2 ^ 62) (h : p j) : ∃ i : Int, [D.int j] = [D.int i] ∧ -(2 ^ 62) ≤ i ∧ i < 2 ^ 62 ∧ p i := ⟨j, rfl, h1, h2, h⟩
theorem x_one {l : List D} {k : Kd} {p : Kd → List D → Prop} (h : p k l) : ∃ k' m, [Kd.d k l] = [Kd.d k' m] ∧ p k' m := ⟨k, l, rfl, h⟩
theorem x_oneL {l : List D} {p : Kd → List D → Prop} (h : p .l l) : ∃ k' m, [D.lst l] = [Kd.d k' m] ∧ p k' m := ⟨.l, l, rfl, h⟩
theorem x_oneT {l : List D} {p : Kd → List D → Prop} (h : p .t l) : ∃ k' m, [D.tup l] = [Kd.d k' m] ∧ p k' m := ⟨.t, l, rfl, h⟩
theorem x_len {l : List D} {p : Prop} (h1 : Nat.ble l.length 1000 = true) (h : p) : l.length ≤ sizeLine ∧ p := ⟨Nat.le_of_lt (small1000 (Nat.le_of_ble_eq_true h1)), h⟩
theorem x_lenD {l : List (Key × D)} {p : D → Prop} (h0 : (l.map (·.1)).Nodup) (h1 : Nat.ble l.length 15 = true) (h : p (.dic l)) : (l.map (·.1)).Nodup ∧ l.length ≤ 15 ∧ p (.dic l) := ⟨h0, Nat.le_of_ble_eq_true h1, h⟩
end G

/-! ### a, b = a list or a tuple -/
namespace G
open PySem PySem.Spec PyProof.Rows L2
def gAny (K : PySem.W.Frag) (n : Nat) (t : TGs) : TG := fun v σ H Q => gTup K n t v σ H Q ∨ gLst K n t v σ H Q
theorem pg_anyK {X : Cx} {pos : Pos} {es : List Expr} {k : Nat} {t : TGs} {n : Nat} (KK : PySem.W.Frag) (h : X.K = KK) (hc : X.calm = true) (hg : PGs X es t)
    (hn : (assignEach es X.env).length = n := by rfl) (hst : (assignEach es X.env).findIdx? (·.1) = none := by rfl) : PG X (.Tuple es k pos) (gAny KK n t) := ⟨fun pins s σ H v u Q I r hw => by
  subst h
  rcases hw with hw | hw
  · exact (pg_tup hc hg hn hst).run pins s σ H v u Q I r hw
  · exact (pg_lst hc hg hn hst).run pins s σ H v u Q I r hw⟩
section
variable {C : Cl} {B : Bs} {Γ : List Sl} {KK : PySem.W.Frag}
theorem gk_anyT {n : Nat} {gs : TGs} {l : List D} {K : List Sl → Prop} (hn : l.length = n) (h : GKs C B Γ gs l K) : GK C B Γ (gAny KK n gs) (.tup l) K := fun W H σ v e r Q q => .inl (gk_tupL hn h W H σ v e r Q q)
theorem gk_anyL {n : Nat} {gs : TGs} {l : List D} {K : List Sl → Prop} (hn : l.length = n) (h : GKs C B Γ gs l K) : GK C B Γ (gAny KK n gs) (.lst l) K := fun W H σ v e r Q q => .inr (by
  cases r with
  | lst ha rl => exact ⟨_, _, rfl, SqL.of (e.wh _ _ ha), rl.length.trans hn, h W H σ _ e rl Q q⟩)
theorem gk_anyK {k : Kd} {n : Nat} {gs : TGs} {l : List D} {K : List Sl → Prop} (hn : l.length = n) (h : GKs C B Γ gs l K) : GK C B Γ (gAny KK n gs) (Kd.d k l) K := by
  cases k
  · exact gk_anyL hn h
  · exact gk_anyT hn h
theorem gks_consA {n i j : Nat} {gs : TGs} {x y : D} {l : List D} {K : List Sl → Prop} (h : GKs C B ((Γ.set i (.d x)).set j (.d y)) gs l K) (hi : Nat.blt i Γ.length = true := by rfl) (hj : Nat.blt j Γ.length = true := by rfl) :
    GKs C B Γ (gCons (gAny KK 2 (gCons (gName i) (gCons (gName j) gNil))) gs) (.tup [x, y] :: l) K := fun W H σ vs e r Q q => by
  obtain ⟨u, us, h1, h2⟩ := gks_consT (KK := KK) (n := n) h hi hj W H σ vs e r Q q
  exact ⟨u, us, h1, .inl h2⟩
theorem cg_anyT {n : Nat} {gs : TGs} {l : List D} {vs : List Nat} {K : List Sl → Prop} (hn : l.length = n) (h : CGs C B Γ gs l vs K) : CG C B Γ (gAny KK n gs) (.tup l) vs K := fun W H σ v ow e o r Q q => .inl (cg_tup hn h W H σ v ow e o r Q q)
theorem cg_anyL {n : Nat} {gs : TGs} {l : List D} {vs : List Nat} {K : List Sl → Prop} (hn : l.length = n) (h : CGs C B Γ gs l vs K) : CG C B Γ (gAny KK n gs) (.lst l) vs K := fun W H σ v ow e o r Q q => .inr (by
  cases r with
  | lst ha rl => exact ⟨_, _, rfl, SqL.of (e.wh _ _ ha), rl.length.trans hn, h W H σ _ ow e o rl Q q⟩)
theorem cg_anyK {k : Kd} {n : Nat} {gs : TGs} {l : List D} {vs : List Nat} {K : List Sl → Prop} (hn : l.length = n) (h : CGs C B Γ gs l vs K) : CG C B Γ (gAny KK n gs) (Kd.d k l) vs K := by
  cases k
  · exact cg_anyL hn h
  · exact cg_anyT hn h
end
end G
end

section
set_option maxRecDepth 100000
set_option maxHeartbeats 2000000
/-! promises for a family of pools -/
namespace G
open PySem PySem.Spec PyProof.Rows L2
def SpFam (F : Nat → Cl) (S : List D → (D → Prop) → Prop) : Sp := fun vs H Q E => ∃ n, SpOf (F n) S vs H Q E
def SpFamI (F : Nat → Cl) (A : Addr) (S : List D → (List (Str × D) → Prop) → Prop) : Sp := fun vs H Q E => ∃ n, SpI (F n) A S vs H Q E
section
variable {F : Nat → Cl} {n : Nat} {B : Bs} {Γ : List Sl} {ta : TE} {t : TA} {K : D → Prop}
theorem ek_callF {S : List D → (D → Prop) → Prop} {t : TA} (h : AK (F n) B Γ t fun l => S l K) : EK (F n) B Γ (tCall (SpFam F S) [] E0 t) K := fun W H σ e Q q =>
  h W H σ e _ fun l vs W1 H1 s1 r1 h1 => ⟨n, B.P, W1, l, K, s1.wh, e.pl.step s1, by rw [List.append_nil]; exact r1, h1, fun d v W3 H3 k s3 r3 => q d v W3 H3 (s1.trans s3) r3 k⟩
theorem ek_methFF {A : Addr} (hA : (F n).frac = A) {S : List D → (D → Prop) → Prop} {m : Str} (hl : ∀ q, (fracF q).lookup m = none)
    (h : EK (F n) B Γ ta fun d0 => ∃ q, d0 = .frac q ∧ AK (F n) B Γ t fun l => S (.frac q :: l) K) : EK (F n) B Γ (tMeth A m (SpFam F S) [] E0 ta t) K := fun W H σ e Q q =>
  h W H σ e _ fun d0 v0 W1 H1 s1 r1 ⟨x, e0, h1⟩ => by
    subst e0; subst hA
    obtain ⟨a, dx, rfl, ha⟩ := rep_frac r1
    refine ⟨a, dx, _, rfl, s1.wh _ _ ha, hl x, h1 W1 H1 σ (e.step s1) _ fun l vs W2 H2 s2 r2 h2 => ?_⟩
    rw [List.append_nil]
    exact ⟨n, B.P, W2, .frac x :: l, K, s2.wh, (e.pl.step s1).step s2, .cons (r1.mono s2.ww) r2, h2, fun d v W3 H3 k s3 r3 => q d v W3 H3 ((s1.trans s2).trans s3) r3 k⟩
theorem rk_ownF {A : Addr} (hA : (F n).frac = A) {S : List D → (D → Prop) → Prop} {p q : Rat} (h : S [.frac p, .frac q] K) : RK (F n) B (rOwn A (SpFam F S)) (.frac p) (.frac q) K := fun W H hw pl v1 v2 r1 r2 Q k => by
  subst hA
  obtain ⟨a, dx, e1, ha⟩ := rep_frac r1
  obtain ⟨b, dy, e2, hb⟩ := rep_frac r2
  exact ⟨a, b, dx, dy, _, _, e1, e2, hw _ _ ha, hw _ _ hb, n, B.P, W, _, K, hw, pl, .cons r1 (.one r2), h, fun d v W' H' kd s r => k d v W' H' s r kd⟩
/-- the making of an object: what is left to be done behind the arguments -/
theorem make_run {A : Addr} {S : List D → (List (Str × D) → Prop) → Prop} {dvs : List V} {dds : List D} {W H W1 H1 : Hp} {vs : List V} {l : List D} (s1 : Stp (F n) B.P none W H W1 H1) (pl : PlOk (F n) B.P W1 H1) (r1 : RepL (F n) B.P W1 vs l) (hd : ∀ W, RepL (F n) B.P W dvs dds)
    (R : List (Str × D) → D → Prop) (hR : ∀ (W : Hp) (x dx : Addr) (fs : List (Str × V)) (fl : List (Str × D)) (d : D), R fl d → W x = some (.ins A dx fs) → fs.map (·.1) = fl.map (·.1) → RepL (F n) B.P W (fs.map (·.2)) (fl.map (·.2)) → Rep (F n) B.P W (.ref x) d)
    (h1 : S (l ++ dds) fun fl => ∃ d, R fl d ∧ K d) (Q : VK) (q : ∀ d v W' H', Stp (F n) B.P none W H W' H' → Rep (F n) B.P W' v d → K d → Q v H') (x dx : Addr) (hx : H1 x = none) (hdx : H1 dx = none) (hne : x ≠ dx) :
    SpFamI F A S (.ref x :: (vs ++ dvs)) (upd (upd H1 dx (.own x)) x (.ins A dx [])) (fun v H' => v = .non ∧ Q (.ref x) H') E0 := by
  have hP : B.P ≠ some x := fun z => pl.ne x z hx
  have hP2 : B.P ≠ some dx := fun z => pl.ne dx z hdx
  have nW : ∀ a, H1 a = none → W1 a = none := fun a ha => by
    cases z : W1 a with
    | none => rfl
    | some o => rw [s1.wh _ _ z] at ha; cases ha
  have up : ∀ a o, H1 a = some o → (upd (upd H1 dx (.own x)) x (.ins A dx [])) a = some o := fun a o ha => by
    rw [upd_ne (ne_of_none ha hx), upd_ne (ne_of_none ha hdx)]; exact ha
  refine ⟨n, B.P, W1, x, dx, vs ++ dvs, l ++ dds, _, rfl, upd_same, nW x hx, hP, fun a o z => up a o (s1.wh a o z), fun a z => ?_, r1.append (hd W1), h1, fun fl fs dx' W' H' ⟨d, hRd, kd⟩ st g1 g2 g3 g4 => ⟨rfl, ?_⟩⟩
  · have hax : a ≠ x := fun y => by subst y; exact hP z
    have had : a ≠ dx := fun y => by subst y; exact hP2 z
    rw [upd_ne hax, upd_ne had]
    exact pl a z
  · have ww : Same W' (upd W' x (.ins A dx' fs)) := fun a o z => by
      rw [upd_ne (fun y => by subst y; rw [g2] at z; cases z)]; exact z
    refine q d (.ref x) (upd W' x (.ins A dx' fs)) H' ⟨(s1.ww.trans st.ww).trans ww, fun a o z => ?_, fun a o z p _ => ?_, fun a o z => ?_, fun a o z => ?_, fun a z w => ?_⟩ (hR _ x dx' fs fl d hRd upd_same g3 (g4.mono ww)) kd
    · by_cases ha : a = x
      · subst ha; rw [upd_same] at z; cases z; exact g1
      · rw [upd_ne ha] at z; exact st.wh a o z
    · have z1 := s1.hh a o z p (fun y => nomatch y)
      exact st.hh a o (up a o z1) p fun y => by cases y; rw [hx] at z1; cases z1
    · obtain ⟨o1, z1⟩ := s1.dom a o z
      exact st.dom a o1 (up a o1 z1)
    · obtain ⟨o1, z1⟩ := s1.dom a o z
      rw [upd_ne (ne_of_none z1 hx)]
      exact (st.old a o1 (up a o1 z1)).trans (s1.old a o z)
    · have w1 := s1.pool a z w
      obtain ⟨o1, z1⟩ := (F n).pks w1
      refine (F n).pkm ww (st.pool a z ?_)
      rw [up a o1 z1, ← z1]
      exact w1

theorem ek_makeF {A : Addr} {S : List D → (List (Str × D) → Prop) → Prop} {dvs : List V} {dds : List D} {t : TA} (hd : ∀ W, RepL (F n) B.P W dvs dds) (R : List (Str × D) → D → Prop)
    (hR : ∀ (W : Hp) (x dx : Addr) (fs : List (Str × V)) (fl : List (Str × D)) (d : D), R fl d → W x = some (.ins A dx fs) → fs.map (·.1) = fl.map (·.1) → RepL (F n) B.P W (fs.map (·.2)) (fl.map (·.2)) → Rep (F n) B.P W (.ref x) d)
    (h : AK (F n) B Γ t fun l => S (l ++ dds) fun fl => ∃ d, R fl d ∧ K d) : EK (F n) B Γ (tMake A (SpFamI F A S) dvs E0 t) K := fun W H σ e Q q =>
  h W H σ e _ fun l vs W1 H1 s1 r1 h1 x dx hx hdx hne => make_run s1 (e.pl.step s1) r1 hd R hR h1 Q q x dx hx hdx (fun z => hne z.symm)
theorem obj_rep {A : Addr} {c : Nat} (hA : (F n).cls c = A) (W : Hp) (x dx : Addr) (fs : List (Str × V)) (fl : List (Str × D)) (d : D) (e : d = .obj c fl) (h1 : W x = some (.ins A dx fs)) (h2 : fs.map (·.1) = fl.map (·.1)) (h3 : RepL (F n) B.P W (fs.map (·.2)) (fl.map (·.2))) : Rep (F n) B.P W (.ref x) d := by
  subst e; subst hA; exact .obj h1 h2 h3
theorem frac_rep {A : Addr} (hA : (F n).frac = A) (W : Hp) (x dx : Addr) (fs : List (Str × V)) (fl : List (Str × D)) (d : D) (e : ∃ q : Rat, fl = fracL q ∧ d = .frac q) (h1 : W x = some (.ins A dx fs)) (h2 : fs.map (·.1) = fl.map (·.1)) (h3 : RepL (F n) B.P W (fs.map (·.2)) (fl.map (·.2))) : Rep (F n) B.P W (.ref x) d := by
  obtain ⟨q, e1, e2⟩ := e
  subst e1; subst e2; subst hA
  match fs, h2, h3 with
  | [(a, v), (b, u)], h2, h3 =>
    have ha : a = "num" := by have := congrArg List.head? h2; simpa [fracL] using this
    have hb : b = "den" := by have := congrArg (fun l => l[1]?) h2; simpa [fracL] using this
    subst ha; subst hb
    cases h3 with
    | cons g1 g2 =>
      cases g2 with
      | cons g2 g3 =>
        cases g1; cases g2; cases g3
        exact .frac h1
theorem ek_mkOF {A : Addr} {c : Nat} (hA : (F n).cls c = A) {S : List D → (List (Str × D) → Prop) → Prop} {t : TA} (h : AK (F n) B Γ t fun l => S l fun fl => K (.obj c fl)) : EK (F n) B Γ (tMake A (SpFamI F A S) [] E0 t) K :=
  ek_makeF (dds := []) (fun _ => .nil) (fun fl d => d = .obj c fl) (fun W x dx fs fl d e h1 h2 h3 => obj_rep hA W x dx fs fl d e h1 h2 h3) (fun W H σ e Q q => h W H σ e Q fun l vs W' H' s r k => q l vs W' H' s r (by
    have : (fun fl => ∃ d, d = D.obj c fl ∧ K d) = fun fl => K (.obj c fl) := by
      funext fl; exact propext ⟨fun ⟨d, e, k⟩ => e ▸ k, fun k => ⟨_, rfl, k⟩⟩
    rw [this]; show S (l ++ []) _; rw [List.append_nil]; exact k))
theorem ek_mkFF {A : Addr} (hA : (F n).frac = A) {S : List D → (List (Str × D) → Prop) → Prop} {dvs : List V} {dds : List D} {t : TA} (hd : ∀ W, RepL (F n) B.P W dvs dds)
    (h : AK (F n) B Γ t fun l => S (l ++ dds) fun fl => ∃ q : Rat, fl = fracL q ∧ K (.frac q)) : EK (F n) B Γ (tMake A (SpFamI F A S) dvs E0 t) K :=
  ek_makeF hd (fun fl d => ∃ q : Rat, fl = fracL q ∧ d = .frac q) (fun W x dx fs fl d e h1 h2 h3 => frac_rep hA W x dx fs fl d e h1 h2 h3) (fun W H σ e Q q => h W H σ e Q fun l vs W' H' s r k => q l vs W' H' s r (by
    have : (fun fl => ∃ d, (∃ q : Rat, fl = fracL q ∧ d = D.frac q) ∧ K d) = fun fl : List (Str × D) => ∃ q : Rat, fl = fracL q ∧ K (.frac q) := by
      funext fl; exact propext ⟨fun ⟨d, ⟨q, e1, e2⟩, k⟩ => ⟨q, e1, e2 ▸ k⟩, fun ⟨q, e1, k⟩ => ⟨_, ⟨q, e1, rfl⟩, k⟩⟩
    rw [this]; exact k))
end
/-! defs that keep such promises -/
section
variable {P : Program} {w : World} {K : PySem.W.Frag} {mg : Str → Option Value} {base : Heap} {k : Nat} {x : Str} {st : Stmt} {N ps : List Str} {F : Nat → Cl}
theorem cal_mkF {S : List D → (D → Prop) → Prop} (g : mg x = some (.ref (He.ga K x))) (Fd : ∃ fd, FnP K x st fd) (sc : FnScope N ps (defScope st))
    (b : ∀ (kV doc pm : Value) (an : Option Addr) (cdv ct : Value) (us : List Value), us.length = ps.length → bindArgs (PySem.W.fnOf x x (defArgs st) (defBody st) (defScope st) .none kV doc pm an cdv ct) ⟨us, []⟩ = pure (ps.zip us))
    (len : ∀ l K, S l K → l.length = ps.length)
    (hb : ∀ (f : Addr) (cdv : Value) (A : Around) (outer : List Env) (s : Shared) (H : Hp) (E : XK), Room k (A.deeper (envOfC x (defScope st) s.heap.objs.size f cdv)) →
      ∃ t, PSs (cxOf (L2.CX P w) P w K mg base N x (defScope st) f cdv A outer s H E).nox (defBody st) t ∧ ∀ n B l K, S l K → SX (F n) B (G0 N l) t (fun _ => K .non) K (fun _ => False) (fun _ => False)) : Cal P w K mg base (k + 1) x ps (SpFam F S) := by
  obtain ⟨fd, Fd⟩ := Fd
  refine ⟨g, Fd.kp, fd, Fd.ok sc (fun vs H Q E ⟨n, P, W, l, K, _, _, r, hS, _⟩ => r.length.trans (len l K hS)) fun cdv A outer s H vs Q E hr ⟨n, hsp⟩ => ?_, Fd.bindsN b⟩
  obtain ⟨t, h1, h2⟩ := hb _ cdv A outer s H E hr
  exact ⟨t, h1.nox, sp_body (h2 n) vs H Q E hsp⟩
theorem mth_mkF {qual : Str} {params : Arguments} {body : List Stmt} {scope : Scope} {f : Addr} {S : List D → (D → Prop) → Prop} (Fd : ∃ fd, FunD K x qual params body scope [] [] f fd) (sc : FnScope N ps scope)
    (b : ∀ (kV doc pm : Value) (an : Option Addr) (cdv ct : Value) (us : List Value), us.length = ps.length → bindArgs (PySem.W.fnOf x qual params body scope .none kV doc pm an cdv ct) ⟨us, []⟩ = pure (ps.zip us))
    (len : ∀ l K, S l K → l.length = ps.length)
    (hb : ∀ (f : Addr) (cdv : Value) (A : Around) (outer : List Env) (s : Shared) (H : Hp) (E : XK), Room k (A.deeper (envOfC qual scope s.heap.objs.size f cdv)) →
      ∃ t, PSs (cxOf (L2.CX P w) P w K mg base N qual scope f cdv A outer s H E).nox body t ∧ ∀ n B l K, S l K → SX (F n) B (G0 N l) t (fun _ => K .non) K (fun _ => False) (fun _ => False)) :
    ∃ fd, FnOk P w K mg base (L2.CX P w) (k + 1) f fd ps (SpFam F S) ∧ Binds K fd ps [] := by
  obtain ⟨fd, Fd⟩ := Fd
  refine ⟨fd, Fd.ok sc (fun vs H Q E ⟨n, P, W, l, K, _, _, r, hS, _⟩ => r.length.trans (len l K hS)) fun cdv A outer s H vs Q E hr ⟨n, hsp⟩ => ?_, Fd.bindsN b⟩
  obtain ⟨t, h1, h2⟩ := hb _ cdv A outer s H E hr
  exact ⟨t, h1.nox, sp_body (h2 n) vs H Q E hsp⟩
theorem init_mkF {qual : Str} {params : Arguments} {body : List Stmt} {scope : Scope} {f : Addr} {dvs : List V} {kws : List (Str × V)} {S : List D → (List (Str × D) → Prop) → Prop} {A0 : Addr} {self : Str} {fd : FuncData} (Fd : FunD K x qual params body scope dvs kws f fd) (sc : FnScope (self :: N) ps scope) (len : ∀ l K, S l K → l.length + 1 = ps.length)
    (hb : ∀ (f : Addr) (cdv : Value) (A : Around) (outer : List Env) (s : Shared) (H : Hp) (E : XK), Room k (A.deeper (envOfC qual scope s.heap.objs.size f cdv)) →
      ∃ t, PSs (cxOf (L2.CX P w) P w K mg base (self :: N) qual scope f cdv A outer s H E).nox body t ∧ ∀ n B l K, S l K → SX (F n) B (.ins A0 [] :: G0 N l) t (fun Γ => ∃ fl, Γ[0]? = some (.ins A0 fl) ∧ K fl) (fun _ => False) (fun _ => False) (fun _ => False)) :
    FnOk P w K mg base (L2.CX P w) (k + 1) f fd ps (SpFamI F A0 S) :=
  Fd.ok sc (fun vs H Q E ⟨n, P, W, p, dx, us, l, K, e, _, _, _, _, _, r, hS, _⟩ => by rw [e, List.length_cons, r.length]; exact len l K hS) fun cdv A outer s H vs Q E hr ⟨n, hsp⟩ => by
    obtain ⟨t, h1, h2⟩ := hb _ cdv A outer s H E hr
    exact ⟨t, h1.nox, sp_bodyI (h2 n) vs H Q E hsp⟩
end
end G
end

section
set_option maxRecDepth 100000
set_option maxHeartbeats 2000000
/-! rationals of a known size -/
namespace G
open PySem PySem.Spec PyProof.Rows L2
def EE : Nat := 360360
def MM : Nat := 11531520
/-- q is over 360360^k, and not big -/
def Nice (k : Nat) (q : Rat) : Prop := ∃ z : Int, z.natAbs ≤ MM ^ k ∧ q * ((EE ^ k : Nat) : Rat) = (z : Rat)
theorem EE_pos (k : Nat) : 0 < EE ^ k := Nat.pow_pos (by decide)
theorem EE_ne (k : Nat) : ((EE ^ k : Nat) : Rat) ≠ 0 := by
  have := EE_pos k
  intro h
  have : EE ^ k = 0 := by exact_mod_cast h
  omega
theorem Nice.up {k : Nat} {q : Rat} (h : Nice k q) : Nice (k + 1) q := by
  obtain ⟨z, h1, h2⟩ := h
  refine ⟨z * (EE : Int), ?_, ?_⟩
  · rw [Int.natAbs_mul, Nat.pow_succ]
    exact Nat.mul_le_mul h1 (by decide)
  · rw [Nat.pow_succ]
    push_cast
    rw [← h2]; push_cast; grind
theorem Nice.mono {k l : Nat} {q : Rat} (h : Nice k q) (hl : k ≤ l) : Nice l q := by
  induction hl with
  | refl => exact h
  | step _ ih => exact ih.up
theorem Nice.zero (k : Nat) : Nice k 0 := ⟨0, Nat.zero_le _, by simp⟩
theorem Nice.int {i : Int} (h : i.natAbs ≤ 32) : Nice 1 i := by
  refine ⟨i * (EE : Int), ?_, ?_⟩
  · rw [Int.natAbs_mul, Nat.pow_one, show MM = 32 * EE from rfl]
    exact Nat.mul_le_mul h (Nat.le_refl _)
  · rw [Nat.pow_one]; push_cast; rfl
theorem Nice.neg {k : Nat} {q : Rat} (h : Nice k q) : Nice k (-q) := by
  obtain ⟨z, h1, h2⟩ := h
  exact ⟨-z, by rwa [Int.natAbs_neg], by push_cast; rw [← h2]; grind⟩
theorem Nice.sumZ {k : Nat} : ∀ {xs : List Rat}, (∀ x ∈ xs, Nice k x) → ∃ z : Int, z.natAbs ≤ xs.length * MM ^ k ∧ xs.sum * ((EE ^ k : Nat) : Rat) = (z : Rat)
  | [], _ => ⟨0, Nat.zero_le _, by simp⟩
  | x :: xs, h => by
    obtain ⟨z, h1, h2⟩ := Nice.sumZ fun y hy => h y (List.mem_cons_of_mem _ hy)
    obtain ⟨u, h3, h4⟩ := h x List.mem_cons_self
    refine ⟨u + z, ?_, ?_⟩
    · have := Int.natAbs_add_le u z
      rw [List.length_cons, Nat.succ_mul]
      omega
    · rw [List.sum_cons]; push_cast; rw [← h2, ← h4]; push_cast; grind
theorem Nice.sum {k : Nat} {xs : List Rat} (h : ∀ x ∈ xs, Nice k x) (hl : xs.length ≤ 32) : Nice (k + 1) xs.sum := by
  obtain ⟨z, h1, h2⟩ := Nice.sumZ h
  refine ⟨z * (EE : Int), ?_, ?_⟩
  · rw [Int.natAbs_mul, Nat.pow_succ, show MM = 32 * EE from rfl, Nat.mul_comm 32 EE, ← Nat.mul_assoc, Nat.mul_right_comm]
    refine Nat.mul_le_mul (Nat.le_trans h1 ?_) (Nat.le_refl _)
    rw [Nat.mul_comm]
    exact Nat.mul_le_mul (Nat.le_refl _) hl
  · rw [Nat.pow_succ]
    push_cast
    rw [← h2]; push_cast; grind
theorem Nice.add {k : Nat} {p q : Rat} (h : Nice k p) (h' : Nice k q) : Nice (k + 1) (p + q) := by
  have := Nice.sum (xs := [p, q]) (k := k) (by simp [h, h']) (by simp)
  simpa [Rat.add_zero] using this
theorem Nice.sub {k : Nat} {p q : Rat} (h : Nice k p) (h' : Nice k q) : Nice (k + 1) (p - q) := by
  rw [Rat.sub_eq_add_neg]; exact h.add h'.neg
theorem Nice.mul {k l : Nat} {p q : Rat} (h : Nice k p) (h' : Nice l q) : Nice (k + l) (p * q) := by
  obtain ⟨z, h1, h2⟩ := h
  obtain ⟨u, h3, h4⟩ := h'
  refine ⟨z * u, ?_, ?_⟩
  · rw [Int.natAbs_mul, Nat.pow_add]; exact Nat.mul_le_mul h1 h3
  · rw [Nat.pow_add]; push_cast; rw [← h2, ← h4]; push_cast; grind
theorem Nice.eq {k : Nat} {q : Rat} {z : Int} (h : q * ((EE ^ k : Nat) : Rat) = (z : Rat)) : q = Rat.divInt z (EE ^ k : Nat) := by
  rw [Rat.divInt_eq_div, ← h]
  have := EE_ne k
  have e : (((EE ^ k : Nat) : Int) : Rat) = ((EE ^ k : Nat) : Rat) := Rat.intCast_natCast _
  rw [e]
  grind
theorem Nice.den {k : Nat} {q : Rat} (h : Nice k q) : q.den ≤ EE ^ k := by
  obtain ⟨z, h1, h2⟩ := h
  rw [Nice.eq h2, Rat.den_divInt]
  split
  · exact EE_pos k
  · exact Nat.le_trans (Nat.div_le_self _ _) (by rw [Int.natAbs_natCast]; exact Nat.le_refl _)
theorem Nice.num {k : Nat} {q : Rat} (h : Nice k q) : q.num.natAbs ≤ MM ^ k := by
  obtain ⟨z, h1, h2⟩ := h
  have hp : (0 : Int) < (EE ^ k : Nat) := by have := EE_pos k; omega
  rw [Nice.eq h2, Rat.num_divInt, Int.sign_eq_one_of_pos hp, Int.one_mul]
  exact Nat.le_trans (Int.natAbs_ediv_le_natAbs _ _) h1
theorem MM_bits (k : Nat) : MM ^ k < 2 ^ (24 * k + 1) := by
  rw [Nat.pow_succ, Nat.pow_mul]
  have : MM ^ k ≤ (2 ^ 24) ^ k := Nat.pow_le_pow_left (by decide) k
  have : 0 < (2 ^ 24) ^ k := Nat.pow_pos (by decide)
  omega
theorem Nice.bits {k : Nat} {q : Rat} (h : Nice k q) : q.num.natAbs < 2 ^ (24 * k + 1) ∧ q.den < 2 ^ (24 * k + 1) :=
  ⟨Nat.lt_of_le_of_lt h.num (MM_bits k), Nat.lt_of_le_of_lt h.den (Nat.lt_of_le_of_lt (Nat.pow_le_pow_left (by decide) k) (MM_bits k))⟩
theorem Nice.sz {k : Nat} {q : Rat} (h : Nice k q) (hk : k ≤ 160) : SzQ q :=
  ⟨Nat.lt_of_lt_of_le h.bits.1 (Nat.pow_le_pow_right (by decide) (by omega)), Nat.lt_of_lt_of_le h.bits.2 (Nat.pow_le_pow_right (by decide) (by omega))⟩
/-- a pair of the law's own for q -/
def LR (b : Nat) (q : Rat) (d : D) : Prop := ∃ n m : Int, d = .tup [.int n, .int m] ∧ 0 < m ∧ (n : Rat) = q * (m : Rat) ∧ n.natAbs < 2 ^ b ∧ m.natAbs < 2 ^ b
def lowD (q : Rat) : D := .tup [.int q.num, .int (q.den : Nat)]
theorem num_mul (q : Rat) : (q.num : Rat) = q * ((q.den : Int) : Rat) := by
  have h : (q.den : Rat) ≠ 0 := by
    intro h; have : q.den = 0 := by exact_mod_cast h
    exact q.den_nz this
  have e : (((q.den : Nat) : Int) : Rat) = ((q.den : Nat) : Rat) := Rat.intCast_natCast _
  rw [e]
  have := Rat.num_divInt_den q
  rw [Rat.divInt_eq_div, e] at this
  grind
theorem LR.low {k : Nat} {q : Rat} (h : Nice k q) : LR (24 * k + 1) q (lowD q) :=
  ⟨q.num, q.den, rfl, by have := q.den_pos; omega, num_mul q, h.bits.1, by rw [Int.natAbs_natCast]; exact h.bits.2⟩
theorem LR.mono {b c : Nat} {q : Rat} {d : D} (h : LR b q d) (hb : b ≤ c) : LR c q d := by
  obtain ⟨n, m, e, h1, h2, h3, h4⟩ := h
  exact ⟨n, m, e, h1, h2, Nat.lt_of_lt_of_le h3 (Nat.pow_le_pow_right (by decide) hb), Nat.lt_of_lt_of_le h4 (Nat.pow_le_pow_right (by decide) hb)⟩
theorem lt_prod {x y : Int} {b c : Nat} (h : x.natAbs < 2 ^ b) (k : y.natAbs < 2 ^ c) : (x * y).natAbs < 2 ^ (b + c) := by
  rw [Int.natAbs_mul, Nat.pow_add]
  exact Nat.mul_lt_mul_of_lt_of_le h (Nat.le_of_lt k) (Nat.pos_of_ne_zero (by omega))
theorem lt_sum {x y : Int} {b : Nat} (h : x.natAbs < 2 ^ b) (k : y.natAbs < 2 ^ b) : (x + y).natAbs < 2 ^ (b + 1) := by
  have := Int.natAbs_add_le x y
  rw [Nat.pow_succ]; omega
theorem pair_lt {n m i j : Int} {p q : Rat} (hm : 0 < m) (hj : 0 < j) (h : (n : Rat) = p * (m : Rat)) (k : (i : Rat) = q * (j : Rat)) : n * j < i * m ↔ p < q := by
  rw [← Rat.intCast_lt_intCast]
  push_cast
  rw [h, k]
  have h1 : (0 : Rat) < (m : Rat) := Rat.intCast_pos.mpr hm
  have h2 : (0 : Rat) < (j : Rat) := Rat.intCast_pos.mpr hj
  have h3 := Rat.mul_pos h1 h2
  constructor
  · intro z
    apply Decidable.byContradiction
    intro hn
    have hn := Rat.not_lt.mp hn
    have : (0 : Rat) ≤ (p - q) * (m * j : Rat) := Rat.mul_nonneg (by grind) (Rat.le_of_lt h3)
    grind
  · intro z
    have : (0 : Rat) < (q - p) * (m * j : Rat) := Rat.mul_pos (by grind) h3
    grind
theorem pair_eq {n m i j : Int} {p q : Rat} (hm : 0 < m) (hj : 0 < j) (h : (n : Rat) = p * (m : Rat)) (k : (i : Rat) = q * (j : Rat)) : n * j = i * m ↔ p = q := by
  rw [← Rat.intCast_inj]
  push_cast
  rw [h, k]
  have h1 : (0 : Rat) < (m : Rat) := Rat.intCast_pos.mpr hm
  have h2 : (0 : Rat) < (j : Rat) := Rat.intCast_pos.mpr hj
  constructor
  · intro z
    have : (p - q) * (m * j : Rat) = 0 := by grind
    have h3 := Rat.mul_pos h1 h2
    rcases Rat.mul_eq_zero.mp this with h | h <;> grind
  · intro z; subst z; grind
theorem pair_div {n m : Int} {p : Rat} (hm : 0 < m) (h : (n : Rat) = p * (m : Rat)) : Rat.divInt n m = p := by
  rw [Rat.divInt_eq_div, h]
  have h1 : (0 : Rat) < (m : Rat) := Rat.intCast_pos.mpr hm
  grind
def rmax (p q : Rat) : Rat := if p < q then q else p
theorem Nice.rmax {k : Nat} {p q : Rat} (h : Nice k p) (h' : Nice k q) : Nice k (rmax p q) := by
  unfold G.rmax; split <;> assumption
end G
end

section
set_option maxRecDepth 100000
set_option maxHeartbeats 2000000
/-! the head: a written part without lists, facts of one's own -/
namespace HG
open PySem PySem.Spec PyProof.Rows L2
def isL (o : Obj) : Bool := match o.cls with
  | .type c => c == "list"
  | _ => false
def frN (g : Addr → Option Obj) (as : List Addr) : PySem.W.Frag := as.filterMap fun a => match g a with
  | some o => (match isL o with
    | true => none
    | false => some (a, o))
  | none => none
theorem look_mem {a : Addr} {o : Obj} : ∀ {l : List (Addr × Obj)}, l.lookup a = some o → (a, o) ∈ l
  | [], e => nomatch (show (none : Option Obj) = some o from e)
  | (b, u) :: r, e => by
    have e2 : (match a == b with | true => some u | false => r.lookup a) = some o := e
    cases q : (a == b) with
    | true =>
      rw [q] at e2
      have e3 : u = o := Option.some.inj e2
      rw [beq_iff_eq.mp q, e3]
      exact List.mem_cons_self
    | false =>
      rw [q] at e2
      exact List.mem_cons_of_mem _ (look_mem e2)
theorem frN_at {g : Addr → Option Obj} {as : List Addr} {a : Addr} {o : Obj} (h : (frN g as).lookup a = some o) : g a = some o ∧ isL o = false := by
  have m := look_mem h
  unfold frN at m
  obtain ⟨b, _, hb⟩ := List.mem_filterMap.mp m
  cases q : g b with
  | none => rw [q] at hb; cases hb
  | some u =>
    rw [q] at hb
    cases z : isL u with
    | true => simp only [z] at hb; cases hb
    | false =>
      simp only [z] at hb
      injection hb with hb
      injection hb with h1 h2
      subst h1; subst h2
      exact ⟨q, z⟩
abbrev AlX : Type := Bool × He.AlD
def obsX (chk : PySem.W.Frag → List Bool) (fa : List He.Fa) (fn : List He.DefD) (K : PySem.W.Frag) : AlX := ((chk K).all id, He.obsD fa fn K)
def SaysX (chk : PySem.W.Frag → List Bool) (fa : List He.Fa) (fn : List He.DefD) (K : PySem.W.Frag) : Prop := obsX chk fa fn K = (true, He.valD fn)
def obsXG (n : Nat) (chk : PySem.W.Frag → List Bool) (fa : List He.Fa) (fn : List He.DefD) (g : Addr → Option Obj) : AlX := obsX chk fa fn (frN g (He.asD g n))
def hookX (n : Nat) (chk : PySem.W.Frag → List Bool) (fa : List He.Fa) (fn : List He.DefD) : PySem.W.Hook where
  α := AlX
  obs := fun s => obsXG n chk fa fn s.heap.get?
  val := fun _ => (true, He.valD fn)
  says := fun _ h => ∃ K : PySem.W.Frag, K.In h ∧ (∀ a o, K.lookup a = some o → isL o = false) ∧ SaysX chk fa fn K
  of := fun _ _ e => ⟨_, fun _ _ z => (frN_at z).1, fun _ _ z => (frN_at z).2, e⟩
  keeps := fun _ _ _ ⟨K, hK, c⟩ k => ⟨K, PySem.W.Frag.In.keeps hK k, c⟩
theorem obsXG_eq {n : Nat} {chk : PySem.W.Frag → List Bool} {fa : List He.Fa} {fn : List He.DefD} {g : Addr → Option Obj} {s : Shared} (h : ∀ a, g a = s.heap.get? a) : obsXG n chk fa fn g = (hookX n chk fa fn).obs s := by
  have e : g = s.heap.get? := funext h
  rw [e] <;> rfl
section
variable {chk : PySem.W.Frag → List Bool} {fa : List He.Fa} {fn : List He.DefD} {K : PySem.W.Frag}
theorem SaysX.d (c : SaysX chk fa fn K) : He.SaysD fa fn K := congrArg (fun z : AlX => z.2) c
theorem SaysX.fact (c : SaysX chk fa fn K) (i : Nat) {f : He.Fa} (h : fa[i]? = some f) : f.ok K = true := c.d.fact i h
theorem SaysX.def_ (c : SaysX chk fa fn K) (i : Nat) {d : He.DefD} (h : fn[i]? = some d) : ∃ fd, FunD K d.name d.qual d.params d.body d.scope (d.dvs K) (d.kws K) (He.fAd K d.at_) fd := c.d.def_ i h
theorem SaysX.bit (c : SaysX chk fa fn K) (i : Nat) {b : Bool} (h : (chk K)[i]? = some b) : b = true := by
  have c1 : (chk K).all id = true := congrArg (fun z : AlX => z.1) c
  exact List.all_eq_true.mp c1 b (List.mem_of_getElem? h)
end
theorem walk_ofX {l : PySem.W.OpenLaw} {n k : Nat} {q : Program} {loose : List Str} {XP : (Str → Option Value) → Heap → Prop} {YP : World → Heap → Prop} {d : DefRec} {CX : World → CXT} {x : Str}
    (hn : l.most = some n) (hn2 : n ≤ sizeLine) (hdf : d.params.defaults = []) (hr : Room k callerA)
    (F : ∀ (w : World) (mg : Str → Option Value) (fa : Addr) (h : Heap), YP w h → h.Ns mainGlobals mg → mg d.name = some (.ref fa) →
      ∃ (K : PySem.W.Frag) (fd : FuncData) (sp : Sp), K.In h ∧ (∀ (s : Shared) (u : Value), BindsTo s fd ⟨[u], []⟩ [(x, u)]) ∧
        (∀ (H : Hp) (a : Addr) (ns : List Int), ns.length ≤ n → Only H → SqL K H a (ns.map V.int) → sp [.ref a] H (fun v _ => v = .bl true) fun _ _ _ => False) ∧
        ∀ base : Heap, K.In base → base.Ns mainGlobals mg → FnOk l.prog w K mg base (CX w) k fa fd [x] sp)
    (hCX : ∀ (w : World) (H : Hp) (s : Shared) (e : Value) (s' : Shared), CX w [] H s (fun _ _ _ => False) e s' → False) :
    PySem.W.WalkO q loose XP YP l.row.toRowW d [] (fun f vs => PySem.call f vs) := by
  refine Att.attach_call hn hdf fun w s₀ s₁ mg mb fa o pm cd doc a vs ns G Y ho hd hcd hmg hobj hints hlen hg => ?_
  obtain ⟨K, fd, sp, KX, hb, hsp, hF⟩ := F w mg fa _ Y G.T.g hmg
  exact law_call KX G.T.g G.T.b G.T.builtins G.T.nolimit hg hobj hints (Nat.le_trans hlen hn2) hr hF hb (fun H hO hS => hsp H a ns hlen hO hS) fun H e s' => hCX w H s₁ e s'
theorem cx_none {P : Program} : ∀ (w : World) (H : Hp) (s : Shared) (e : Value) (s' : Shared), L2.CX P w [] H s (fun _ _ _ => False) e s' → False := fun _ _ _ _ _ ⟨_, _, _, _, _, _, _, _, _, _, _, _, h⟩ => h
theorem script_frz {K : PySem.W.Frag} {H : Hp} {a : Addr} {xs : List V} (hL : ∀ a o, K.lookup a = some o → isL o = false) (hO : Only H) (hS : SqL K H a xs) : ∃ o, H a = some (.frz o (.lst xs)) := by
  rcases hS with (z | ⟨o, z⟩) | ⟨o, its, n, h1, h2, _⟩
  · rcases hO a with y | ⟨o, ys, y⟩
    · rw [y] at z; cases z
    · rw [y] at z; cases z
  · exact ⟨o, z⟩
  · have := hL a o h1
    unfold isL at this
    rw [h2] at this
    cases this
end HG
end

section
set_option maxRecDepth 100000
set_option maxHeartbeats 4000000

namespace K
open PySem PySem.Spec PyProof.Rows L2 G
def topS (i : Nat) : Stmt := PySem.Challenge.pw_nextprices_k79_whole_taken_in_turn.main.body.getD i (.Pass ⟨0, 0, 0, 0⟩)
abbrev s_InvalidFractionD_initD : Stmt := inClass (topS 4) 0
abbrev s_InvalidProjectD_initD : Stmt := inClass (topS 5) 0
abbrev s_WrongSizeD_initD : Stmt := inClass (topS 6) 0
abbrev s_is_integer : Stmt := topS 9
abbrev s_is_between : Stmt := topS 10
abbrev s_is_sequence : Stmt := topS 11
abbrev s_integer_told : Stmt := topS 12
abbrev s_FracD_initD : Stmt := inClass (topS 13) 0
abbrev s_FracD_addD : Stmt := inClass (topS 13) 1
abbrev s_FracD_subD : Stmt := inClass (topS 13) 2
abbrev s_FracD_mulD : Stmt := inClass (topS 13) 3
abbrev s_FracD_eqD : Stmt := inClass (topS 13) 4
abbrev s_Frac_is_below : Stmt := inClass (topS 13) 5
abbrev s_Frac_divided_by : Stmt := inClass (topS 13) 6
abbrev s_Frac_text : Stmt := inClass (topS 13) 7
abbrev s_Frac_read : Stmt := inClass (topS 13) 8
abbrev s_as_frac : Stmt := topS 14
abbrev s_greatest_of : Stmt := topS 15
abbrev s_total : Stmt := topS 16
abbrev s_is_amount : Stmt := topS 20
abbrev s_is_shown : Stmt := topS 25
abbrev s_is_offer : Stmt := topS 26
abbrev s_OffersD_initD : Stmt := inClass (topS 27) 0
abbrev s_OffersD_lenD : Stmt := inClass (topS 27) 1
abbrev s_OffersD_eqD : Stmt := inClass (topS 27) 2
abbrev s_shown_shares : Stmt := topS 28
abbrev s_row_before : Stmt := topS 29
abbrev s_turn_rows : Stmt := topS 30
abbrev s_turn_worth : Stmt := topS 31
abbrev s_thresholds : Stmt := topS 32
abbrev s_takings : Stmt := topS 34
abbrev s_turns_taken : Stmt := topS 35
abbrev s_taken_in_turn : Stmt := topS 36
abbrev s_mean_taken : Stmt := topS 37
abbrev s__law_bag : Stmt := topS 39
abbrev s__law_draw : Stmt := topS 40
abbrev s__law_gcd : Stmt := topS 41
abbrev s__law_low : Stmt := topS 42
abbrev s__law_plus : Stmt := topS 43
abbrev s__law_minus : Stmt := topS 44
abbrev s__law_times : Stmt := topS 45
abbrev s__law_over : Stmt := topS 46
abbrev s__law_below : Stmt := topS 47
abbrev s__law_equal : Stmt := topS 48
abbrev s__law_greater : Stmt := topS 49
abbrev s__law_pair : Stmt := topS 50
abbrev s__law_pairs : Stmt := topS 51
abbrev s__law_is : Stmt := topS 52
abbrev s__law_offer : Stmt := topS 53
abbrev s__law_offered : Stmt := topS 54
abbrev s__law_turns : Stmt := topS 55
abbrev s__law_frac : Stmt := topS 56
abbrev s__law_due : Stmt := topS 57
abbrev s__law_above : Stmt := topS 58
abbrev s_law : Stmt := topS 59
theorem sc_is_integer : FnScope ["value"] ["value"] (defScope s_is_integer) := ⟨rfl, rfl, rfl, by decide +kernel, rfl, by decide +kernel, by decide +kernel⟩
theorem sc_is_between : FnScope ["value", "least", "most"] ["value", "least", "most"] (defScope s_is_between) := ⟨rfl, rfl, rfl, by decide +kernel, rfl, by decide +kernel, by decide +kernel⟩
theorem sc_is_sequence : FnScope ["value"] ["value"] (defScope s_is_sequence) := ⟨rfl, rfl, rfl, by decide +kernel, rfl, by decide +kernel, by decide +kernel⟩
theorem sc_FracD_initD : FnScope ["self", "num", "den", "divisor"] ["self", "num", "den"] (defScope s_FracD_initD) := ⟨rfl, rfl, rfl, by decide +kernel, rfl, by decide +kernel, by decide +kernel⟩
theorem sc_FracD_addD : FnScope ["self", "other"] ["self", "other"] (defScope s_FracD_addD) := ⟨rfl, rfl, rfl, by decide +kernel, rfl, by decide +kernel, by decide +kernel⟩
theorem sc_FracD_subD : FnScope ["self", "other"] ["self", "other"] (defScope s_FracD_subD) := ⟨rfl, rfl, rfl, by decide +kernel, rfl, by decide +kernel, by decide +kernel⟩
theorem sc_FracD_mulD : FnScope ["self", "other"] ["self", "other"] (defScope s_FracD_mulD) := ⟨rfl, rfl, rfl, by decide +kernel, rfl, by decide +kernel, by decide +kernel⟩
theorem sc_Frac_is_below : FnScope ["self", "other"] ["self", "other"] (defScope s_Frac_is_below) := ⟨rfl, rfl, rfl, by decide +kernel, rfl, by decide +kernel, by decide +kernel⟩
theorem sc_as_frac : FnScope ["value"] ["value"] (defScope s_as_frac) := ⟨rfl, rfl, rfl, by decide +kernel, rfl, by decide +kernel, by decide +kernel⟩
theorem sc_greatest_of : FnScope ["fracs", "found", "one"] ["fracs"] (defScope s_greatest_of) := ⟨rfl, rfl, rfl, by decide +kernel, rfl, by decide +kernel, by decide +kernel⟩
theorem sc_total : FnScope ["fracs", "found", "one"] ["fracs"] (defScope s_total) := ⟨rfl, rfl, rfl, by decide +kernel, rfl, by decide +kernel, by decide +kernel⟩
theorem sc_is_amount : FnScope ["value", "frac"] ["value"] (defScope s_is_amount) := ⟨rfl, rfl, rfl, by decide +kernel, rfl, by decide +kernel, by decide +kernel⟩
theorem sc_is_shown : FnScope ["value"] ["value"] (defScope s_is_shown) := ⟨rfl, rfl, rfl, by decide +kernel, rfl, by decide +kernel, by decide +kernel⟩
theorem sc_is_offer : FnScope ["value", "one"] ["value"] (defScope s_is_offer) := ⟨rfl, rfl, rfl, by decide +kernel, rfl, by decide +kernel, by decide +kernel⟩
theorem sc_OffersD_initD : FnScope ["self", "rows", "kept", "at", "row", "weight", "worth"] ["self", "rows"] (defScope s_OffersD_initD) := ⟨rfl, rfl, rfl, by decide +kernel, rfl, by decide +kernel, by decide +kernel⟩
theorem sc_shown_shares : FnScope ["row", "whole", "weight", "worth", "_"] ["row"] (defScope s_shown_shares) := ⟨rfl, rfl, rfl, by decide +kernel, rfl, by decide +kernel, by decide +kernel⟩
theorem sc_row_before : FnScope ["row", "later", "many", "found", "left", "parts", "share", "worth"] ["row", "later", "many"] (defScope s_row_before) := ⟨rfl, rfl, rfl, by decide +kernel, rfl, by decide +kernel, by decide +kernel⟩
theorem sc_turn_rows : FnScope ["offers", "many", "rows", "row", "_"] ["offers", "many"] (defScope s_turn_rows) := ⟨rfl, rfl, rfl, by decide +kernel, rfl, by decide +kernel, by decide +kernel⟩
theorem sc_turn_worth : FnScope ["offers", "many"] ["offers", "many"] (defScope s_turn_worth) := ⟨rfl, rfl, rfl, by decide +kernel, rfl, by decide +kernel, by decide +kernel⟩
theorem sc_thresholds : FnScope ["offers", "many", "rows", "found", "later", "left"] ["offers", "many"] (defScope s_thresholds) := ⟨rfl, rfl, rfl, by decide +kernel, rfl, by decide +kernel, by decide +kernel⟩
theorem sc_takings : FnScope ["row", "levels", "found", "level", "taken", "share", "worth", "_"] ["row", "levels"] (defScope s_takings) := ⟨rfl, rfl, rfl, by decide +kernel, rfl, by decide +kernel, by decide +kernel⟩
theorem sc_turns_taken : FnScope ["offers", "many", "chances", "found", "row", "levels", "share", "mean", "later", "left", "part", "worth", "moved", "_"] ["offers", "many"] (defScope s_turns_taken) := ⟨rfl, rfl, rfl, by decide +kernel, rfl, by decide +kernel, by decide +kernel⟩
theorem sc_taken_in_turn : FnScope ["offers", "many", "share", "_"] ["offers", "many"] (defScope s_taken_in_turn) := ⟨rfl, rfl, rfl, by decide +kernel, rfl, by decide +kernel, by decide +kernel⟩
theorem sc_mean_taken : FnScope ["offers", "many", "_", "mean"] ["offers", "many"] (defScope s_mean_taken) := ⟨rfl, rfl, rfl, by decide +kernel, rfl, by decide +kernel, by decide +kernel⟩
theorem sc__law_bag : FnScope ["script", "cells", "cell"] ["script"] (defScope s__law_bag) := ⟨rfl, rfl, rfl, by decide +kernel, rfl, by decide +kernel, by decide +kernel⟩
theorem sc__law_draw : FnScope ["bag", "many", "cell", "got"] ["bag", "many"] (defScope s__law_draw) := ⟨rfl, rfl, rfl, by decide +kernel, rfl, by decide +kernel, by decide +kernel⟩
theorem sc__law_gcd : FnScope ["one", "two", "rest"] ["one", "two"] (defScope s__law_gcd) := ⟨rfl, rfl, rfl, by decide +kernel, rfl, by decide +kernel, by decide +kernel⟩
theorem sc__law_low : FnScope ["x", "by"] ["x"] (defScope s__law_low) := ⟨rfl, rfl, rfl, by decide +kernel, rfl, by decide +kernel, by decide +kernel⟩
theorem sc__law_plus : FnScope ["x", "y"] ["x", "y"] (defScope s__law_plus) := ⟨rfl, rfl, rfl, by decide +kernel, rfl, by decide +kernel, by decide +kernel⟩
theorem sc__law_minus : FnScope ["x", "y"] ["x", "y"] (defScope s__law_minus) := ⟨rfl, rfl, rfl, by decide +kernel, rfl, by decide +kernel, by decide +kernel⟩
theorem sc__law_times : FnScope ["x", "y"] ["x", "y"] (defScope s__law_times) := ⟨rfl, rfl, rfl, by decide +kernel, rfl, by decide +kernel, by decide +kernel⟩
theorem sc__law_below : FnScope ["x", "y"] ["x", "y"] (defScope s__law_below) := ⟨rfl, rfl, rfl, by decide +kernel, rfl, by decide +kernel, by decide +kernel⟩
theorem sc__law_equal : FnScope ["x", "y"] ["x", "y"] (defScope s__law_equal) := ⟨rfl, rfl, rfl, by decide +kernel, rfl, by decide +kernel, by decide +kernel⟩
theorem sc__law_greater : FnScope ["x", "y"] ["x", "y"] (defScope s__law_greater) := ⟨rfl, rfl, rfl, by decide +kernel, rfl, by decide +kernel, by decide +kernel⟩
theorem sc__law_pair : FnScope ["value"] ["value"] (defScope s__law_pair) := ⟨rfl, rfl, rfl, by decide +kernel, rfl, by decide +kernel, by decide +kernel⟩
theorem sc__law_pairs : FnScope ["values", "many", "found", "value"] ["values", "many"] (defScope s__law_pairs) := ⟨rfl, rfl, rfl, by decide +kernel, rfl, by decide +kernel, by decide +kernel⟩
theorem sc__law_is : FnScope ["value", "due", "found"] ["value", "due"] (defScope s__law_is) := ⟨rfl, rfl, rfl, by decide +kernel, rfl, by decide +kernel, by decide +kernel⟩
theorem sc__law_offer : FnScope ["bag", "rows", "k", "worth", "row"] ["bag"] (defScope s__law_offer) := ⟨rfl, rfl, rfl, by decide +kernel, rfl, by decide +kernel, by decide +kernel⟩
theorem sc__law_offered : FnScope ["bag", "offers", "found", "offer", "rows", "weight", "worth", "value", "row"] ["bag", "offers"] (defScope s__law_offered) := ⟨rfl, rfl, rfl, by decide +kernel, rfl, by decide +kernel, by decide +kernel⟩
theorem sc__law_turns : FnScope ["offers", "many", "rows", "offer", "ahead", "fresh", "left", "total_v", "weight", "worth", "best"] ["offers", "many"] (defScope s__law_turns) := ⟨rfl, rfl, rfl, by decide +kernel, rfl, by decide +kernel, by decide +kernel⟩
theorem sc__law_due : FnScope ["offers", "table", "many", "lefts", "shares", "means", "at", "offer", "fresh", "share", "mean", "left", "bar", "weight", "worth", "part"] ["offers", "table", "many"] (defScope s__law_due) := ⟨rfl, rfl, rfl, by decide +kernel, rfl, by decide +kernel, by decide +kernel⟩
theorem sc__law_above : FnScope ["offer", "weight", "worth"] ["offer"] (defScope s__law_above) := ⟨rfl, rfl, rfl, by decide +kernel, rfl, by decide +kernel, by decide +kernel⟩
theorem sc_law : FnScope ["script", "bag", "own", "offers", "many", "table", "shares", "means", "told", "earned", "total_v", "taken", "at", "k"] ["script"] (defScope s_law) := ⟨rfl, rfl, rfl, by decide +kernel, rfl, by decide +kernel, by decide +kernel⟩
structure Tx (K : PySem.W.Frag) (mg : Str → Option Value) : Prop where
  g_is_integer : mg "is_integer" = some (.ref (He.ga K "is_integer"))
  g_is_between : mg "is_between" = some (.ref (He.ga K "is_between"))
  g_is_sequence : mg "is_sequence" = some (.ref (He.ga K "is_sequence"))
  g_as_frac : mg "as_frac" = some (.ref (He.ga K "as_frac"))
  g_greatest_of : mg "greatest_of" = some (.ref (He.ga K "greatest_of"))
  g_total : mg "total" = some (.ref (He.ga K "total"))
  g_is_amount : mg "is_amount" = some (.ref (He.ga K "is_amount"))
  g_is_shown : mg "is_shown" = some (.ref (He.ga K "is_shown"))
  g_is_offer : mg "is_offer" = some (.ref (He.ga K "is_offer"))
  g_shown_shares : mg "shown_shares" = some (.ref (He.ga K "shown_shares"))
  g_row_before : mg "row_before" = some (.ref (He.ga K "row_before"))
  g_turn_rows : mg "turn_rows" = some (.ref (He.ga K "turn_rows"))
  g_turn_worth : mg "turn_worth" = some (.ref (He.ga K "turn_worth"))
  g_thresholds : mg "thresholds" = some (.ref (He.ga K "thresholds"))
  g_takings : mg "takings" = some (.ref (He.ga K "takings"))
  g_turns_taken : mg "turns_taken" = some (.ref (He.ga K "turns_taken"))
  g_taken_in_turn : mg "taken_in_turn" = some (.ref (He.ga K "taken_in_turn"))
  g_mean_taken : mg "mean_taken" = some (.ref (He.ga K "mean_taken"))
  g__law_bag : mg "_law_bag" = some (.ref (He.ga K "_law_bag"))
  g__law_draw : mg "_law_draw" = some (.ref (He.ga K "_law_draw"))
  g__law_gcd : mg "_law_gcd" = some (.ref (He.ga K "_law_gcd"))
  g__law_low : mg "_law_low" = some (.ref (He.ga K "_law_low"))
  g__law_plus : mg "_law_plus" = some (.ref (He.ga K "_law_plus"))
  g__law_minus : mg "_law_minus" = some (.ref (He.ga K "_law_minus"))
  g__law_times : mg "_law_times" = some (.ref (He.ga K "_law_times"))
  g__law_below : mg "_law_below" = some (.ref (He.ga K "_law_below"))
  g__law_equal : mg "_law_equal" = some (.ref (He.ga K "_law_equal"))
  g__law_greater : mg "_law_greater" = some (.ref (He.ga K "_law_greater"))
  g__law_pair : mg "_law_pair" = some (.ref (He.ga K "_law_pair"))
  g__law_pairs : mg "_law_pairs" = some (.ref (He.ga K "_law_pairs"))
  g__law_is : mg "_law_is" = some (.ref (He.ga K "_law_is"))
  g__law_offer : mg "_law_offer" = some (.ref (He.ga K "_law_offer"))
  g__law_offered : mg "_law_offered" = some (.ref (He.ga K "_law_offered"))
  g__law_turns : mg "_law_turns" = some (.ref (He.ga K "_law_turns"))
  g__law_due : mg "_law_due" = some (.ref (He.ga K "_law_due"))
  g__law_above : mg "_law_above" = some (.ref (He.ga K "_law_above"))
  g_law : mg "law" = some (.ref (He.ga K "law"))
  g_Frac : mg "Frac" = some (.ref (He.ga K "Frac"))
  g_Offers : mg "Offers" = some (.ref (He.ga K "Offers"))
  b_abs : mg "abs" = none
  b_all : mg "all" = none
  b_bool : mg "bool" = none
  b_enumerate : mg "enumerate" = none
  b_int : mg "int" = none
  b_isinstance : mg "isinstance" = none
  b_len : mg "len" = none
  b_list : mg "list" = none
  b_range : mg "range" = none
  b_reversed : mg "reversed" = none
  b_sum : mg "sum" = none
  b_tuple : mg "tuple" = none
  b_zip : mg "zip" = none
  i_MOST_OVER : ∃ t, mg "MOST_OVER" = some (.int 9999 t)
  i_MOST_UNDER : ∃ t, mg "MOST_UNDER" = some (.int 99 t)
  i_MOST_OFFERS : ∃ t, mg "MOST_OFFERS" = some (.int 8 t)
  i_MOST_SHOWN : ∃ t, mg "MOST_SHOWN" = some (.int 6 t)
  i_MOST_SHOWN_WEIGHT : ∃ t, mg "MOST_SHOWN_WEIGHT" = some (.int 99 t)
  gcd : mg "gcd" = some (.builtin "math.gcd")
  d_is_integer : ∃ fd, FunD K "is_integer" "is_integer" (defArgs s_is_integer) (defBody s_is_integer) (defScope s_is_integer) [] [] (He.fAd K ("is_integer", none)) fd
  d_is_between : ∃ fd, FunD K "is_between" "is_between" (defArgs s_is_between) (defBody s_is_between) (defScope s_is_between) [] [] (He.fAd K ("is_between", none)) fd
  d_is_sequence : ∃ fd, FunD K "is_sequence" "is_sequence" (defArgs s_is_sequence) (defBody s_is_sequence) (defScope s_is_sequence) [] [] (He.fAd K ("is_sequence", none)) fd
  d_FracD_initD : ∃ fd, FunD K "__init__" "Frac.__init__" (defArgs s_FracD_initD) (defBody s_FracD_initD) (defScope s_FracD_initD) [.int 1] [] (He.fAd K ("Frac", some "__init__")) fd
  d_FracD_addD : ∃ fd, FunD K "__add__" "Frac.__add__" (defArgs s_FracD_addD) (defBody s_FracD_addD) (defScope s_FracD_addD) [] [] (He.fAd K ("Frac", some "__add__")) fd
  d_FracD_subD : ∃ fd, FunD K "__sub__" "Frac.__sub__" (defArgs s_FracD_subD) (defBody s_FracD_subD) (defScope s_FracD_subD) [] [] (He.fAd K ("Frac", some "__sub__")) fd
  d_FracD_mulD : ∃ fd, FunD K "__mul__" "Frac.__mul__" (defArgs s_FracD_mulD) (defBody s_FracD_mulD) (defScope s_FracD_mulD) [] [] (He.fAd K ("Frac", some "__mul__")) fd
  d_Frac_is_below : ∃ fd, FunD K "is_below" "Frac.is_below" (defArgs s_Frac_is_below) (defBody s_Frac_is_below) (defScope s_Frac_is_below) [] [] (He.fAd K ("Frac", some "is_below")) fd
  d_as_frac : ∃ fd, FunD K "as_frac" "as_frac" (defArgs s_as_frac) (defBody s_as_frac) (defScope s_as_frac) [] [] (He.fAd K ("as_frac", none)) fd
  d_greatest_of : ∃ fd, FunD K "greatest_of" "greatest_of" (defArgs s_greatest_of) (defBody s_greatest_of) (defScope s_greatest_of) [] [] (He.fAd K ("greatest_of", none)) fd
  d_total : ∃ fd, FunD K "total" "total" (defArgs s_total) (defBody s_total) (defScope s_total) [] [] (He.fAd K ("total", none)) fd
  d_is_amount : ∃ fd, FunD K "is_amount" "is_amount" (defArgs s_is_amount) (defBody s_is_amount) (defScope s_is_amount) [] [] (He.fAd K ("is_amount", none)) fd
  d_is_shown : ∃ fd, FunD K "is_shown" "is_shown" (defArgs s_is_shown) (defBody s_is_shown) (defScope s_is_shown) [] [] (He.fAd K ("is_shown", none)) fd
  d_is_offer : ∃ fd, FunD K "is_offer" "is_offer" (defArgs s_is_offer) (defBody s_is_offer) (defScope s_is_offer) [] [] (He.fAd K ("is_offer", none)) fd
  d_OffersD_initD : ∃ fd, FunD K "__init__" "Offers.__init__" (defArgs s_OffersD_initD) (defBody s_OffersD_initD) (defScope s_OffersD_initD) [] [] (He.fAd K ("Offers", some "__init__")) fd
  d_shown_shares : ∃ fd, FunD K "shown_shares" "shown_shares" (defArgs s_shown_shares) (defBody s_shown_shares) (defScope s_shown_shares) [] [] (He.fAd K ("shown_shares", none)) fd
  d_row_before : ∃ fd, FunD K "row_before" "row_before" (defArgs s_row_before) (defBody s_row_before) (defScope s_row_before) [] [] (He.fAd K ("row_before", none)) fd
  d_turn_rows : ∃ fd, FunD K "turn_rows" "turn_rows" (defArgs s_turn_rows) (defBody s_turn_rows) (defScope s_turn_rows) [] [] (He.fAd K ("turn_rows", none)) fd
  d_turn_worth : ∃ fd, FunD K "turn_worth" "turn_worth" (defArgs s_turn_worth) (defBody s_turn_worth) (defScope s_turn_worth) [] [] (He.fAd K ("turn_worth", none)) fd
  d_thresholds : ∃ fd, FunD K "thresholds" "thresholds" (defArgs s_thresholds) (defBody s_thresholds) (defScope s_thresholds) [] [] (He.fAd K ("thresholds", none)) fd
  d_takings : ∃ fd, FunD K "takings" "takings" (defArgs s_takings) (defBody s_takings) (defScope s_takings) [] [] (He.fAd K ("takings", none)) fd
  d_turns_taken : ∃ fd, FunD K "turns_taken" "turns_taken" (defArgs s_turns_taken) (defBody s_turns_taken) (defScope s_turns_taken) [] [] (He.fAd K ("turns_taken", none)) fd
  d_taken_in_turn : ∃ fd, FunD K "taken_in_turn" "taken_in_turn" (defArgs s_taken_in_turn) (defBody s_taken_in_turn) (defScope s_taken_in_turn) [] [] (He.fAd K ("taken_in_turn", none)) fd
  d_mean_taken : ∃ fd, FunD K "mean_taken" "mean_taken" (defArgs s_mean_taken) (defBody s_mean_taken) (defScope s_mean_taken) [] [] (He.fAd K ("mean_taken", none)) fd
  d__law_bag : ∃ fd, FunD K "_law_bag" "_law_bag" (defArgs s__law_bag) (defBody s__law_bag) (defScope s__law_bag) [] [] (He.fAd K ("_law_bag", none)) fd
  d__law_draw : ∃ fd, FunD K "_law_draw" "_law_draw" (defArgs s__law_draw) (defBody s__law_draw) (defScope s__law_draw) [] [] (He.fAd K ("_law_draw", none)) fd
  d__law_gcd : ∃ fd, FunD K "_law_gcd" "_law_gcd" (defArgs s__law_gcd) (defBody s__law_gcd) (defScope s__law_gcd) [] [] (He.fAd K ("_law_gcd", none)) fd
  d__law_low : ∃ fd, FunD K "_law_low" "_law_low" (defArgs s__law_low) (defBody s__law_low) (defScope s__law_low) [] [] (He.fAd K ("_law_low", none)) fd
  d__law_plus : ∃ fd, FunD K "_law_plus" "_law_plus" (defArgs s__law_plus) (defBody s__law_plus) (defScope s__law_plus) [] [] (He.fAd K ("_law_plus", none)) fd
  d__law_minus : ∃ fd, FunD K "_law_minus" "_law_minus" (defArgs s__law_minus) (defBody s__law_minus) (defScope s__law_minus) [] [] (He.fAd K ("_law_minus", none)) fd
  d__law_times : ∃ fd, FunD K "_law_times" "_law_times" (defArgs s__law_times) (defBody s__law_times) (defScope s__law_times) [] [] (He.fAd K ("_law_times", none)) fd
  d__law_below : ∃ fd, FunD K "_law_below" "_law_below" (defArgs s__law_below) (defBody s__law_below) (defScope s__law_below) [] [] (He.fAd K ("_law_below", none)) fd
  d__law_equal : ∃ fd, FunD K "_law_equal" "_law_equal" (defArgs s__law_equal) (defBody s__law_equal) (defScope s__law_equal) [] [] (He.fAd K ("_law_equal", none)) fd
  d__law_greater : ∃ fd, FunD K "_law_greater" "_law_greater" (defArgs s__law_greater) (defBody s__law_greater) (defScope s__law_greater) [] [] (He.fAd K ("_law_greater", none)) fd
  d__law_pair : ∃ fd, FunD K "_law_pair" "_law_pair" (defArgs s__law_pair) (defBody s__law_pair) (defScope s__law_pair) [] [] (He.fAd K ("_law_pair", none)) fd
  d__law_pairs : ∃ fd, FunD K "_law_pairs" "_law_pairs" (defArgs s__law_pairs) (defBody s__law_pairs) (defScope s__law_pairs) [] [] (He.fAd K ("_law_pairs", none)) fd
  d__law_is : ∃ fd, FunD K "_law_is" "_law_is" (defArgs s__law_is) (defBody s__law_is) (defScope s__law_is) [] [] (He.fAd K ("_law_is", none)) fd
  d__law_offer : ∃ fd, FunD K "_law_offer" "_law_offer" (defArgs s__law_offer) (defBody s__law_offer) (defScope s__law_offer) [] [] (He.fAd K ("_law_offer", none)) fd
  d__law_offered : ∃ fd, FunD K "_law_offered" "_law_offered" (defArgs s__law_offered) (defBody s__law_offered) (defScope s__law_offered) [] [] (He.fAd K ("_law_offered", none)) fd
  d__law_turns : ∃ fd, FunD K "_law_turns" "_law_turns" (defArgs s__law_turns) (defBody s__law_turns) (defScope s__law_turns) [] [] (He.fAd K ("_law_turns", none)) fd
  d__law_due : ∃ fd, FunD K "_law_due" "_law_due" (defArgs s__law_due) (defBody s__law_due) (defScope s__law_due) [] [] (He.fAd K ("_law_due", none)) fd
  d__law_above : ∃ fd, FunD K "_law_above" "_law_above" (defArgs s__law_above) (defBody s__law_above) (defScope s__law_above) [] [] (He.fAd K ("_law_above", none)) fd
  d_law : ∃ fd, FunD K "law" "law" (defArgs s_law) (defBody s_law) (defScope s_law) [] [] (He.fAd K ("law", none)) fd
  cl_Frac : Cls K (He.ga K "Frac")
  no_Frac_num : NoAttr K (He.ga K "Frac") "num"
  no_Frac_den : NoAttr K (He.ga K "Frac") "den"
  m_Frac_is_below : Meth K (He.ga K "Frac") "is_below" (He.ma K (He.ga K "Frac") "is_below")
  mk_Frac : Mk K (He.ga K "Frac") (He.ma K (He.ga K "Frac") "__init__")
  ins_Frac : InsF K (He.ga K "Frac")
  op_Frac_Add : PySem.W.findIn K (.ref (He.ga K "Frac")) (PySem.dunder (Operator.Add).info.2) = some (some (.ref (He.ma K (He.ga K "Frac") "__add__"))) ∧ PySem.W.isFn K (.ref (He.ma K (He.ga K "Frac") "__add__")) = true ∧ PySem.W.selfFirst K (He.ga K "Frac") = true
  op_Frac_Sub : PySem.W.findIn K (.ref (He.ga K "Frac")) (PySem.dunder (Operator.Sub).info.2) = some (some (.ref (He.ma K (He.ga K "Frac") "__sub__"))) ∧ PySem.W.isFn K (.ref (He.ma K (He.ga K "Frac") "__sub__")) = true ∧ PySem.W.selfFirst K (He.ga K "Frac") = true
  op_Frac_Mult : PySem.W.findIn K (.ref (He.ga K "Frac")) (PySem.dunder (Operator.Mult).info.2) = some (some (.ref (He.ma K (He.ga K "Frac") "__mul__"))) ∧ PySem.W.isFn K (.ref (He.ma K (He.ga K "Frac") "__mul__")) = true ∧ PySem.W.selfFirst K (He.ga K "Frac") = true
  kit_Frac_NoneType : PySem.W.kitOne K (.ref (He.ga K "Frac")) (.type "NoneType") = some false
  tik_Frac_NoneType : PySem.W.kitOne K (.type "NoneType") (.ref (He.ga K "Frac")) = some false
  kit_Frac_bool : PySem.W.kitOne K (.ref (He.ga K "Frac")) (.type "bool") = some false
  tik_Frac_bool : PySem.W.kitOne K (.type "bool") (.ref (He.ga K "Frac")) = some false
  kit_Frac_int : PySem.W.kitOne K (.ref (He.ga K "Frac")) (.type "int") = some false
  tik_Frac_int : PySem.W.kitOne K (.type "int") (.ref (He.ga K "Frac")) = some false
  kit_Frac_str : PySem.W.kitOne K (.ref (He.ga K "Frac")) (.type "str") = some false
  tik_Frac_str : PySem.W.kitOne K (.type "str") (.ref (He.ga K "Frac")) = some false
  kit_Frac_list : PySem.W.kitOne K (.ref (He.ga K "Frac")) (.type "list") = some false
  tik_Frac_list : PySem.W.kitOne K (.type "list") (.ref (He.ga K "Frac")) = some false
  kit_Frac_tuple : PySem.W.kitOne K (.ref (He.ga K "Frac")) (.type "tuple") = some false
  tik_Frac_tuple : PySem.W.kitOne K (.type "tuple") (.ref (He.ga K "Frac")) = some false
  kit_Frac_dict : PySem.W.kitOne K (.ref (He.ga K "Frac")) (.type "dict") = some false
  tik_Frac_dict : PySem.W.kitOne K (.type "dict") (.ref (He.ga K "Frac")) = some false
  kic_Frac_Frac : PySem.W.kitOne K (.ref (He.ga K "Frac")) (.ref (He.ga K "Frac")) = some true
  kic_Frac_Offers : PySem.W.kitOne K (.ref (He.ga K "Frac")) (.ref (He.ga K "Offers")) = some false
  cl_Offers : Cls K (He.ga K "Offers")
  no_Offers_rows : NoAttr K (He.ga K "Offers") "rows"
  mk_Offers : Mk K (He.ga K "Offers") (He.ma K (He.ga K "Offers") "__init__")
  ins_Offers : InsF K (He.ga K "Offers")
  kit_Offers_NoneType : PySem.W.kitOne K (.ref (He.ga K "Offers")) (.type "NoneType") = some false
  tik_Offers_NoneType : PySem.W.kitOne K (.type "NoneType") (.ref (He.ga K "Offers")) = some false
  kit_Offers_bool : PySem.W.kitOne K (.ref (He.ga K "Offers")) (.type "bool") = some false
  tik_Offers_bool : PySem.W.kitOne K (.type "bool") (.ref (He.ga K "Offers")) = some false
  kit_Offers_int : PySem.W.kitOne K (.ref (He.ga K "Offers")) (.type "int") = some false
  tik_Offers_int : PySem.W.kitOne K (.type "int") (.ref (He.ga K "Offers")) = some false
  kit_Offers_str : PySem.W.kitOne K (.ref (He.ga K "Offers")) (.type "str") = some false
  tik_Offers_str : PySem.W.kitOne K (.type "str") (.ref (He.ga K "Offers")) = some false
  kit_Offers_list : PySem.W.kitOne K (.ref (He.ga K "Offers")) (.type "list") = some false
  tik_Offers_list : PySem.W.kitOne K (.type "list") (.ref (He.ga K "Offers")) = some false
  kit_Offers_tuple : PySem.W.kitOne K (.ref (He.ga K "Offers")) (.type "tuple") = some false
  tik_Offers_tuple : PySem.W.kitOne K (.type "tuple") (.ref (He.ga K "Offers")) = some false
  kit_Offers_dict : PySem.W.kitOne K (.ref (He.ga K "Offers")) (.type "dict") = some false
  tik_Offers_dict : PySem.W.kitOne K (.type "dict") (.ref (He.ga K "Offers")) = some false
  kic_Offers_Frac : PySem.W.kitOne K (.ref (He.ga K "Offers")) (.ref (He.ga K "Frac")) = some false
  kic_Offers_Offers : PySem.W.kitOne K (.ref (He.ga K "Offers")) (.ref (He.ga K "Offers")) = some true
end K
end

section
set_option maxRecDepth 100000
set_option maxHeartbeats 0
namespace KH
open PySem PySem.Spec PyProof.Rows L2 G K
def fn : List He.DefD := [⟨("is_integer", none), "is_integer", "is_integer", defArgs s_is_integer, defBody s_is_integer, defScope s_is_integer, [], []⟩,
  ⟨("is_between", none), "is_between", "is_between", defArgs s_is_between, defBody s_is_between, defScope s_is_between, [], []⟩,
  ⟨("is_sequence", none), "is_sequence", "is_sequence", defArgs s_is_sequence, defBody s_is_sequence, defScope s_is_sequence, [], []⟩,
  ⟨("Frac", some "__init__"), "__init__", "Frac.__init__", defArgs s_FracD_initD, defBody s_FracD_initD, defScope s_FracD_initD, [.int 1], []⟩,
  ⟨("Frac", some "__add__"), "__add__", "Frac.__add__", defArgs s_FracD_addD, defBody s_FracD_addD, defScope s_FracD_addD, [], []⟩,
  ⟨("Frac", some "__sub__"), "__sub__", "Frac.__sub__", defArgs s_FracD_subD, defBody s_FracD_subD, defScope s_FracD_subD, [], []⟩,
  ⟨("Frac", some "__mul__"), "__mul__", "Frac.__mul__", defArgs s_FracD_mulD, defBody s_FracD_mulD, defScope s_FracD_mulD, [], []⟩,
  ⟨("Frac", some "is_below"), "is_below", "Frac.is_below", defArgs s_Frac_is_below, defBody s_Frac_is_below, defScope s_Frac_is_below, [], []⟩,
  ⟨("as_frac", none), "as_frac", "as_frac", defArgs s_as_frac, defBody s_as_frac, defScope s_as_frac, [], []⟩,
  ⟨("greatest_of", none), "greatest_of", "greatest_of", defArgs s_greatest_of, defBody s_greatest_of, defScope s_greatest_of, [], []⟩,
  ⟨("total", none), "total", "total", defArgs s_total, defBody s_total, defScope s_total, [], []⟩,
  ⟨("is_amount", none), "is_amount", "is_amount", defArgs s_is_amount, defBody s_is_amount, defScope s_is_amount, [], []⟩,
  ⟨("is_shown", none), "is_shown", "is_shown", defArgs s_is_shown, defBody s_is_shown, defScope s_is_shown, [], []⟩,
  ⟨("is_offer", none), "is_offer", "is_offer", defArgs s_is_offer, defBody s_is_offer, defScope s_is_offer, [], []⟩,
  ⟨("Offers", some "__init__"), "__init__", "Offers.__init__", defArgs s_OffersD_initD, defBody s_OffersD_initD, defScope s_OffersD_initD, [], []⟩,
  ⟨("shown_shares", none), "shown_shares", "shown_shares", defArgs s_shown_shares, defBody s_shown_shares, defScope s_shown_shares, [], []⟩,
  ⟨("row_before", none), "row_before", "row_before", defArgs s_row_before, defBody s_row_before, defScope s_row_before, [], []⟩,
  ⟨("turn_rows", none), "turn_rows", "turn_rows", defArgs s_turn_rows, defBody s_turn_rows, defScope s_turn_rows, [], []⟩,
  ⟨("turn_worth", none), "turn_worth", "turn_worth", defArgs s_turn_worth, defBody s_turn_worth, defScope s_turn_worth, [], []⟩,
  ⟨("thresholds", none), "thresholds", "thresholds", defArgs s_thresholds, defBody s_thresholds, defScope s_thresholds, [], []⟩,
  ⟨("takings", none), "takings", "takings", defArgs s_takings, defBody s_takings, defScope s_takings, [], []⟩,
  ⟨("turns_taken", none), "turns_taken", "turns_taken", defArgs s_turns_taken, defBody s_turns_taken, defScope s_turns_taken, [], []⟩,
  ⟨("taken_in_turn", none), "taken_in_turn", "taken_in_turn", defArgs s_taken_in_turn, defBody s_taken_in_turn, defScope s_taken_in_turn, [], []⟩,
  ⟨("mean_taken", none), "mean_taken", "mean_taken", defArgs s_mean_taken, defBody s_mean_taken, defScope s_mean_taken, [], []⟩,
  ⟨("_law_bag", none), "_law_bag", "_law_bag", defArgs s__law_bag, defBody s__law_bag, defScope s__law_bag, [], []⟩,
  ⟨("_law_draw", none), "_law_draw", "_law_draw", defArgs s__law_draw, defBody s__law_draw, defScope s__law_draw, [], []⟩,
  ⟨("_law_gcd", none), "_law_gcd", "_law_gcd", defArgs s__law_gcd, defBody s__law_gcd, defScope s__law_gcd, [], []⟩,
  ⟨("_law_low", none), "_law_low", "_law_low", defArgs s__law_low, defBody s__law_low, defScope s__law_low, [], []⟩,
  ⟨("_law_plus", none), "_law_plus", "_law_plus", defArgs s__law_plus, defBody s__law_plus, defScope s__law_plus, [], []⟩,
  ⟨("_law_minus", none), "_law_minus", "_law_minus", defArgs s__law_minus, defBody s__law_minus, defScope s__law_minus, [], []⟩,
  ⟨("_law_times", none), "_law_times", "_law_times", defArgs s__law_times, defBody s__law_times, defScope s__law_times, [], []⟩,
  ⟨("_law_below", none), "_law_below", "_law_below", defArgs s__law_below, defBody s__law_below, defScope s__law_below, [], []⟩,
  ⟨("_law_equal", none), "_law_equal", "_law_equal", defArgs s__law_equal, defBody s__law_equal, defScope s__law_equal, [], []⟩,
  ⟨("_law_greater", none), "_law_greater", "_law_greater", defArgs s__law_greater, defBody s__law_greater, defScope s__law_greater, [], []⟩,
  ⟨("_law_pair", none), "_law_pair", "_law_pair", defArgs s__law_pair, defBody s__law_pair, defScope s__law_pair, [], []⟩,
  ⟨("_law_pairs", none), "_law_pairs", "_law_pairs", defArgs s__law_pairs, defBody s__law_pairs, defScope s__law_pairs, [], []⟩,
  ⟨("_law_is", none), "_law_is", "_law_is", defArgs s__law_is, defBody s__law_is, defScope s__law_is, [], []⟩,
  ⟨("_law_offer", none), "_law_offer", "_law_offer", defArgs s__law_offer, defBody s__law_offer, defScope s__law_offer, [], []⟩,
  ⟨("_law_offered", none), "_law_offered", "_law_offered", defArgs s__law_offered, defBody s__law_offered, defScope s__law_offered, [], []⟩,
  ⟨("_law_turns", none), "_law_turns", "_law_turns", defArgs s__law_turns, defBody s__law_turns, defScope s__law_turns, [], []⟩,
  ⟨("_law_due", none), "_law_due", "_law_due", defArgs s__law_due, defBody s__law_due, defScope s__law_due, [], []⟩,
  ⟨("_law_above", none), "_law_above", "_law_above", defArgs s__law_above, defBody s__law_above, defScope s__law_above, [], []⟩,
  ⟨("law", none), "law", "law", defArgs s_law, defBody s_law, defScope s_law, [], []⟩]
def fa : List He.Fa := [.glo "is_integer", .glo "is_between", .glo "is_sequence", .glo "as_frac", .glo "greatest_of", .glo "total", .glo "is_amount", .glo "is_shown", .glo "is_offer", .glo "shown_shares", .glo "row_before", .glo "turn_rows", .glo "turn_worth", .glo "thresholds", .glo "takings", .glo "turns_taken", .glo "taken_in_turn", .glo "mean_taken", .glo "_law_bag", .glo "_law_draw", .glo "_law_gcd", .glo "_law_low", .glo "_law_plus", .glo "_law_minus", .glo "_law_times", .glo "_law_below", .glo "_law_equal", .glo "_law_greater", .glo "_law_pair", .glo "_law_pairs", .glo "_law_is", .glo "_law_offer", .glo "_law_offered", .glo "_law_turns", .glo "_law_due", .glo "_law_above", .glo "law", .glo "Frac", .glo "Offers", .free "abs", .free "all", .free "bool", .free "enumerate", .free "int", .free "isinstance", .free "len", .free "list", .free "range", .free "reversed", .free "sum", .free "tuple", .free "zip", .int "MOST_OVER" 9999, .int "MOST_UNDER" 99, .int "MOST_OFFERS" 8, .int "MOST_SHOWN" 6, .int "MOST_SHOWN_WEIGHT" 99, .cls "Frac", .noat "Frac" "num", .noat "Frac" "den", .meth "Frac" "is_below", .mkr "Frac", .cls "Offers", .noat "Offers" "rows", .mkr "Offers"]
def chk (K : PySem.W.Frag) : List Bool := [He.eqO (PySem.W.nsIn K mainGlobals "gcd") (some (some (.builtin "math.gcd"))),
  He.eqO (PySem.W.findIn K (.ref (He.ga K "Frac")) "__class__") (some (some (.builtin "object.__class__"))),
  He.eqO (PySem.W.specialIn K (.builtin "object.__class__") "__get__") (some (some (.builtin "getset_descriptor.__get__"))),
  decide (PySem.W.takesIn K (.builtin "object.__class__") = some true),
  decide (PySem.W.mroIn K (He.ga K "Frac") (.type "object") = some true),
  He.eqO (PySem.W.findIn K (.ref (He.ga K "Frac")) (PySem.dunder (Operator.Add).info.2)) (some (some (.ref (He.ma K (He.ga K "Frac") "__add__")))),
  PySem.W.isFn K (.ref (He.ma K (He.ga K "Frac") "__add__")),
  PySem.W.selfFirst K (He.ga K "Frac"),
  He.eqO (PySem.W.findIn K (.ref (He.ga K "Frac")) (PySem.dunder (Operator.Sub).info.2)) (some (some (.ref (He.ma K (He.ga K "Frac") "__sub__")))),
  PySem.W.isFn K (.ref (He.ma K (He.ga K "Frac") "__sub__")),
  PySem.W.selfFirst K (He.ga K "Frac"),
  He.eqO (PySem.W.findIn K (.ref (He.ga K "Frac")) (PySem.dunder (Operator.Mult).info.2)) (some (some (.ref (He.ma K (He.ga K "Frac") "__mul__")))),
  PySem.W.isFn K (.ref (He.ma K (He.ga K "Frac") "__mul__")),
  PySem.W.selfFirst K (He.ga K "Frac"),
  decide (PySem.W.kitOne K (.ref (He.ga K "Frac")) (.type "NoneType") = some false),
  decide (PySem.W.kitOne K (.type "NoneType") (.ref (He.ga K "Frac")) = some false),
  decide (PySem.W.kitOne K (.ref (He.ga K "Frac")) (.type "bool") = some false),
  decide (PySem.W.kitOne K (.type "bool") (.ref (He.ga K "Frac")) = some false),
  decide (PySem.W.kitOne K (.ref (He.ga K "Frac")) (.type "int") = some false),
  decide (PySem.W.kitOne K (.type "int") (.ref (He.ga K "Frac")) = some false),
  decide (PySem.W.kitOne K (.ref (He.ga K "Frac")) (.type "str") = some false),
  decide (PySem.W.kitOne K (.type "str") (.ref (He.ga K "Frac")) = some false),
  decide (PySem.W.kitOne K (.ref (He.ga K "Frac")) (.type "list") = some false),
  decide (PySem.W.kitOne K (.type "list") (.ref (He.ga K "Frac")) = some false),
  decide (PySem.W.kitOne K (.ref (He.ga K "Frac")) (.type "tuple") = some false),
  decide (PySem.W.kitOne K (.type "tuple") (.ref (He.ga K "Frac")) = some false),
  decide (PySem.W.kitOne K (.ref (He.ga K "Frac")) (.type "dict") = some false),
  decide (PySem.W.kitOne K (.type "dict") (.ref (He.ga K "Frac")) = some false),
  decide (PySem.W.kitOne K (.ref (He.ga K "Frac")) (.ref (He.ga K "Frac")) = some true),
  decide (PySem.W.kitOne K (.ref (He.ga K "Frac")) (.ref (He.ga K "Offers")) = some false),
  He.eqO (PySem.W.findIn K (.ref (He.ga K "Offers")) "__class__") (some (some (.builtin "object.__class__"))),
  He.eqO (PySem.W.specialIn K (.builtin "object.__class__") "__get__") (some (some (.builtin "getset_descriptor.__get__"))),
  decide (PySem.W.takesIn K (.builtin "object.__class__") = some true),
  decide (PySem.W.mroIn K (He.ga K "Offers") (.type "object") = some true),
  decide (PySem.W.kitOne K (.ref (He.ga K "Offers")) (.type "NoneType") = some false),
  decide (PySem.W.kitOne K (.type "NoneType") (.ref (He.ga K "Offers")) = some false),
  decide (PySem.W.kitOne K (.ref (He.ga K "Offers")) (.type "bool") = some false),
  decide (PySem.W.kitOne K (.type "bool") (.ref (He.ga K "Offers")) = some false),
  decide (PySem.W.kitOne K (.ref (He.ga K "Offers")) (.type "int") = some false),
  decide (PySem.W.kitOne K (.type "int") (.ref (He.ga K "Offers")) = some false),
  decide (PySem.W.kitOne K (.ref (He.ga K "Offers")) (.type "str") = some false),
  decide (PySem.W.kitOne K (.type "str") (.ref (He.ga K "Offers")) = some false),
  decide (PySem.W.kitOne K (.ref (He.ga K "Offers")) (.type "list") = some false),
  decide (PySem.W.kitOne K (.type "list") (.ref (He.ga K "Offers")) = some false),
  decide (PySem.W.kitOne K (.ref (He.ga K "Offers")) (.type "tuple") = some false),
  decide (PySem.W.kitOne K (.type "tuple") (.ref (He.ga K "Offers")) = some false),
  decide (PySem.W.kitOne K (.ref (He.ga K "Offers")) (.type "dict") = some false),
  decide (PySem.W.kitOne K (.type "dict") (.ref (He.ga K "Offers")) = some false),
  decide (PySem.W.kitOne K (.ref (He.ga K "Offers")) (.ref (He.ga K "Frac")) = some false),
  decide (PySem.W.kitOne K (.ref (He.ga K "Offers")) (.ref (He.ga K "Offers")) = some true)]
abbrev R : PySem.W.OpenRow := PySem.W.OpenLaw.row PySem.Challenge.rw_nextprices_k79_whole_taken_in_turn
abbrev qv : Program := PySem.W.view R.prog [0, 59]
abbrev hk : PySem.W.Hook := HG.hookX 4 chk fa fn
def ob (s : PySem.W.SharedT) : HG.AlX := HG.obsXG 4 chk fa fn (HandSHeadRun.getT s)
theorem ob_eq (s : PySem.W.SharedT) : ob s = hk.obs s.abs := HG.obsXG_eq (HandSHeadRun.getT_eq s)
def loose : List Str := (["_wall", "NextError", "InvalidFraction", "InvalidProject", "WrongSize", "DIGITS", "is_integer", "is_between", "is_sequence", "integer_told", "Frac", "as_frac", "greatest_of", "total", "MOST_OVER", "MOST_UNDER", "is_amount", "MOST_OFFERS", "MOST_SHOWN", "MOST_SHOWN_WEIGHT", "is_shown", "is_offer", "Offers", "shown_shares", "row_before", "turn_rows", "turn_worth", "thresholds", "takings", "turns_taken"] : List Str) ++ (["taken_in_turn", "mean_taken", "_law_bag", "_law_draw", "_law_gcd", "_law_low", "_law_plus", "_law_minus", "_law_times", "_law_over", "_law_below", "_law_equal", "_law_greater", "_law_pair", "_law_pairs", "_law_is", "_law_offer", "_law_offered", "_law_turns", "_law_frac", "_law_due", "_law_above"] : List Str)
theorem run (w : World) : HandSHeadRun.RunEqI R qv hk ob 6000 loose w := by
  unfold HandSHeadRun.RunEqI
  kernel_rfl
theorem facts {K : PySem.W.Frag} {h : Heap} {mg : Str → Option Value} (X : K.In h) (G : h.Ns mainGlobals mg) (c : HG.SaysX chk fa fn K) : Tx K mg where
  g_is_integer := He.glo_ok X G (c.fact 0 rfl)
  g_is_between := He.glo_ok X G (c.fact 1 rfl)
  g_is_sequence := He.glo_ok X G (c.fact 2 rfl)
  g_as_frac := He.glo_ok X G (c.fact 3 rfl)
  g_greatest_of := He.glo_ok X G (c.fact 4 rfl)
  g_total := He.glo_ok X G (c.fact 5 rfl)
  g_is_amount := He.glo_ok X G (c.fact 6 rfl)
  g_is_shown := He.glo_ok X G (c.fact 7 rfl)
  g_is_offer := He.glo_ok X G (c.fact 8 rfl)
  g_shown_shares := He.glo_ok X G (c.fact 9 rfl)
  g_row_before := He.glo_ok X G (c.fact 10 rfl)
  g_turn_rows := He.glo_ok X G (c.fact 11 rfl)
  g_turn_worth := He.glo_ok X G (c.fact 12 rfl)
  g_thresholds := He.glo_ok X G (c.fact 13 rfl)
  g_takings := He.glo_ok X G (c.fact 14 rfl)
  g_turns_taken := He.glo_ok X G (c.fact 15 rfl)
  g_taken_in_turn := He.glo_ok X G (c.fact 16 rfl)
  g_mean_taken := He.glo_ok X G (c.fact 17 rfl)
  g__law_bag := He.glo_ok X G (c.fact 18 rfl)
  g__law_draw := He.glo_ok X G (c.fact 19 rfl)
  g__law_gcd := He.glo_ok X G (c.fact 20 rfl)
  g__law_low := He.glo_ok X G (c.fact 21 rfl)
  g__law_plus := He.glo_ok X G (c.fact 22 rfl)
  g__law_minus := He.glo_ok X G (c.fact 23 rfl)
  g__law_times := He.glo_ok X G (c.fact 24 rfl)
  g__law_below := He.glo_ok X G (c.fact 25 rfl)
  g__law_equal := He.glo_ok X G (c.fact 26 rfl)
  g__law_greater := He.glo_ok X G (c.fact 27 rfl)
  g__law_pair := He.glo_ok X G (c.fact 28 rfl)
  g__law_pairs := He.glo_ok X G (c.fact 29 rfl)
  g__law_is := He.glo_ok X G (c.fact 30 rfl)
  g__law_offer := He.glo_ok X G (c.fact 31 rfl)
  g__law_offered := He.glo_ok X G (c.fact 32 rfl)
  g__law_turns := He.glo_ok X G (c.fact 33 rfl)
  g__law_due := He.glo_ok X G (c.fact 34 rfl)
  g__law_above := He.glo_ok X G (c.fact 35 rfl)
  g_law := He.glo_ok X G (c.fact 36 rfl)
  g_Frac := He.glo_ok X G (c.fact 37 rfl)
  g_Offers := He.glo_ok X G (c.fact 38 rfl)
  b_abs := He.free_ok X G (c.fact 39 rfl)
  b_all := He.free_ok X G (c.fact 40 rfl)
  b_bool := He.free_ok X G (c.fact 41 rfl)
  b_enumerate := He.free_ok X G (c.fact 42 rfl)
  b_int := He.free_ok X G (c.fact 43 rfl)
  b_isinstance := He.free_ok X G (c.fact 44 rfl)
  b_len := He.free_ok X G (c.fact 45 rfl)
  b_list := He.free_ok X G (c.fact 46 rfl)
  b_range := He.free_ok X G (c.fact 47 rfl)
  b_reversed := He.free_ok X G (c.fact 48 rfl)
  b_sum := He.free_ok X G (c.fact 49 rfl)
  b_tuple := He.free_ok X G (c.fact 50 rfl)
  b_zip := He.free_ok X G (c.fact 51 rfl)
  i_MOST_OVER := He.int_ok X G (c.fact 52 rfl)
  i_MOST_UNDER := He.int_ok X G (c.fact 53 rfl)
  i_MOST_OFFERS := He.int_ok X G (c.fact 54 rfl)
  i_MOST_SHOWN := He.int_ok X G (c.fact 55 rfl)
  i_MOST_SHOWN_WEIGHT := He.int_ok X G (c.fact 56 rfl)
  gcd := PySem.W.mg_of X G (He.eqO_ok (c.bit 0 rfl))
  d_is_integer := c.def_ 0 rfl
  d_is_between := c.def_ 1 rfl
  d_is_sequence := c.def_ 2 rfl
  d_FracD_initD := c.def_ 3 rfl
  d_FracD_addD := c.def_ 4 rfl
  d_FracD_subD := c.def_ 5 rfl
  d_FracD_mulD := c.def_ 6 rfl
  d_Frac_is_below := c.def_ 7 rfl
  d_as_frac := c.def_ 8 rfl
  d_greatest_of := c.def_ 9 rfl
  d_total := c.def_ 10 rfl
  d_is_amount := c.def_ 11 rfl
  d_is_shown := c.def_ 12 rfl
  d_is_offer := c.def_ 13 rfl
  d_OffersD_initD := c.def_ 14 rfl
  d_shown_shares := c.def_ 15 rfl
  d_row_before := c.def_ 16 rfl
  d_turn_rows := c.def_ 17 rfl
  d_turn_worth := c.def_ 18 rfl
  d_thresholds := c.def_ 19 rfl
  d_takings := c.def_ 20 rfl
  d_turns_taken := c.def_ 21 rfl
  d_taken_in_turn := c.def_ 22 rfl
  d_mean_taken := c.def_ 23 rfl
  d__law_bag := c.def_ 24 rfl
  d__law_draw := c.def_ 25 rfl
  d__law_gcd := c.def_ 26 rfl
  d__law_low := c.def_ 27 rfl
  d__law_plus := c.def_ 28 rfl
  d__law_minus := c.def_ 29 rfl
  d__law_times := c.def_ 30 rfl
  d__law_below := c.def_ 31 rfl
  d__law_equal := c.def_ 32 rfl
  d__law_greater := c.def_ 33 rfl
  d__law_pair := c.def_ 34 rfl
  d__law_pairs := c.def_ 35 rfl
  d__law_is := c.def_ 36 rfl
  d__law_offer := c.def_ 37 rfl
  d__law_offered := c.def_ 38 rfl
  d__law_turns := c.def_ 39 rfl
  d__law_due := c.def_ 40 rfl
  d__law_above := c.def_ 41 rfl
  d_law := c.def_ 42 rfl
  cl_Frac := He.cls_ok (c.fact 57 rfl)
  no_Frac_num := He.noat_ok (c.fact 58 rfl)
  no_Frac_den := He.noat_ok (c.fact 59 rfl)
  m_Frac_is_below := He.meth_ok (c.fact 60 rfl)
  mk_Frac := He.mkr_ok (c.fact 61 rfl)
  ins_Frac := ⟨He.cls_ok (c.fact 57 rfl), He.eqO_ok (c.bit 1 rfl), He.eqO_ok (c.bit 2 rfl), of_decide_eq_true (c.bit 3 rfl), of_decide_eq_true (c.bit 4 rfl)⟩
  op_Frac_Add := ⟨He.eqO_ok (c.bit 5 rfl), (c.bit 6 rfl), (c.bit 7 rfl)⟩
  op_Frac_Sub := ⟨He.eqO_ok (c.bit 8 rfl), (c.bit 9 rfl), (c.bit 10 rfl)⟩
  op_Frac_Mult := ⟨He.eqO_ok (c.bit 11 rfl), (c.bit 12 rfl), (c.bit 13 rfl)⟩
  kit_Frac_NoneType := of_decide_eq_true (c.bit 14 rfl)
  tik_Frac_NoneType := of_decide_eq_true (c.bit 15 rfl)
  kit_Frac_bool := of_decide_eq_true (c.bit 16 rfl)
  tik_Frac_bool := of_decide_eq_true (c.bit 17 rfl)
  kit_Frac_int := of_decide_eq_true (c.bit 18 rfl)
  tik_Frac_int := of_decide_eq_true (c.bit 19 rfl)
  kit_Frac_str := of_decide_eq_true (c.bit 20 rfl)
  tik_Frac_str := of_decide_eq_true (c.bit 21 rfl)
  kit_Frac_list := of_decide_eq_true (c.bit 22 rfl)
  tik_Frac_list := of_decide_eq_true (c.bit 23 rfl)
  kit_Frac_tuple := of_decide_eq_true (c.bit 24 rfl)
  tik_Frac_tuple := of_decide_eq_true (c.bit 25 rfl)
  kit_Frac_dict := of_decide_eq_true (c.bit 26 rfl)
  tik_Frac_dict := of_decide_eq_true (c.bit 27 rfl)
  kic_Frac_Frac := of_decide_eq_true (c.bit 28 rfl)
  kic_Frac_Offers := of_decide_eq_true (c.bit 29 rfl)
  cl_Offers := He.cls_ok (c.fact 62 rfl)
  no_Offers_rows := He.noat_ok (c.fact 63 rfl)
  mk_Offers := He.mkr_ok (c.fact 64 rfl)
  ins_Offers := ⟨He.cls_ok (c.fact 62 rfl), He.eqO_ok (c.bit 30 rfl), He.eqO_ok (c.bit 31 rfl), of_decide_eq_true (c.bit 32 rfl), of_decide_eq_true (c.bit 33 rfl)⟩
  kit_Offers_NoneType := of_decide_eq_true (c.bit 34 rfl)
  tik_Offers_NoneType := of_decide_eq_true (c.bit 35 rfl)
  kit_Offers_bool := of_decide_eq_true (c.bit 36 rfl)
  tik_Offers_bool := of_decide_eq_true (c.bit 37 rfl)
  kit_Offers_int := of_decide_eq_true (c.bit 38 rfl)
  tik_Offers_int := of_decide_eq_true (c.bit 39 rfl)
  kit_Offers_str := of_decide_eq_true (c.bit 40 rfl)
  tik_Offers_str := of_decide_eq_true (c.bit 41 rfl)
  kit_Offers_list := of_decide_eq_true (c.bit 42 rfl)
  tik_Offers_list := of_decide_eq_true (c.bit 43 rfl)
  kit_Offers_tuple := of_decide_eq_true (c.bit 44 rfl)
  tik_Offers_tuple := of_decide_eq_true (c.bit 45 rfl)
  kit_Offers_dict := of_decide_eq_true (c.bit 46 rfl)
  tik_Offers_dict := of_decide_eq_true (c.bit 47 rfl)
  kic_Offers_Frac := of_decide_eq_true (c.bit 48 rfl)
  kic_Offers_Offers := of_decide_eq_true (c.bit 49 rfl)
end KH
end

section
set_option maxRecDepth 100000
set_option maxHeartbeats 2000000
/-! what the program's functions compute, in rationals -/
namespace G
open PySem PySem.Spec PyProof.Rows L2
abbrev ORow := List (Int × Rat)
def vec (g : Nat → Rat) (n : Nat) : List D := (List.range n).map fun i => .frac (g i)
def updF (g : Nat → Rat) (i : Nat) (v : Rat) : Nat → Rat := fun j => if j = i then v else g j
theorem vec_len {g : Nat → Rat} {n : Nat} : (vec g n).length = n := by simp [vec]
theorem vec_at {g : Nat → Rat} {n i : Nat} (h : i < n) : (vec g n)[i]? = some (.frac (g i)) := by simp [vec, h]
theorem vec_succ {g : Nat → Rat} {n : Nat} : vec g (n + 1) = vec g n ++ [.frac (g n)] := by simp [vec, List.range_succ]
theorem vec_set {g : Nat → Rat} {n i : Nat} {v : Rat} : (vec g n).set i (.frac v) = vec (updF g i v) n := by
  apply List.ext_getElem?
  intro j
  rw [List.getElem?_set]
  by_cases hi : i = j
  · subst hi
    by_cases hn : i < n
    · rw [if_pos rfl, if_pos (by rw [vec_len]; exact hn), vec_at hn]; simp [updF]
    · rw [if_pos rfl, if_neg (by rw [vec_len]; exact hn)]; simp [vec, Nat.le_of_not_lt hn]
  · by_cases hn : j < n
    · rw [if_neg hi, vec_at hn, vec_at hn]; simp [updF, Ne.symm hi]
    · rw [if_neg hi]; simp [vec, Nat.le_of_not_lt hn]
theorem vec_congr {f g : Nat → Rat} {n : Nat} (h : ∀ i, i < n → f i = g i) : vec f n = vec g n := by
  unfold vec; apply List.map_congr_left; intro i hi; rw [h i (List.mem_range.mp hi)]
def sumN (f : Nat → Rat) (n : Nat) : Rat := ((List.range n).map f).sum
theorem sumN_zero {f : Nat → Rat} : sumN f 0 = 0 := rfl
theorem sumN_succ {f : Nat → Rat} {n : Nat} : sumN f (n + 1) = sumN f n + f n := by
  unfold sumN; rw [List.range_succ, List.map_append, List.sum_append]; simp [Rat.add_zero]
theorem sumN_congr {f g : Nat → Rat} {n : Nat} (h : ∀ i, i < n → f i = g i) : sumN f n = sumN g n := by
  unfold sumN; congr 1; apply List.map_congr_left; intro i hi; exact h i (List.mem_range.mp hi)
def NiceF (k : Nat) (g : Nat → Rat) : Prop := ∀ i, Nice k (g i)
theorem NiceF.sumN {k n : Nat} {f : Nat → Rat} (h : ∀ i, i < n → Nice k (f i)) (hn : n ≤ 32) : Nice (k + 1) (sumN f n) :=
  Nice.sum (fun x hx => by obtain ⟨i, hi, rfl⟩ := List.mem_map.mp hx; exact h i (List.mem_range.mp hi)) (by simpa using hn)
def whole (r : ORow) : Int := (r.map (·.1)).sum
def share (r : ORow) (w : Int) : Rat := Rat.divInt w (whole r)
structure RowOk (r : ORow) : Prop where
  ne : r ≠ []
  len : r.length ≤ 6
  w1 : ∀ p ∈ r, 1 ≤ p.1
  w2 : ∀ p ∈ r, p.1 ≤ 99
  n : ∀ p ∈ r, Nice 1 p.2
  sh : ∀ p ∈ r, Nice 1 (share r p.1)
theorem sum_pos : ∀ {l : List Int}, (∀ i ∈ l, 1 ≤ i) → (l.length : Int) ≤ l.sum
  | [], _ => by simp
  | a :: l, h => by
    have := sum_pos (l := l) fun i hi => h i (List.mem_cons_of_mem _ hi)
    have := h a List.mem_cons_self
    rw [List.sum_cons, List.length_cons]; omega
theorem sum_le {b : Int} : ∀ {l : List Int}, (∀ i ∈ l, i ≤ b) → l.sum ≤ l.length * b
  | [], _ => by simp
  | a :: l, h => by
    have := sum_le (l := l) fun i hi => h i (List.mem_cons_of_mem _ hi)
    have := h a List.mem_cons_self
    rw [List.sum_cons, List.length_cons]
    push_cast
    rw [Int.add_mul]; omega
theorem RowOk.whole_pos {r : ORow} (h : RowOk r) : 0 < whole r := by
  have h1 := sum_pos (l := r.map (·.1)) fun i hi => by obtain ⟨p, hp, rfl⟩ := List.mem_map.mp hi; exact h.w1 p hp
  have h2 : 0 < r.length := List.length_pos_iff.mpr h.ne
  rw [List.length_map] at h1
  unfold whole; omega
theorem RowOk.whole_le {r : ORow} (h : RowOk r) : whole r ≤ 594 := by
  have h1 := sum_le (l := r.map (·.1)) (b := 99) fun i hi => by obtain ⟨p, hp, rfl⟩ := List.mem_map.mp hi; exact h.w2 p hp
  have h2 := h.len
  rw [List.length_map] at h1
  unfold whole; omega
/-! the table -/
def rowB (r : ORow) (g : Nat → Rat) : Nat → Rat
  | 0 => 0
  | i + 1 => (r.map fun p => share r p.1 * rmax (p.2 + g i) (g (i + 1))).sum
def TT : List ORow → Nat → Rat
  | [] => fun _ => 0
  | r :: rs => rowB r (TT rs)
theorem nice_part {r : ORow} (h : RowOk r) {k : Nat} {g : Nat → Rat} (hk : 1 ≤ k) (hg : NiceF k g) {p : Int × Rat} (hp : p ∈ r) (i : Nat) : Nice (k + 2) (share r p.1 * rmax (p.2 + g i) (g (i + 1))) := by
  have := (h.sh p hp).mul ((((h.n p hp).mono hk).add (hg i)).rmax ((hg (i + 1)).up))
  rwa [show 1 + (k + 1) = k + 2 by omega] at this
theorem NiceF.rowB {r : ORow} (h : RowOk r) {k : Nat} {g : Nat → Rat} (hk : 1 ≤ k) (hg : NiceF k g) : NiceF (k + 3) (rowB r g)
  | 0 => Nice.zero _
  | i + 1 => Nice.sum (fun x hx => by obtain ⟨p, hp, rfl⟩ := List.mem_map.mp hx; exact nice_part h hk hg hp i) (by rw [List.length_map]; have := h.len; omega)
theorem NiceF.TT : ∀ {rs : List ORow}, (∀ r ∈ rs, RowOk r) → NiceF (3 * rs.length + 1) (TT rs)
  | [], _ => fun _ => Nice.zero _
  | r :: rs, h => by
    have := NiceF.rowB (h r List.mem_cons_self) (k := 3 * rs.length + 1) (by omega) (NiceF.TT fun q hq => h q (List.mem_cons_of_mem _ hq))
    rwa [show 3 * rs.length + 1 + 3 = 3 * (r :: rs).length + 1 by rw [List.length_cons]; omega] at this
def bar (g : Nat → Rat) (l : Nat) : Rat := g (l + 1) - g l
/-! what is taken -/
def takes (b : Rat) (p : Int × Rat) : Bool := decide (0 < p.2.num) && !decide (p.2 < b)
def part (r : ORow) (b : Rat) : Rat := ((r.filter (takes b)).map fun p => share r p.1).sum
def gain (r : ORow) (b : Rat) : Rat := ((r.filter (takes b)).map fun p => share r p.1 * p.2).sum
theorem Nice.partR {r : ORow} (h : RowOk r) (b : Rat) : Nice 2 (part r b) :=
  Nice.sum (fun x hx => by obtain ⟨p, hp, rfl⟩ := List.mem_map.mp hx; exact h.sh p (List.mem_filter.mp hp).1) (by rw [List.length_map]; have := h.len; have := List.length_filter_le (takes b) r; omega)
theorem Nice.gainR {r : ORow} (h : RowOk r) (b : Rat) : Nice 3 (gain r b) :=
  Nice.sum (fun x hx => by obtain ⟨p, hp, rfl⟩ := List.mem_map.mp hx; exact (h.sh p (List.mem_filter.mp hp).1).mul (h.n p (List.mem_filter.mp hp).1)) (by rw [List.length_map]; have := h.len; have := List.length_filter_le (takes b) r; omega)
/-! the chances -/
def mv (r : ORow) (b c : Nat → Rat) (l : Nat) : Rat := c (l + 1) * part r (b l)
def gv (r : ORow) (b c : Nat → Rat) (l : Nat) : Rat := c (l + 1) * gain r (b l)
def lat (r : ORow) (b c : Nat → Rat) : Nat → Nat → Rat
  | 0 => c
  | j + 1 => updF (updF (lat r b c j) (j + 1) (lat r b c j (j + 1) - mv r b c j)) j (updF (lat r b c j) (j + 1) (lat r b c j (j + 1) - mv r b c j) j + mv r b c j)
theorem lat_far {r : ORow} {b c : Nat → Rat} : ∀ {j l : Nat}, j < l → lat r b c j l = c l
  | 0, _, _ => rfl
  | j + 1, l, h => by
    show updF _ j _ l = _
    unfold updF
    rw [if_neg (by omega), if_neg (by omega)]
    exact lat_far (by omega)
theorem Nice.mv {r : ORow} (h : RowOk r) {b c : Nat → Rat} {k : Nat} (hc : NiceF k c) (l : Nat) : Nice (k + 2) (mv r b c l) := (hc (l + 1)).mul (Nice.partR h _)
theorem Nice.gv {r : ORow} (h : RowOk r) {b c : Nat → Rat} {k : Nat} (hc : NiceF k c) (l : Nat) : Nice (k + 3) (gv r b c l) := (hc (l + 1)).mul (Nice.gainR h _)
theorem lat_nice {r : ORow} (h : RowOk r) {b c : Nat → Rat} {k : Nat} (hc : NiceF k c) : ∀ j, Nice (k + 3) (lat r b c j j) ∧ ∀ l, Nice (k + 4) (lat r b c j l)
  | 0 => ⟨(hc 0).mono (by omega), fun l => (hc l).mono (by omega)⟩
  | j + 1 => by
    obtain ⟨h1, h2⟩ := lat_nice h hc j
    have e1 : Nice (k + 3) (lat r b c j (j + 1) - G.mv r b c j) := by
      rw [lat_far (by omega)]
      exact ((hc (j + 1)).mono (show k ≤ k + 2 by omega)).sub (Nice.mv h hc j)
    refine ⟨?_, fun l => ?_⟩
    · show Nice _ (updF _ j _ (j + 1))
      unfold updF
      rw [if_neg (by omega), if_pos rfl]
      exact e1
    · show Nice _ (updF _ j _ l)
      unfold updF
      by_cases hl : l = j
      · rw [if_pos hl, if_neg (by omega)]
        exact h1.add ((Nice.mv h hc j).mono (by omega))
      · rw [if_neg hl]
        by_cases hl2 : l = j + 1
        · rw [if_pos hl2]; exact e1.up
        · rw [if_neg hl2]; exact h2 l
/-- the chances behind each offer -/
def CC (many : Nat) : List ORow → (Nat → Rat) → Nat → Nat → Rat
  | _, c, 0 => c
  | [], c, _ + 1 => c
  | r :: rs, c, n + 1 => CC many rs (lat r (bar (TT rs)) c many) n
def c0 (many : Nat) : Nat → Rat := fun l => if l = many then 1 else 0
end G
end

section
set_option maxRecDepth 100000
set_option maxHeartbeats 2000000
/-! the chances, turn by turn -/
namespace G
open PySem PySem.Spec PyProof.Rows L2
def rowAt (rs : List ORow) (i : Nat) : ORow := rs.getD i []
def barAt (rs : List ORow) (i : Nat) : Nat → Rat := bar (TT (rs.drop (i + 1)))
def ch (rs : List ORow) (n : Nat) : Nat → Nat → Rat
  | 0 => c0 n
  | i + 1 => lat (rowAt rs i) (barAt rs i) (ch rs n i) n
def told (rs : List ORow) (n i : Nat) : Rat := sumN (mv (rowAt rs i) (barAt rs i) (ch rs n i)) n
def meanT (rs : List ORow) (n i : Nat) : Rat := sumN (gv (rowAt rs i) (barAt rs i) (ch rs n i)) n
theorem rowAt_of {rs : List ORow} {i : Nat} {r : ORow} (h : rs[i]? = some r) : rowAt rs i = r := by simp [rowAt, h]
theorem c0_nice {n : Nat} : NiceF 1 (c0 n) := fun i => by
  unfold c0; split
  · exact Nice.int (i := 1) (by decide)
  · exact Nice.zero 1
theorem rowAt_ok {rs : List ORow} (h : ∀ r ∈ rs, RowOk r) {i : Nat} (hi : i < rs.length) : RowOk (rowAt rs i) := by
  have : rs[i]? = some rs[i] := by simp [hi]
  rw [rowAt_of this]; exact h _ (List.getElem_mem hi)
theorem ch_nice {rs : List ORow} {n : Nat} (h : ∀ r ∈ rs, RowOk r) : ∀ {i : Nat}, i ≤ rs.length → NiceF (4 * i + 1) (ch rs n i)
  | 0, _ => c0_nice
  | i + 1, hi => fun l => (lat_nice (rowAt_ok h (by omega)) (ch_nice h (i := i) (by omega)) n).2 l
theorem TT_drop {rs : List ORow} {i : Nat} (hi : i < rs.length) : TT (rs.drop i) = rowB (rowAt rs i) (TT (rs.drop (i + 1))) := by
  rw [List.drop_eq_getElem_cons hi]
  have : rs[i]? = some rs[i] := by simp [hi]
  rw [rowAt_of this]; rfl
theorem TT_nice {rs : List ORow} (h : ∀ r ∈ rs, RowOk r) (i : Nat) : NiceF (3 * rs.length + 1) (TT (rs.drop i)) := fun l =>
  (NiceF.TT (fun r hr => h r (List.mem_of_mem_drop hr)) l).mono (by rw [List.length_drop]; omega)
theorem range_rev {α : Type} (f : Nat → α) (n : Nat) : ((List.range (n + 1)).map fun i => f (n - i)).reverse = (List.range (n + 1)).map f := by
  apply List.ext_getElem
  · simp
  · intro i h1 h2
    simp at h1 h2
    simp [List.getElem_reverse]
    congr 1
    omega
end G
end

section
set_option maxRecDepth 100000
set_option maxHeartbeats 2000000
/-! the law's own reckoning -/
namespace G
open PySem PySem.Spec PyProof.Rows L2
section
variable {C : Cl} {B : Bs} {Γ : List Sl} {t u : TS} {te ta tb : TE} {nx bk ct : List Sl → Prop} {rt : D → Prop} {K : D → Prop}
/-- a loop with a state that is not told -/
theorem sx_forGS {wi : TI} {g : TG} (h : IK C B Γ wi fun l => ∃ (α : Type) (xs : List α) (f : α → D) (τ : Type) (F : Nat → τ → List Sl) (P : Nat → τ → Prop), l = xs.map f ∧ (∃ s, P 0 s ∧ Wk Γ (F 0 s)) ∧
      (∀ B' j x s, xs[j]? = some x → P j s → GK C B' (F j s) g (f x) fun Γ2 => SX C B' Γ2 t (fun Γ' => ∃ s', P (j + 1) s' ∧ Wk Γ' (F (j + 1) s')) rt nx (fun Γ' => ∃ s', P (j + 1) s' ∧ Wk Γ' (F (j + 1) s'))) ∧ ∀ Γ' s, P xs.length s → Wk Γ' (F xs.length s) → nx Γ') : SX C B Γ (tFor wi g t) nx rt bk ct :=
  sx_forG (h.mono fun l ⟨α, xs, f, τ, F, P, e, h0, hs, hd⟩ => by
    subst e
    refine ⟨fun j Γ' => ∃ s, P j s ∧ Wk Γ' (F j s), h0, fun B' j d Γ' hj ⟨s, p, w⟩ => gk_weak w ?_, fun Γ' ⟨s, p, w⟩ => ?_⟩
    · rw [List.getElem?_map] at hj
      cases hx : xs[j]? with
      | none => rw [hx] at hj; cases hj
      | some x =>
        rw [hx] at hj; cases hj
        exact hs B' j x s hx p
    · rw [List.length_map] at p w
      exact hd Γ' s p w)
end
def vecL (g : Nat → Rat) (n : Nat) : List D := (List.range n).map fun i => lowD (g i)
theorem vecL_len {g : Nat → Rat} {n : Nat} : (vecL g n).length = n := by simp [vecL]
theorem vecL_at {g : Nat → Rat} {n i : Nat} (h : i < n) : (vecL g n)[i]? = some (lowD (g i)) := by simp [vecL, h]
theorem vecL_succ {g : Nat → Rat} {n : Nat} : vecL g (n + 1) = vecL g n ++ [lowD (g n)] := by simp [vecL, List.range_succ]
theorem vecL_set {g : Nat → Rat} {n i : Nat} {v : Rat} : (vecL g n).set i (lowD v) = vecL (updF g i v) n := by
  apply List.ext_getElem?
  intro j
  rw [List.getElem?_set]
  by_cases hi : i = j
  · subst hi
    by_cases hn : i < n
    · rw [if_pos rfl, if_pos (by rw [vecL_len]; exact hn), vecL_at hn]; simp [updF]
    · rw [if_pos rfl, if_neg (by rw [vecL_len]; exact hn)]; simp [vecL, Nat.le_of_not_lt hn]
  · by_cases hn : j < n
    · rw [if_neg hi, vecL_at hn, vecL_at hn]; simp [updF, Ne.symm hi]
    · rw [if_neg hi]; simp [vecL, Nat.le_of_not_lt hn]
/-- an offer of the law's own -/
def ownD (r : ORow) : D := .dic [(.inr "rows", .lst (r.map fun p => .lst [.int p.1, lowD p.2])), (.inr "all", .int (whole r))]
/-! the chances, the law's way: one row of an offer at a time -/
def stepF (r : ORow) (b : Rat) (c : Nat → Rat) (l : Nat) (g : Nat → Rat) (p : Int × Rat) : Nat → Rat :=
  if takes b p then updF g l (g l + c (l + 1) * share r p.1) else updF g (l + 1) (g (l + 1) + c (l + 1) * share r p.1)
def stepS (r : ORow) (b : Rat) (c : Nat → Rat) (l : Nat) (a : Rat) (p : Int × Rat) : Rat := if takes b p then a + c (l + 1) * share r p.1 else a
def stepM (r : ORow) (b : Rat) (c : Nat → Rat) (l : Nat) (a : Rat) (p : Int × Rat) : Rat := if takes b p then a + c (l + 1) * share r p.1 * p.2 else a
def dF (r : ORow) (b c : Nat → Rat) : Nat → Nat → Rat
  | 0 => updF (fun _ => 0) 0 (c 0)
  | l + 1 => r.foldl (stepF r (b l) c l) (dF r b c l)
def dS (r : ORow) (b c : Nat → Rat) : Nat → Rat
  | 0 => 0
  | l + 1 => r.foldl (stepS r (b l) c l) (dS r b c l)
def dM (r : ORow) (b c : Nat → Rat) : Nat → Rat
  | 0 => 0
  | l + 1 => r.foldl (stepM r (b l) c l) (dM r b c l)
def lch (rs : List ORow) (n : Nat) : Nat → Nat → Rat
  | 0 => c0 n
  | i + 1 => dF (rowAt rs i) (barAt rs i) (lch rs n i) n
theorem foldl_take {α β : Type} {f : β → α → β} {a : β} {xs : List α} {j : Nat} {x : α} (h : xs[j]? = some x) : (xs.take (j + 1)).foldl f a = f ((xs.take j).foldl f a) x := by
  rw [List.take_succ, h, List.foldl_append]; rfl
theorem stepF_nice {r : ORow} (h : RowOk r) {b : Rat} {c : Nat → Rat} {k m l : Nat} (hc : NiceF k c) (hm : k + 1 ≤ m) : ∀ {ps : List (Int × Rat)} {g : Nat → Rat}, (∀ p ∈ ps, p ∈ r) → NiceF m g → NiceF (m + ps.length) (ps.foldl (stepF r b c l) g)
  | [], g, _, hg => hg
  | p :: ps, g, hp, hg => by
    have n1 : Nice m (c (l + 1) * share r p.1) := ((hc (l + 1)).mul (h.sh p (hp p List.mem_cons_self))).mono hm
    have n2 : NiceF (m + 1) (stepF r b c l g p) := fun i => by
      unfold stepF
      split <;> unfold updF <;> split
      · exact (hg _).add n1
      · exact (hg i).up
      · exact (hg _).add n1
      · exact (hg i).up
    have := stepF_nice h (b := b) (m := m + 1) (l := l) hc (by omega) (ps := ps) (fun q hq => hp q (List.mem_cons_of_mem _ hq)) n2
    rwa [show m + 1 + ps.length = m + (p :: ps).length by rw [List.length_cons]; omega] at this
theorem stepS_nice {r : ORow} (h : RowOk r) {b : Rat} {c : Nat → Rat} {k m l : Nat} (hc : NiceF k c) (hm : k + 1 ≤ m) : ∀ {ps : List (Int × Rat)} {a : Rat}, (∀ p ∈ ps, p ∈ r) → Nice m a → Nice (m + ps.length) (ps.foldl (stepS r b c l) a)
  | [], _, _, hg => hg
  | p :: ps, a, hp, hg => by
    have n1 : Nice m (c (l + 1) * share r p.1) := ((hc (l + 1)).mul (h.sh p (hp p List.mem_cons_self))).mono hm
    have n2 : Nice (m + 1) (stepS r b c l a p) := by
      unfold stepS
      split
      · exact hg.add n1
      · exact hg.up
    have := stepS_nice h (b := b) (m := m + 1) (l := l) hc (by omega) (ps := ps) (fun q hq => hp q (List.mem_cons_of_mem _ hq)) n2
    rwa [show m + 1 + ps.length = m + (p :: ps).length by rw [List.length_cons]; omega] at this
theorem stepM_nice {r : ORow} (h : RowOk r) {b : Rat} {c : Nat → Rat} {k m l : Nat} (hc : NiceF k c) (hm : k + 2 ≤ m) : ∀ {ps : List (Int × Rat)} {a : Rat}, (∀ p ∈ ps, p ∈ r) → Nice m a → Nice (m + ps.length) (ps.foldl (stepM r b c l) a)
  | [], _, _, hg => hg
  | p :: ps, a, hp, hg => by
    have n1 : Nice m (c (l + 1) * share r p.1 * p.2) := (((hc (l + 1)).mul (h.sh p (hp p List.mem_cons_self))).mul (h.n p (hp p List.mem_cons_self))).mono hm
    have n2 : Nice (m + 1) (stepM r b c l a p) := by
      unfold stepM
      split
      · exact hg.add n1
      · exact hg.up
    have := stepM_nice h (b := b) (m := m + 1) (l := l) hc (by omega) (ps := ps) (fun q hq => hp q (List.mem_cons_of_mem _ hq)) n2
    rwa [show m + 1 + ps.length = m + (p :: ps).length by rw [List.length_cons]; omega] at this
theorem take_sub {r : ORow} {j : Nat} : ∀ p ∈ r.take j, p ∈ r := fun _ h => List.mem_of_mem_take h
theorem dF_nice {r : ORow} (h : RowOk r) (h3 : r.length ≤ 3) {b c : Nat → Rat} {k : Nat} (hc : NiceF k c) : ∀ l, NiceF (k + 1 + 3 * l) (dF r b c l)
  | 0 => fun i => by
    unfold dF updF; split
    · exact (hc 0).up
    · exact Nice.zero _
  | l + 1 => fun i => (stepF_nice h hc (by omega) (fun _ h => h) (dF_nice h h3 hc l) i).mono (by omega)
theorem dS_nice {r : ORow} (h : RowOk r) (h3 : r.length ≤ 3) {b c : Nat → Rat} {k : Nat} (hc : NiceF k c) : ∀ l, Nice (k + 1 + 3 * l) (dS r b c l)
  | 0 => Nice.zero _
  | l + 1 => (stepS_nice h hc (by omega) (fun _ h => h) (dS_nice h h3 hc l)).mono (by omega)
theorem dM_nice {r : ORow} (h : RowOk r) (h3 : r.length ≤ 3) {b c : Nat → Rat} {k : Nat} (hc : NiceF k c) : ∀ l, Nice (k + 2 + 3 * l) (dM r b c l)
  | 0 => Nice.zero _
  | l + 1 => (stepM_nice h hc (by omega) (fun _ h => h) (dM_nice h h3 hc l)).mono (by omega)
theorem lch_nice {rs : List ORow} {n : Nat} (h : ∀ r ∈ rs, RowOk r ∧ r.length ≤ 3) : ∀ {i : Nat}, i ≤ rs.length → NiceF ((1 + 3 * n) * i + 1) (lch rs n i)
  | 0, _ => fun j => (c0_nice j).mono (by omega)
  | i + 1, hi => fun l => by
    have hr : RowOk (rowAt rs i) ∧ (rowAt rs i).length ≤ 3 := by
      have : rs[i]? = some rs[i] := by simp [show i < rs.length by omega]
      rw [rowAt_of this]; exact h _ (List.getElem_mem (by omega))
    have := dF_nice hr.1 hr.2 (b := barAt rs i) (lch_nice (n := n) h (i := i) (by omega)) n l
    refine this.mono ?_
    rw [Nat.mul_succ]; omega
theorem x_low {q : Rat} {p : Kd → List D → Prop} (h : p .t [.int q.num, .int (q.den : Nat)]) : ∃ k m, lowD q = Kd.d k m ∧ p k m := ⟨.t, _, rfl, h⟩
end G
end

section
set_option maxRecDepth 100000
set_option maxHeartbeats 2000000
/-! the plain law -/
namespace G
open PySem PySem.Spec PyProof.Rows L2
theorem sum_nil : ([] : List Rat).sum = 0 := rfl
theorem sum_filter {α : Type} (t : α → Bool) (f : α → Rat) : ∀ xs : List α, ((xs.filter t).map f).sum = (xs.map fun x => if t x then f x else 0).sum
  | [] => rfl
  | x :: xs => by
    rw [List.filter_cons, List.map_cons, List.sum_cons, ← sum_filter t f xs]
    split
    · rw [List.map_cons, List.sum_cons]
    · rw [Rat.zero_add]
theorem sum_add {α : Type} (f g : α → Rat) : ∀ xs : List α, (xs.map fun x => f x + g x).sum = (xs.map f).sum + (xs.map g).sum
  | [] => by simp [Rat.add_zero]
  | x :: xs => by rw [List.map_cons, List.sum_cons, sum_add f g xs, List.map_cons, List.sum_cons, List.map_cons, List.sum_cons]; grind
theorem sum_mulr {α : Type} (f : α → Rat) (k : Rat) : ∀ xs : List α, (xs.map fun x => f x * k).sum = (xs.map f).sum * k
  | [] => by simp
  | x :: xs => by rw [List.map_cons, List.sum_cons, sum_mulr f k xs, List.map_cons, List.sum_cons]; grind
theorem sum_le' {α : Type} (f g : α → Rat) : ∀ xs : List α, (∀ x ∈ xs, f x ≤ g x) → (xs.map f).sum ≤ (xs.map g).sum
  | [], _ => Rat.le_refl
  | x :: xs, h => by
    rw [List.map_cons, List.sum_cons, List.map_cons, List.sum_cons]
    have h1 := h x List.mem_cons_self
    have h2 := sum_le' f g xs fun y hy => h y (List.mem_cons_of_mem _ hy)
    grind
theorem sum_eq {α : Type} (f g : α → Rat) (xs : List α) (h : ∀ x ∈ xs, f x = g x) : (xs.map f).sum = (xs.map g).sum := by
  congr 1; exact List.map_congr_left h
theorem sum_zero {α : Type} : ∀ xs : List α, (xs.map fun _ => (0 : Rat)).sum = 0
  | [] => rfl
  | x :: xs => by rw [List.map_cons, List.sum_cons, sum_zero xs]; exact Rat.add_zero 0
theorem sum_intCast : ∀ xs : List Int, ((xs.sum : Int) : Rat) = (xs.map fun i : Int => (i : Rat)).sum
  | [] => rfl
  | x :: xs => by rw [List.sum_cons, List.map_cons, List.sum_cons, ← sum_intCast xs]; push_cast; rfl
section
variable {r : ORow}
theorem whole_posR (h : RowOk r) : (0 : Rat) < (whole r : Rat) := Rat.intCast_pos.mpr h.whole_pos
theorem share_div (r : ORow) (w : Int) : share r w = (w : Rat) / (whole r : Rat) := Rat.divInt_eq_div _ _
theorem share_nonneg (h : RowOk r) {p : Int × Rat} (hp : p ∈ r) : 0 ≤ share r p.1 := by
  unfold share
  exact Rat.divInt_nonneg (by have := h.w1 p hp; omega) (by have := h.whole_pos; omega)
theorem share_sumW (r : ORow) (t : Int × Rat → Bool) (h : RowOk r) : ((r.filter t).map fun p => share r p.1).sum = ((((r.filter t).map (·.1)).sum : Int) : Rat) / (whole r : Rat) := by
  rw [sum_intCast, List.map_map]
  have e : (fun p : Int × Rat => share r p.1) = fun p => (p.1 : Rat) * (1 / (whole r : Rat)) := by
    funext p; rw [share_div]; grind
  rw [e, sum_mulr (fun p : Int × Rat => (p.1 : Rat))]
  show ((r.filter t).map fun p : Int × Rat => (p.1 : Rat)).sum * _ = ((r.filter t).map fun p : Int × Rat => (p.1 : Rat)).sum / _
  grind
theorem share_one (h : RowOk r) : (r.map fun p => share r p.1).sum = 1 := by
  have := share_sumW r (fun _ => true) h
  rw [List.filter_eq_self.mpr (fun _ _ => rfl)] at this
  rw [this]
  show (whole r : Rat) / (whole r : Rat) = 1
  have := whole_posR h
  grind
theorem part_if (b : Rat) : part r b = (r.map fun p => if takes b p then share r p.1 else 0).sum := sum_filter _ _ _
theorem gain_if (b : Rat) : gain r b = (r.map fun p => if takes b p then share r p.1 * p.2 else 0).sum := sum_filter _ _ _
theorem part_nonneg (h : RowOk r) (b : Rat) : 0 ≤ part r b := by
  have := sum_le' (fun _ => (0 : Rat)) (fun p => if takes b p then share r p.1 else 0) r fun p hp => by
    have := share_nonneg h hp
    show (0 : Rat) ≤ if _ then _ else _
    split
    · exact this
    · exact Rat.le_refl
  rw [sum_zero] at this
  rw [part_if]; exact this
theorem part_le (h : RowOk r) (b : Rat) : part r b ≤ 1 := by
  rw [part_if, ← share_one h]
  apply sum_le'
  intro p hp
  have := share_nonneg h hp
  split
  · exact Rat.le_refl
  · exact this
theorem rest_if (h : RowOk r) (b : Rat) : (r.map fun p => if takes b p then 0 else share r p.1).sum = 1 - part r b := by
  have := sum_add (fun p => if takes b p then share r p.1 else 0) (fun p : Int × Rat => if takes b p then (0 : Rat) else share r p.1) r
  rw [← part_if] at this
  have e : (r.map fun p => (if takes b p then share r p.1 else 0) + (if takes b p then (0 : Rat) else share r p.1)).sum = 1 := by
    rw [← share_one h]
    apply sum_eq
    intro p _
    split <;> grind
  rw [e] at this
  grind
/-! the law's folds -/
theorem fold_S (b : Rat) (c : Nat → Rat) (l : Nat) : ∀ (ps : List (Int × Rat)) (a : Rat), ps.foldl (stepS r b c l) a = a + c (l + 1) * (ps.map fun p => if takes b p then share r p.1 else 0).sum
  | [], a => by simp [Rat.add_zero]
  | p :: ps, a => by
    rw [List.foldl_cons, fold_S b c l ps, List.map_cons, List.sum_cons]
    unfold stepS
    split <;> grind
theorem fold_M (b : Rat) (c : Nat → Rat) (l : Nat) : ∀ (ps : List (Int × Rat)) (a : Rat), ps.foldl (stepM r b c l) a = a + c (l + 1) * (ps.map fun p => if takes b p then share r p.1 * p.2 else 0).sum
  | [], a => by simp [Rat.add_zero]
  | p :: ps, a => by
    rw [List.foldl_cons, fold_M b c l ps, List.map_cons, List.sum_cons]
    unfold stepM
    split <;> grind
theorem fold_F (b : Rat) (c : Nat → Rat) (l i : Nat) : ∀ (ps : List (Int × Rat)) (g : Nat → Rat), ps.foldl (stepF r b c l) g i = g i + (if i = l then c (l + 1) * (ps.map fun p => if takes b p then share r p.1 else 0).sum else 0) + (if i = l + 1 then c (l + 1) * (ps.map fun p => if takes b p then 0 else share r p.1).sum else 0)
  | [], g => by
    simp only [List.foldl_nil, List.map_nil, sum_nil, Rat.mul_zero]
    split <;> split <;> grind
  | p :: ps, g => by
    rw [List.foldl_cons, fold_F b c l i ps, List.map_cons, List.sum_cons, List.map_cons, List.sum_cons]
    unfold stepF updF
    by_cases h1 : i = l
    · have h2 : ¬ i = l + 1 := by omega
      by_cases ht : takes b p <;> simp only [h1, h2, ht] <;> simp <;> grind
    · by_cases h2 : i = l + 1
      · by_cases ht : takes b p <;> simp only [h1, h2, ht] <;> simp <;> grind
      · by_cases ht : takes b p <;> simp [h1, h2, ht]
theorem dS_eq (b c : Nat → Rat) : ∀ j, dS r b c j = sumN (mv r b c) j
  | 0 => rfl
  | j + 1 => by
    show r.foldl _ _ = _
    rw [fold_S, dS_eq b c j, sumN_succ, ← part_if]; rfl
theorem dM_eq (b c : Nat → Rat) : ∀ j, dM r b c j = sumN (gv r b c) j
  | 0 => rfl
  | j + 1 => by
    show r.foldl _ _ = _
    rw [fold_M, dM_eq b c j, sumN_succ, ← gain_if]; rfl
theorem dF_eq (h : RowOk r) (b c : Nat → Rat) : ∀ j i, dF r b c j i = (if i = 0 then c 0 else if i ≤ j then c i * (1 - part r (b (i - 1))) else 0) + (if i < j then mv r b c i else 0)
  | 0, i => by
    unfold dF updF
    by_cases h0 : i = 0
    · subst h0; simp [Rat.add_zero]
    · rw [if_neg h0, if_neg h0, if_neg (by omega), if_neg (by omega)]; exact (Rat.add_zero 0).symm
  | j + 1, i => by
    show (r.foldl (stepF r (b j) c j) (dF r b c j)) i = _
    rw [fold_F, dF_eq h b c j i, ← part_if, rest_if h]
    unfold mv
    by_cases h0 : i = 0
    · subst h0
      by_cases hj : 0 = j
      · subst hj; simp; grind
      · have : 0 < j := by omega
        simp [hj, this]; grind
    · by_cases h1 : i < j
      · simp only [h0, if_neg h0, if_pos (show i ≤ j by omega), if_pos h1, if_neg (show ¬ i = j by omega), if_neg (show ¬ i = j + 1 by omega), if_pos (show i ≤ j + 1 by omega), if_pos (show i < j + 1 by omega)]; grind
      · by_cases h2 : i = j
        · subst h2
          simp only [if_neg h0, if_pos (Nat.le_refl i), if_neg h1, if_pos rfl, if_neg (show ¬ i = i + 1 by omega), if_pos (show i ≤ i + 1 by omega), if_pos (show i < i + 1 by omega)]; grind
        · by_cases h3 : i = j + 1
          · subst h3
            simp only [if_neg h0, if_neg (show ¬ j + 1 ≤ j by omega), if_neg h1, if_neg h2, if_pos rfl, if_pos (Nat.le_refl (j + 1)), if_neg (Nat.lt_irrefl (j + 1)), Nat.add_sub_cancel]; grind
          · simp only [if_neg h0, if_neg (show ¬ i ≤ j by omega), if_neg h1, if_neg h2, if_neg h3, if_neg (show ¬ i ≤ j + 1 by omega), if_neg (show ¬ i < j + 1 by omega)]; grind
theorem lat_eq (b c : Nat → Rat) : ∀ j i, lat r b c j i = (if i = 0 then c 0 else if i ≤ j then c i - mv r b c (i - 1) else c i) + (if i < j then mv r b c i else 0)
  | 0, i => by
    by_cases h0 : i = 0
    · subst h0; simp [lat, Rat.add_zero]
    · rw [if_neg h0, if_neg (by omega), if_neg (by omega)]; simp [lat, Rat.add_zero]
  | j + 1, i => by
    show updF _ j _ i = _
    unfold updF
    by_cases h1 : i = j
    · subst h1
      rw [if_pos rfl, if_neg (show ¬ i = i + 1 by omega), lat_eq b c i i, if_neg (Nat.lt_irrefl i), if_pos (show i < i + 1 by omega)]
      by_cases h0 : i = 0
      · simp only [if_pos h0]; grind
      · simp only [if_neg h0, if_pos (Nat.le_refl i), if_pos (show i ≤ i + 1 by omega)]; grind
    · rw [if_neg h1]
      by_cases h2 : i = j + 1
      · subst h2
        rw [if_pos rfl, lat_far (by omega), if_neg (show ¬ j + 1 = 0 by omega), if_pos (Nat.le_refl _), if_neg (Nat.lt_irrefl _), Nat.add_sub_cancel]; grind
      · rw [if_neg h2, lat_eq b c j i]
        by_cases h0 : i = 0
        · subst h0
          rw [if_pos rfl, if_pos rfl, if_pos (show 0 < j by omega), if_pos (show 0 < j + 1 by omega)]
        · by_cases h3 : i < j
          · simp only [if_neg h0, if_pos (show i ≤ j by omega), if_pos h3, if_pos (show i ≤ j + 1 by omega), if_pos (show i < j + 1 by omega)]
          · simp only [if_neg h0, if_neg (show ¬ i ≤ j by omega), if_neg h3, if_neg (show ¬ i ≤ j + 1 by omega), if_neg (show ¬ i < j + 1 by omega)]
theorem dF_lat (h : RowOk r) (b c : Nat → Rat) {n i : Nat} (hi : i ≤ n) : dF r b c n i = lat r b c n i := by
  rw [dF_eq h, lat_eq]
  congr 1
  by_cases h0 : i = 0
  · simp only [if_pos h0]
  · simp only [if_neg h0, if_pos hi]
    unfold mv
    rw [Nat.sub_add_cancel (by omega)]; grind
end
end G
end

section
set_option maxRecDepth 100000
set_option maxHeartbeats 2000000
/-! the plain law, turn by turn -/
namespace G
open PySem PySem.Spec PyProof.Rows L2
def aboveN (r : ORow) : Int := ((r.filter fun p => decide (0 < p.2.num)).map (·.1)).sum
theorem sumN_updF (w g : Nat → Rat) (i : Nat) (v : Rat) : ∀ m, sumN (fun l => w l * updF g i v l) m = sumN (fun l => w l * g l) m + (if i < m then w i * (v - g i) else 0)
  | 0 => by rw [if_neg (by omega)]; exact (Rat.add_zero _).symm
  | m + 1 => by
    rw [sumN_succ, sumN_succ, sumN_updF w g i v m]
    unfold updF
    by_cases h : i < m
    · rw [if_pos h, if_pos (show i < m + 1 by omega), if_neg (show ¬ m = i by omega)]; grind
    · by_cases h2 : i = m
      · subst h2; rw [if_neg h, if_pos (show i < i + 1 by omega), if_pos (rfl : i = i)]; grind
      · rw [if_neg h, if_neg (show ¬ i < m + 1 by omega), if_neg (show ¬ m = i by omega)]; grind
theorem lat_sum (r : ORow) (b c w : Nat → Rat) {n : Nat} : ∀ j, j ≤ n → sumN (fun l => w l * lat r b c j l) (n + 1) = sumN (fun l => w l * c l) (n + 1) - sumN (fun l => mv r b c l * (w (l + 1) - w l)) j
  | 0, _ => by rw [sumN_zero]; show sumN (fun l => w l * c l) (n + 1) = _; grind
  | j + 1, hj => by
    show sumN (fun l => w l * updF _ j _ l) (n + 1) = _
    rw [sumN_updF, if_pos (by omega), sumN_updF, if_pos (by omega), lat_sum r b c w j (by omega), sumN_succ (n := j)]
    grind
theorem sumN_nonneg {f : Nat → Rat} : ∀ {n : Nat}, (∀ i, i < n → 0 ≤ f i) → 0 ≤ sumN f n
  | 0, _ => Rat.le_refl
  | n + 1, h => by
    rw [sumN_succ]
    have h1 := sumN_nonneg (n := n) fun i hi => h i (by omega)
    have h2 := h n (by omega)
    grind
theorem sumN_le {f g : Nat → Rat} : ∀ {n : Nat}, (∀ i, i < n → f i ≤ g i) → sumN f n ≤ sumN g n
  | 0, _ => Rat.le_refl
  | n + 1, h => by
    rw [sumN_succ, sumN_succ]
    have h1 := sumN_le (n := n) fun i hi => h i (by omega)
    have h2 := h n (by omega)
    grind
theorem sumN_shift (f : Nat → Rat) : ∀ n, sumN f (n + 1) = f 0 + sumN (fun l => f (l + 1)) n
  | 0 => by rw [sumN_succ, sumN_zero, sumN_zero]; grind
  | n + 1 => by rw [sumN_succ, sumN_shift f n, sumN_succ]; grind
theorem sumN_mulr (f : Nat → Rat) (k : Rat) : ∀ n, sumN (fun l => f l * k) n = sumN f n * k
  | 0 => by rw [sumN_zero, sumN_zero]; grind
  | n + 1 => by rw [sumN_succ, sumN_mulr f k n, sumN_succ]; grind
theorem sumN_add (f g : Nat → Rat) : ∀ n, sumN (fun l => f l + g l) n = sumN f n + sumN g n
  | 0 => by rw [sumN_zero, sumN_zero, sumN_zero]; grind
  | n + 1 => by rw [sumN_succ, sumN_add f g n, sumN_succ, sumN_succ]; grind
/-- the worths are not negative -/
def Pos (r : ORow) : Prop := ∀ p ∈ r, 0 ≤ p.2
structure Inv' (n : Nat) (c : Nat → Rat) : Prop where
  nn : ∀ l, l ≤ n → 0 ≤ c l
  one : sumN c (n + 1) = 1
theorem mv_nonneg {r : ORow} (h : RowOk r) {b c : Nat → Rat} {n l : Nat} (i : Inv' n c) (hl : l < n) : 0 ≤ mv r b c l := Rat.mul_nonneg (i.nn _ (by omega)) (part_nonneg h _)
theorem Inv'.step {r : ORow} (h : RowOk r) {b c : Nat → Rat} {n : Nat} (i : Inv' n c) : Inv' n (lat r b c n) where
  nn := fun l hl => by
    rw [lat_eq]
    have h2 : 0 ≤ (if l < n then mv r b c l else 0) := by
      split
      · exact mv_nonneg h i (by assumption)
      · exact Rat.le_refl
    have h1 : 0 ≤ (if l = 0 then c 0 else if l ≤ n then c l - mv r b c (l - 1) else c l) := by
      by_cases h0 : l = 0
      · rw [if_pos h0]; exact i.nn 0 (by omega)
      · rw [if_neg h0, if_pos hl]
        unfold mv
        rw [Nat.sub_add_cancel (by omega)]
        have := Rat.mul_nonneg (i.nn l hl) (show 0 ≤ 1 - part r (b (l - 1)) by have := part_le h (b (l - 1)); grind)
        grind
    grind
  one := by
    have := lat_sum r b c (fun _ => 1) (n := n) n (Nat.le_refl _)
    have e1 : sumN (fun l => 1 * lat r b c n l) (n + 1) = sumN (lat r b c n) (n + 1) := sumN_congr fun i _ => Rat.one_mul _
    have e2 : sumN (fun l => 1 * c l) (n + 1) = sumN c (n + 1) := sumN_congr fun i _ => Rat.one_mul _
    have e3 : sumN (fun l => mv r b c l * ((1 : Rat) - 1)) n = 0 := by
      have : sumN (fun l => mv r b c l * ((1 : Rat) - 1)) n = sumN (mv r b c) n * (1 - 1) := sumN_mulr _ _ _
      rw [this]; grind
    rw [e1, e2, e3, i.one] at this
    rw [this]; grind
theorem c0_sum (w : Nat → Rat) (n : Nat) : sumN (fun l => w l * c0 n l) (n + 1) = w n := by
  rw [sumN_succ]
  have : sumN (fun l => w l * c0 n l) n = 0 := by
    have e : sumN (fun l => w l * c0 n l) n = sumN (fun l => (0 : Rat) * 0) n := sumN_congr fun i hi => by
      unfold c0; rw [if_neg (by omega)]; grind
    rw [e, sumN_mulr]; grind
  rw [this]; unfold c0; rw [if_pos rfl]; grind
theorem Inv'.zero (n : Nat) : Inv' n (c0 n) where
  nn := fun l _ => by unfold c0; split <;> decide
  one := by
    have := c0_sum (fun _ => 1) n
    have e2 : sumN (fun l => 1 * c0 n l) (n + 1) = sumN (c0 n) (n + 1) := sumN_congr fun i _ => Rat.one_mul _
    rw [e2] at this; exact this
section
variable {rs : List ORow} {n : Nat}
theorem ch_inv (h : ∀ r ∈ rs, RowOk r) : ∀ {i : Nat}, i ≤ rs.length → Inv' n (ch rs n i)
  | 0, _ => Inv'.zero n
  | i + 1, hi => (ch_inv h (i := i) (by omega)).step (rowAt_ok h (by omega))
theorem told_nonneg (h : ∀ r ∈ rs, RowOk r) {i : Nat} (hi : i < rs.length) : 0 ≤ told rs n i := sumN_nonneg fun l hl => mv_nonneg (rowAt_ok h hi) (ch_inv h (Nat.le_of_lt hi)) hl
theorem told_le (h : ∀ r ∈ rs, RowOk r) {i : Nat} (hi : i < rs.length) : told rs n i ≤ 1 := by
  have c := ch_inv (n := n) h (Nat.le_of_lt hi)
  have h1 : told rs n i ≤ sumN (fun l => ch rs n i (l + 1)) n := sumN_le fun l hl => by
    have := Rat.mul_nonneg (c.nn (l + 1) (by omega)) (show 0 ≤ 1 - part (rowAt rs i) (barAt rs i l) by have := part_le (rowAt_ok h hi) (barAt rs i l); grind)
    unfold mv
    grind
  have h2 := c.one
  rw [sumN_shift] at h2
  have h3 := c.nn 0 (by omega)
  grind
/-- what is left in the mean -/
def left (rs : List ORow) (n i : Nat) : Rat := sumN (fun l => ((l : Nat) : Rat) * ch rs n i l) (n + 1)
theorem left_step {i : Nat} : left rs n (i + 1) = left rs n i - told rs n i := by
  unfold left
  show sumN (fun l => _ * lat (rowAt rs i) (barAt rs i) (ch rs n i) n l) (n + 1) = _
  rw [lat_sum _ _ _ _ n (Nat.le_refl _)]
  congr 1
  exact sumN_congr fun l _ => by push_cast; grind
theorem told_sum (h : ∀ r ∈ rs, RowOk r) : ∀ {i : Nat}, i ≤ rs.length → sumN (told rs n) i = (n : Rat) - left rs n i
  | 0, _ => by
    rw [sumN_zero]
    unfold left
    show (0 : Rat) = _ - sumN (fun l => _ * c0 n l) (n + 1)
    rw [c0_sum (fun l => ((l : Nat) : Rat))]; grind
  | i + 1, hi => by rw [sumN_succ, told_sum h (by omega), left_step]; grind
theorem told_total (h : ∀ r ∈ rs, RowOk r) : sumN (told rs n) rs.length ≤ (n : Rat) := by
  rw [told_sum h (Nat.le_refl _)]
  have : 0 ≤ left rs n rs.length := sumN_nonneg fun l hl => Rat.mul_nonneg (by exact_mod_cast Nat.zero_le l) ((ch_inv h (Nat.le_refl _)).nn l (by omega))
  grind
/-! the table grows with the turns -/
theorem rmax_le {p q t : Rat} (h1 : p ≤ t) (h2 : q ≤ t) : rmax p q ≤ t := by unfold rmax; split <;> assumption
theorem le_rmax_left (p q : Rat) : p ≤ rmax p q := by unfold rmax; split <;> grind
theorem le_rmax_right (p q : Rat) : q ≤ rmax p q := by unfold rmax; split <;> grind
theorem rowB_mono {r : ORow} (h : RowOk r) (hp : Pos r) {g : Nat → Rat} (g0 : g 0 = 0) (hg : ∀ l, g l ≤ g (l + 1)) : ∀ l, rowB r g l ≤ rowB r g (l + 1)
  | 0 => by
    show (0 : Rat) ≤ (r.map fun p => share r p.1 * rmax (p.2 + g 0) (g 1)).sum
    have := sum_le' (fun _ => (0 : Rat)) (fun p => share r p.1 * rmax (p.2 + g 0) (g 1)) r fun p hp' => by
      refine Rat.mul_nonneg (share_nonneg h hp') ?_
      have h1 := le_rmax_left (p.2 + g 0) (g 1)
      have h2 := hp p hp'
      grind
    rwa [sum_zero] at this
  | l + 1 => by
    refine sum_le' _ _ r fun p hp' => ?_
    have h1 : rmax (p.2 + g l) (g (l + 1)) ≤ rmax (p.2 + g (l + 1)) (g (l + 1 + 1)) := by
      have a1 := le_rmax_left (p.2 + g (l + 1)) (g (l + 1 + 1))
      have a2 := le_rmax_right (p.2 + g (l + 1)) (g (l + 1 + 1))
      have a3 := hg l
      have a4 := hg (l + 1)
      exact rmax_le (by grind) (by grind)
    have := Rat.mul_nonneg (share_nonneg h hp') (show 0 ≤ rmax (p.2 + g (l + 1)) (g (l + 1 + 1)) - rmax (p.2 + g l) (g (l + 1)) by grind)
    grind
theorem TT_mono : ∀ {rs : List ORow}, (∀ r ∈ rs, RowOk r ∧ Pos r) → TT rs 0 = 0 ∧ ∀ l, TT rs l ≤ TT rs (l + 1)
  | [], _ => ⟨rfl, fun _ => Rat.le_refl⟩
  | r :: rs, h => by
    obtain ⟨h1, h2⟩ := TT_mono fun q hq => h q (List.mem_cons_of_mem _ hq)
    obtain ⟨h3, h4⟩ := h r List.mem_cons_self
    exact ⟨rfl, rowB_mono h3 h4 h1 h2⟩
theorem TT_sat : ∀ {rs : List ORow} {l : Nat}, rs.length ≤ l → TT rs (l + 1) = TT rs l
  | [], _, _ => rfl
  | r :: rs, l, h => by
    rw [List.length_cons] at h
    obtain ⟨m, rfl⟩ : ∃ m, l = m + 1 := ⟨l - 1, by omega⟩
    show (r.map fun p => share r p.1 * rmax (p.2 + TT rs (m + 1)) (TT rs (m + 1 + 1))).sum = (r.map fun p => share r p.1 * rmax (p.2 + TT rs m) (TT rs (m + 1))).sum
    rw [TT_sat (rs := rs) (l := m + 1) (by omega), TT_sat (rs := rs) (l := m) (by omega)]
theorem num_pos_iff (q : Rat) : 0 < q.num ↔ 0 < q := by
  have := Rat.lt_iff 0 q
  rw [this]
  simp
/-- one turn of the table -/
theorem rowB_gain {r : ORow} (h : RowOk r) (hp : Pos r) {g : Nat → Rat} {l : Nat} (hb : 0 ≤ bar g l) : rowB r g (l + 1) = g (l + 1) + gain r (bar g l) - part r (bar g l) * bar g l := by
  show (r.map fun p => share r p.1 * rmax (p.2 + g l) (g (l + 1))).sum = _
  have e : (r.map fun p => share r p.1 * rmax (p.2 + g l) (g (l + 1))).sum = (r.map fun p => share r p.1 * g (l + 1) + ((if takes (bar g l) p then share r p.1 * p.2 else 0) + (if takes (bar g l) p then share r p.1 else 0) * (- bar g l))).sum := by
    apply sum_eq
    intro p hp'
    have hx := hp p hp'
    by_cases ht : takes (bar g l) p = true
    · simp only [ht, if_true]
      unfold takes at ht
      have h2 : ¬ p.2 < bar g l := by
        intro z; rw [decide_eq_true z] at ht; simp at ht
      have h3 : rmax (p.2 + g l) (g (l + 1)) = p.2 + g l := by
        unfold rmax
        rw [if_neg]
        intro z; apply h2; unfold bar; grind
      rw [h3]; unfold bar; grind
    · simp only [ht]
      have h3 : rmax (p.2 + g l) (g (l + 1)) = g (l + 1) := by
        unfold takes at ht
        by_cases h0 : 0 < p.2.num
        · have h2 : p.2 < bar g l := by
            apply Decidable.byContradiction
            intro z; apply ht; rw [decide_eq_true h0, decide_eq_false z]; rfl
          unfold rmax
          rw [if_pos]
          unfold bar at h2; grind
        · have h4 : p.2 = 0 := by
            have := mt (num_pos_iff p.2).mpr h0
            grind
          unfold rmax
          split
          · rfl
          · unfold bar at hb; grind
      rw [h3]
      simp
      grind
  rw [e, sum_add, sum_mulr (fun p : Int × Rat => share r p.1), share_one h, sum_add, sum_mulr (fun p : Int × Rat => if takes (bar g l) p then share r p.1 else 0), ← part_if, ← gain_if]
  grind
end
end G
end

section
set_option maxRecDepth 100000
set_option maxHeartbeats 2000000
/-! the plain law, all of it -/
namespace G
open PySem PySem.Spec PyProof.Rows L2
section
variable {rs : List ORow} {n : Nat}
theorem rowAt_pos (h : ∀ r ∈ rs, Pos r) {i : Nat} (hi : i < rs.length) : Pos (rowAt rs i) := by
  have : rs[i]? = some rs[i] := by simp [hi]
  rw [rowAt_of this]; exact h _ (List.getElem_mem hi)
theorem drop_ok (h : ∀ r ∈ rs, RowOk r ∧ Pos r) (i : Nat) : ∀ r ∈ rs.drop i, RowOk r ∧ Pos r := fun r hr => h r (List.mem_of_mem_drop hr)
/-- the worth of the chances -/
def val (rs : List ORow) (n i : Nat) : Rat := sumN (fun l => TT (rs.drop i) l * ch rs n i l) (n + 1)
theorem val_step (h : ∀ r ∈ rs, RowOk r ∧ Pos r) {i : Nat} (hi : i < rs.length) : val rs n i = val rs n (i + 1) + meanT rs n i := by
  have okr := rowAt_ok (fun r hr => (h r hr).1) hi
  have opr := rowAt_pos (fun r hr => (h r hr).2) hi
  obtain ⟨g0, gm⟩ := TT_mono (drop_ok h (i + 1))
  have hb : ∀ l, 0 ≤ bar (TT (rs.drop (i + 1))) l := fun l => by have := gm l; unfold bar; grind
  have e2 : val rs n (i + 1) = sumN (fun l => TT (rs.drop (i + 1)) l * ch rs n i l) (n + 1) - sumN (fun l => mv (rowAt rs i) (barAt rs i) (ch rs n i) l * barAt rs i l) n := by
    unfold val
    show sumN (fun l => _ * lat (rowAt rs i) (barAt rs i) (ch rs n i) n l) (n + 1) = _
    rw [lat_sum _ _ _ _ n (Nat.le_refl _)]; rfl
  have e1 : val rs n i = sumN (fun l => TT (rs.drop (i + 1)) l * ch rs n i l) (n + 1) + (meanT rs n i - sumN (fun l => mv (rowAt rs i) (barAt rs i) (ch rs n i) l * barAt rs i l) n) := by
    unfold val
    rw [sumN_shift, sumN_shift (fun l => TT (rs.drop (i + 1)) l * ch rs n i l), TT_drop hi, g0]
    have e3 : sumN (fun l => rowB (rowAt rs i) (TT (rs.drop (i + 1))) (l + 1) * ch rs n i (l + 1)) n = sumN (fun l => TT (rs.drop (i + 1)) (l + 1) * ch rs n i (l + 1) + (gv (rowAt rs i) (barAt rs i) (ch rs n i) l + mv (rowAt rs i) (barAt rs i) (ch rs n i) l * barAt rs i l * (-1))) n := by
      apply sumN_congr
      intro l _
      rw [rowB_gain okr opr (hb l)]
      unfold gv mv barAt
      grind
    have e4 : sumN (fun l => gv (rowAt rs i) (barAt rs i) (ch rs n i) l + mv (rowAt rs i) (barAt rs i) (ch rs n i) l * barAt rs i l * (-1)) n = meanT rs n i - sumN (fun l => mv (rowAt rs i) (barAt rs i) (ch rs n i) l * barAt rs i l) n := by
      have a := sumN_add (fun l => gv (rowAt rs i) (barAt rs i) (ch rs n i) l) (fun l => mv (rowAt rs i) (barAt rs i) (ch rs n i) l * barAt rs i l * (-1)) n
      have b := sumN_mulr (fun l => mv (rowAt rs i) (barAt rs i) (ch rs n i) l * barAt rs i l) (-1) n
      rw [b] at a
      rw [a]
      show meanT rs n i + _ = _
      grind
    have a := sumN_add (fun l => TT (rs.drop (i + 1)) (l + 1) * ch rs n i (l + 1)) (fun l => gv (rowAt rs i) (barAt rs i) (ch rs n i) l + mv (rowAt rs i) (barAt rs i) (ch rs n i) l * barAt rs i l * (-1)) n
    rw [e3, a, e4]
    show rowB _ _ 0 * _ + _ = _
    show (0 : Rat) * _ + _ = _
    grind
  rw [e1, e2]; grind
theorem mean_sum (h : ∀ r ∈ rs, RowOk r ∧ Pos r) : ∀ {i : Nat}, i ≤ rs.length → sumN (meanT rs n) i = val rs n 0 - val rs n i
  | 0, _ => by rw [sumN_zero]; grind
  | i + 1, hi => by
    have := val_step (n := n) h (i := i) (by omega)
    rw [sumN_succ, mean_sum h (by omega)]; grind
theorem mean_total (h : ∀ r ∈ rs, RowOk r ∧ Pos r) : sumN (meanT rs n) rs.length = TT rs n := by
  rw [mean_sum h (Nat.le_refl _)]
  have e0 : val rs n 0 = TT rs n := c0_sum (TT rs) n
  have e1 : val rs n rs.length = 0 := by
    unfold val
    rw [List.drop_length]
    have : sumN (fun l => TT [] l * ch rs n rs.length l) (n + 1) = sumN (fun l => ch rs n rs.length l * 0) (n + 1) := sumN_congr fun l _ => by
      show (0 : Rat) * _ = _ * 0
      grind
    rw [this, sumN_mulr]; grind
  rw [e0, e1]; grind
/-! nothing of worth -/
theorem above_zero {r : ORow} (h : RowOk r) (hz : aboveN r = 0) (b : Rat) : part r b = 0 := by
  have e : r.filter (fun p => decide (0 < p.2.num)) = [] := by
    cases hf : r.filter (fun p => decide (0 < p.2.num)) with
    | nil => rfl
    | cons p ps =>
      exfalso
      have hm : ∀ q ∈ r.filter (fun p => decide (0 < p.2.num)), 1 ≤ q.1 := fun q hq => h.w1 q (List.mem_filter.mp hq).1
      have h1 := sum_pos (l := (r.filter (fun p => decide (0 < p.2.num))).map (·.1)) fun i hi => by obtain ⟨q, hq, rfl⟩ := List.mem_map.mp hi; exact hm q hq
      have h2 : aboveN r = ((r.filter (fun p => decide (0 < p.2.num))).map (·.1)).sum := rfl
      rw [← h2, hz, hf] at h1
      simp at h1
      omega
  have e2 : r.filter (takes b) = [] := by
    rw [List.filter_eq_nil_iff] at e ⊢
    intro p hp ht
    apply e p hp
    unfold takes at ht
    simp at ht
    simpa using ht.1
  unfold part
  rw [e2]; rfl
theorem told_zero (h : ∀ r ∈ rs, RowOk r) {i : Nat} (hi : i < rs.length) (hz : aboveN (rowAt rs i) = 0) : told rs n i = 0 := by
  unfold told
  have : sumN (mv (rowAt rs i) (barAt rs i) (ch rs n i)) n = sumN (fun l => ch rs n i (l + 1) * 0) n := sumN_congr fun l _ => by
    unfold mv; rw [above_zero (rowAt_ok h hi) hz]
  rw [this, sumN_mulr]; grind
/-! a place for each -/
theorem ch_supp (h : ∀ r ∈ rs, RowOk r) : ∀ {i l : Nat}, i ≤ rs.length → l + i < n → ch rs n i l = 0
  | 0, l, _, hl => by show c0 n l = 0; unfold c0; rw [if_neg (by omega)]
  | i + 1, l, hi, hl => by
    show lat _ _ _ n l = 0
    rw [lat_eq]
    have h1 := ch_supp h (i := i) (l := l) (by omega) (by omega)
    have h2 := ch_supp h (i := i) (l := l + 1) (by omega) (by omega)
    by_cases h0 : l = 0
    · rw [if_pos h0, if_pos (show l < n by omega)]
      unfold mv
      subst h0
      rw [h1, h2]; grind
    · rw [if_neg h0, if_pos (show l ≤ n by omega), if_pos (show l < n by omega)]
      unfold mv
      rw [Nat.sub_add_cancel (by omega), h1, h2]; grind
theorem part_zero {r : ORow} (h : RowOk r) (hp : Pos r) : part r 0 = (aboveN r : Rat) / (whole r : Rat) := by
  unfold aboveN
  rw [← share_sumW r _ h]
  unfold part
  congr 2
  apply List.filter_congr
  intro p hp'
  have := hp p hp'
  unfold takes
  rw [decide_eq_false (show ¬ p.2 < 0 by grind)]; simp
theorem told_all (h : ∀ r ∈ rs, RowOk r ∧ Pos r) (hn : rs.length ≤ n) {i : Nat} (hi : i < rs.length) : told rs n i = (aboveN (rowAt rs i) : Rat) / (whole (rowAt rs i) : Rat) := by
  have h1 : ∀ r ∈ rs, RowOk r := fun r hr => (h r hr).1
  have c := ch_inv (n := n) h1 (Nat.le_of_lt hi)
  have e : told rs n i = sumN (fun l => ch rs n i (l + 1) * part (rowAt rs i) 0) n := sumN_congr fun l hl => by
    unfold mv
    by_cases hs : l + 1 + i < n
    · rw [ch_supp h1 (Nat.le_of_lt hi) hs]; grind
    · have : barAt rs i l = 0 := by
        unfold barAt bar
        rw [TT_sat (by rw [List.length_drop]; omega)]; grind
      rw [this]
  rw [e, sumN_mulr, part_zero (rowAt_ok h1 hi) (rowAt_pos (fun r hr => (h r hr).2) hi)]
  have h2 := c.one
  rw [sumN_shift, ch_supp h1 (Nat.le_of_lt hi) (by omega)] at h2
  have h3 : sumN (fun l => ch rs n i (l + 1)) n = 1 := by grind
  rw [h3]; grind
/-! the law's own reckoning is the program's -/
theorem lch_ch (h : ∀ r ∈ rs, RowOk r) : ∀ {i l : Nat}, i ≤ rs.length → l ≤ n → lch rs n i l = ch rs n i l
  | 0, _, _, _ => rfl
  | i + 1, l, hi, hl => by
    show dF _ _ (lch rs n i) n l = lat _ _ (ch rs n i) n l
    have okr := rowAt_ok h (i := i) (by omega)
    rw [dF_lat okr _ _ hl, lat_eq, lat_eq]
    have ih : ∀ {m : Nat}, m ≤ n → lch rs n i m = ch rs n i m := fun hm => lch_ch h (by omega) hm
    have e1 : ∀ m, m < n → mv (rowAt rs i) (barAt rs i) (lch rs n i) m = mv (rowAt rs i) (barAt rs i) (ch rs n i) m := fun m hm => by unfold mv; rw [ih (by omega)]
    congr 1
    · by_cases h0 : l = 0
      · simp only [if_pos h0]; exact ih (Nat.zero_le _)
      · simp only [if_neg h0, if_pos hl]; rw [ih hl, e1 _ (by omega)]
    · by_cases h0 : l < n
      · simp only [if_pos h0]; exact e1 _ h0
      · simp only [if_neg h0]
theorem lS_told (h : ∀ r ∈ rs, RowOk r) {i : Nat} (hi : i < rs.length) : dS (rowAt rs i) (barAt rs i) (lch rs n i) n = told rs n i := by
  rw [dS_eq]
  exact sumN_congr fun l hl => by unfold mv; rw [lch_ch h (Nat.le_of_lt hi) (by omega)]
theorem lM_mean (h : ∀ r ∈ rs, RowOk r) {i : Nat} (hi : i < rs.length) : dM (rowAt rs i) (barAt rs i) (lch rs n i) n = meanT rs n i := by
  rw [dM_eq]
  exact sumN_congr fun l hl => by unfold gv; rw [lch_ch h (Nat.le_of_lt hi) (by omega)]
end
end G
end

section
set_option maxRecDepth 100000
set_option maxHeartbeats 2000000
/-! own[0]['rows'][0][1] = ..: what stands in shared data changes -/
namespace G
open PySem PySem.Spec PyProof.Rows L2
section
variable {C : Cl} {P : Option Addr} {W : Hp} {a : Addr} {w0 : Int} {v1 v : V} {x1 : Rat}
/-- the cell's new list -/
def nuW (W : Hp) (a : Addr) (w0 : Int) (v : V) : Hp := upd W a (.lst [.int w0, v])
theorem low_tr (ha : W a = some (.lst [.int w0, v1])) {u : V} {q : Rat} (r : Rep C P W u (lowD q)) : Rep C P (nuW W a w0 v) u (lowD q) := by
  cases r with
  | @tup b vs _ hb rl =>
    refine .tup (vs := vs) ?_ ?_
    · unfold nuW
      rw [upd_ne (fun z => by subst z; rw [ha] at hb; cases hb)]; exact hb
    · cases rl with
      | cons r1 r2 =>
        cases r2 with
        | cons r2 r3 =>
          cases r1; cases r2; cases r3
          exact .cons (.int _) (.cons (.int _) .nil)
theorem cell_tr (ha : W a = some (.lst [.int w0, v1])) (hv : Rep C P W v (lowD x1)) {u : V} {p : Int × Rat} (r : Rep C P W u (.lst [.int p.1, lowD p.2])) :
    ∃ q : Rat, (q = p.2 ∨ q = x1) ∧ Rep C P (nuW W a w0 v) u (.lst [.int p.1, lowD q]) := by
  cases r with
  | @lst b vs _ hb rl =>
    by_cases z : b = a
    · subst z
      rw [ha] at hb
      injection hb with hb
      injection hb with hb
      subst hb
      cases rl with
      | cons r1 r2 =>
        cases r1
        refine ⟨x1, .inr rfl, .lst (vs := [.int p.1, v]) upd_same (.cons (.int _) (.cons (low_tr ha hv) .nil))⟩
    · refine ⟨p.2, .inl rfl, .lst (vs := vs) (by unfold nuW; rw [upd_ne z]; exact hb) ?_⟩
      cases rl with
      | cons r1 r2 =>
        cases r2 with
        | cons r2 r3 =>
          cases r1; cases r3
          exact .cons (.int _) (.cons (low_tr ha r2) .nil)
theorem cells_tr (ha : W a = some (.lst [.int w0, v1])) (hv : Rep C P W v (lowD x1)) : ∀ {r : ORow} {vs : List V}, RepL C P W vs (r.map fun p => .lst [.int p.1, lowD p.2]) →
    ∃ r' : ORow, r'.map (·.1) = r.map (·.1) ∧ (∀ p ∈ r', (∃ q ∈ r, q.1 = p.1 ∧ (p.2 = q.2 ∨ p.2 = x1))) ∧ RepL C P (nuW W a w0 v) vs (r'.map fun p => .lst [.int p.1, lowD p.2])
  | [], _, h => by cases h; exact ⟨[], rfl, fun _ h => (nomatch h), .nil⟩
  | p :: r, _, h => by
    cases h with
    | cons r1 r2 =>
      obtain ⟨q, h1, h2⟩ := cell_tr ha hv r1
      obtain ⟨r', h3, h4, h5⟩ := cells_tr ha hv r2
      refine ⟨(p.1, q) :: r', by rw [List.map_cons, List.map_cons, h3], fun s hs => ?_, .cons h2 h5⟩
      rcases List.mem_cons.mp hs with rfl | hs
      · exact ⟨p, List.mem_cons_self, rfl, h1⟩
      · obtain ⟨t, ht, ht2⟩ := h4 s hs
        exact ⟨t, List.mem_cons_of_mem _ ht, ht2⟩
theorem own_tr (ha : W a = some (.lst [.int w0, v1])) (hv : Rep C P W v (lowD x1)) {r : ORow} (hr : r ≠ []) {u : V} (h : Rep C P W u (ownD r)) :
    ∃ r' : ORow, r'.map (·.1) = r.map (·.1) ∧ (∀ p ∈ r', (∃ q ∈ r, q.1 = p.1 ∧ (p.2 = q.2 ∨ p.2 = x1))) ∧ Rep C P (nuW W a w0 v) u (ownD r') := by
  cases h with
  | @dic b fs _ hb hk rl =>
    match fs, hk, rl with
    | [(k1, u1), (k2, u2)], hk, rl =>
      cases rl with
      | cons r1 r2 =>
        cases r2 with
        | cons r2 r3 =>
          cases r2; cases r3
          cases r1 with
          | @lst L ls _ hL rL =>
            obtain ⟨r', h1, h2, h3⟩ := cells_tr ha hv rL
            have e : whole r' = whole r := by unfold whole; rw [h1]
            refine ⟨r', h1, h2, .dic (fs := [(k1, .ref L), (k2, .int (whole r))]) ?_ hk ?_⟩
            · unfold nuW; rw [upd_ne (fun z => by subst z; rw [ha] at hb; cases hb)]; exact hb
            · refine .cons (.lst (vs := ls) ?_ h3) (.cons (by rw [e]; exact .int _) .nil)
              unfold nuW
              rw [upd_ne ?_]
              · exact hL
              · intro z
                subst z
                rw [ha] at hL
                injection hL with hL
                injection hL with hL
                subst hL
                match r, hr, rL with
                | p :: r, _, rL =>
                  cases rL with
                  | cons q1 q2 => cases q1
theorem owns_tr (ha : W a = some (.lst [.int w0, v1])) (hv : Rep C P W v (lowD x1)) : ∀ {rs : List ORow} {vs : List V}, (∀ r ∈ rs, r ≠ []) → RepL C P W vs (rs.map ownD) →
    ∃ rs' : List ORow, rs'.length = rs.length ∧ (∀ r' ∈ rs', ∃ r ∈ rs, r'.map (·.1) = r.map (·.1) ∧ ∀ p ∈ r', (∃ q ∈ r, q.1 = p.1 ∧ (p.2 = q.2 ∨ p.2 = x1))) ∧ RepL C P (nuW W a w0 v) vs (rs'.map ownD)
  | [], _, _, h => by cases h; exact ⟨[], rfl, fun _ h => (nomatch h), .nil⟩
  | r :: rs, _, hn, h => by
    cases h with
    | cons r1 r2 =>
      obtain ⟨q, h1, h2, h3⟩ := own_tr ha hv (hn r List.mem_cons_self) r1
      obtain ⟨rs', h4, h5, h6⟩ := owns_tr ha hv (fun s hs => hn s (List.mem_cons_of_mem _ hs)) r2
      refine ⟨q :: rs', by rw [List.length_cons, List.length_cons, h4], fun s hs => ?_, .cons h3 h6⟩
      rcases List.mem_cons.mp hs with rfl | hs
      · exact ⟨r, List.mem_cons_self, h1, h2⟩
      · obtain ⟨t, ht, ht2⟩ := h5 s hs
        exact ⟨t, List.mem_cons_of_mem _ ht, ht2⟩
end
end G
end

section
set_option maxRecDepth 100000
set_option maxHeartbeats 4000000
namespace K
open PySem PySem.Spec PyProof.Rows L2 G

/-! the bag that a law draws from -/
def bagK (n : Nat) (W : Hp) (o : Option HO) : Prop := ∃ (a : Addr) (cells : List Int) (at_ : Nat) (big mixed count : Int), o = some (.dK [(.inr "cells", .ref a), (.inr "at", .int at_), (.inr "big", .int big), (.inr "mixed", .int mixed), (.inr "count", .int count)]) ∧
  W a = some (.lst (cells.map V.int)) ∧ at_ ≤ cells.length ∧ cells.length ≤ 63 ∧ (∀ c ∈ cells, 0 ≤ c) ∧ 0 ≤ big ∧ 0 ≤ mixed ∧ mixed < 2 ^ 61 ∧ 0 ≤ count
@[reducible] def CL (K : PySem.W.Frag) (n : Nat) : Cl where
  frac := He.ga K "Frac"
  cls := fun _ => He.ga K "Offers"
  pk := bagK n
  pkm := fun s ⟨a, c, n, b, m, k, h1, h2, h3⟩ => ⟨a, c, n, b, m, k, h1, s _ _ h2, h3⟩
  pks := fun ⟨_, _, _, _, _, _, h, _⟩ => ⟨_, h⟩
theorem atI_nat {α : Type} {l : List α} {i : Nat} {x : α} (h : l[i]? = some x) : atI l (i : Int) = some x := by
  have hl : i < l.length := (List.getElem?_eq_some_iff.mp h).1
  unfold atI ixN
  rw [if_pos (by omega), if_pos (by omega)]
  simpa using h
/-- data whose type is known -/
def _root_.G.D.isInt : D → Bool
  | .int _ => true
  | _ => false
def _root_.G.D.isSeq : D → Bool
  | .lst _ => true
  | .tup _ => true
  | _ => false
def _root_.G.D.isFrac : D → Bool
  | .frac _ => true
  | _ => false
def AmtD (d : D) (q : Rat) : Prop := (∃ i : Int, d = .int i ∧ q = (i : Rat)) ∨ d = .frac q
inductive Kn : D → Prop where
  | non : Kn .non
  | bl (b : Bool) : Kn (.bl b)
  | int (i : Int) : Kn (.int i)
  | str (s : Str) : Kn (.str s)
  | lst (l : List D) : Kn (.lst l)
  | tup (l : List D) : Kn (.tup l)
  | frac (q : Rat) : Kn (.frac q)
def _root_.G.D.inst (d : D) (n : String) : Bool := match d with
  | .bl _ => n == "bool" || n == "int"
  | .int _ => n == "int"
  | .str _ => n == "str"
  | .lst _ => n == "list"
  | .tup _ => n == "tuple"
  | _ => false
theorem AmtD.kn {d : D} {q : Rat} : AmtD d q → Kn d
  | .inl ⟨i, h, _⟩ => h ▸ .int i
  | .inr h => h ▸ .frac q
section
variable {K : PySem.W.Frag} {nn : Nat} {mg : Str → Option Value} {B : Bs} {Q : D → Prop}
theorem ck_ty (T : Tx K mg) {d : D} (kn : Kn d) {n : String} (hn : n = "int" ∨ n = "bool" ∨ n = "list" ∨ n = "tuple" ∨ n = "str") (k : Q (.bl (d.inst n))) : CK (CL K nn) B (rIsU K) [d, .ty n] Q := by
  rcases hn with rfl | rfl | rfl | rfl | rfl <;> cases kn
  · exact ck_is (.non) (.ty _) (kit_ty (by decide +kernel : kitB "NoneType" "int" = some false)) k
  · exact ck_is (.bl _) (.ty _) (kit_ty (by decide +kernel : kitB "bool" "int" = some true)) k
  · exact ck_is (.int _) (.ty _) (kit_ty (by decide +kernel : kitB "int" "int" = some true)) k
  · exact ck_is (.str _) (.ty _) (kit_ty (by decide +kernel : kitB "str" "int" = some false)) k
  · exact ck_is (.lst _) (.ty _) (kit_ty (by decide +kernel : kitB "list" "int" = some false)) k
  · exact ck_is (.tup _) (.ty _) (kit_ty (by decide +kernel : kitB "tuple" "int" = some false)) k
  · exact ck_is (C := CL K nn) (.frac _ T.ins_Frac) (.ty _) T.kit_Frac_int k
  · exact ck_is (.non) (.ty _) (kit_ty (by decide +kernel : kitB "NoneType" "bool" = some false)) k
  · exact ck_is (.bl _) (.ty _) (kit_ty (by decide +kernel : kitB "bool" "bool" = some true)) k
  · exact ck_is (.int _) (.ty _) (kit_ty (by decide +kernel : kitB "int" "bool" = some false)) k
  · exact ck_is (.str _) (.ty _) (kit_ty (by decide +kernel : kitB "str" "bool" = some false)) k
  · exact ck_is (.lst _) (.ty _) (kit_ty (by decide +kernel : kitB "list" "bool" = some false)) k
  · exact ck_is (.tup _) (.ty _) (kit_ty (by decide +kernel : kitB "tuple" "bool" = some false)) k
  · exact ck_is (C := CL K nn) (.frac _ T.ins_Frac) (.ty _) T.kit_Frac_bool k
  · exact ck_is (.non) (.ty _) (kit_ty (by decide +kernel : kitB "NoneType" "list" = some false)) k
  · exact ck_is (.bl _) (.ty _) (kit_ty (by decide +kernel : kitB "bool" "list" = some false)) k
  · exact ck_is (.int _) (.ty _) (kit_ty (by decide +kernel : kitB "int" "list" = some false)) k
  · exact ck_is (.str _) (.ty _) (kit_ty (by decide +kernel : kitB "str" "list" = some false)) k
  · exact ck_is (.lst _) (.ty _) (kit_ty (by decide +kernel : kitB "list" "list" = some true)) k
  · exact ck_is (.tup _) (.ty _) (kit_ty (by decide +kernel : kitB "tuple" "list" = some false)) k
  · exact ck_is (C := CL K nn) (.frac _ T.ins_Frac) (.ty _) T.kit_Frac_list k
  · exact ck_is (.non) (.ty _) (kit_ty (by decide +kernel : kitB "NoneType" "tuple" = some false)) k
  · exact ck_is (.bl _) (.ty _) (kit_ty (by decide +kernel : kitB "bool" "tuple" = some false)) k
  · exact ck_is (.int _) (.ty _) (kit_ty (by decide +kernel : kitB "int" "tuple" = some false)) k
  · exact ck_is (.str _) (.ty _) (kit_ty (by decide +kernel : kitB "str" "tuple" = some false)) k
  · exact ck_is (.lst _) (.ty _) (kit_ty (by decide +kernel : kitB "list" "tuple" = some false)) k
  · exact ck_is (.tup _) (.ty _) (kit_ty (by decide +kernel : kitB "tuple" "tuple" = some true)) k
  · exact ck_is (C := CL K nn) (.frac _ T.ins_Frac) (.ty _) T.kit_Frac_tuple k
  · exact ck_is (.non) (.ty _) (kit_ty (by decide +kernel : kitB "NoneType" "str" = some false)) k
  · exact ck_is (.bl _) (.ty _) (kit_ty (by decide +kernel : kitB "bool" "str" = some false)) k
  · exact ck_is (.int _) (.ty _) (kit_ty (by decide +kernel : kitB "int" "str" = some false)) k
  · exact ck_is (.str _) (.ty _) (kit_ty (by decide +kernel : kitB "str" "str" = some true)) k
  · exact ck_is (.lst _) (.ty _) (kit_ty (by decide +kernel : kitB "list" "str" = some false)) k
  · exact ck_is (.tup _) (.ty _) (kit_ty (by decide +kernel : kitB "tuple" "str" = some false)) k
  · exact ck_is (C := CL K nn) (.frac _ T.ins_Frac) (.ty _) T.kit_Frac_str k
theorem ck_fr (T : Tx K mg) {d : D} (kn : Kn d) (k : Q (.bl d.isFrac)) : CK (CL K nn) B (rIsU K) [d, .cls (He.ga K "Frac")] Q := by
  cases kn
  · exact ck_is (.non) (.cls _) T.tik_Frac_NoneType k
  · exact ck_is (.bl _) (.cls _) T.tik_Frac_bool k
  · exact ck_is (.int _) (.cls _) T.tik_Frac_int k
  · exact ck_is (.str _) (.cls _) T.tik_Frac_str k
  · exact ck_is (.lst _) (.cls _) T.tik_Frac_list k
  · exact ck_is (.tup _) (.cls _) T.tik_Frac_tuple k
  · exact ck_is (C := CL K nn) (.frac _ T.ins_Frac) (.cls _) T.kic_Frac_Frac k
theorem ck_lt (T : Tx K mg) {d : D} (kn : Kn d) (k : Q (.bl d.isSeq)) : CK (CL K nn) B (rIsU K) [d, .tup [.ty "list", .ty "tuple"]] Q := by
  have two : ∀ {t : Value} {b : Bool}, PySem.W.kitOne K t (.type "list") = some b → ∀ {c : Bool}, PySem.W.kitOne K t (.type "tuple") = some c → PySem.W.kitAny K t [.type "list", .type "tuple"] = some (b || c) := fun h1 c h2 =>
    kitAny_cons h1 (fun hb => by subst hb; exact kitAny_cons h2 (fun hc => by subst hc; exact kitAny_nil) (fun hc => by subst hc; rfl)) (fun hb => by subst hb; rfl)
  have cs : Paired ClsD [D.ty "list", D.ty "tuple"] [.type "list", .type "tuple"] := .cons (.ty _) (.cons (.ty _) .nil)
  cases kn
  · exact ck_isT (.non) cs (two (b := false) (c := false) (kit_ty (by decide +kernel)) (kit_ty (by decide +kernel))) k
  · exact ck_isT (.bl _) cs (two (b := false) (c := false) (kit_ty (by decide +kernel)) (kit_ty (by decide +kernel))) k
  · exact ck_isT (.int _) cs (two (b := false) (c := false) (kit_ty (by decide +kernel)) (kit_ty (by decide +kernel))) k
  · exact ck_isT (.str _) cs (two (b := false) (c := false) (kit_ty (by decide +kernel)) (kit_ty (by decide +kernel))) k
  · exact ck_isT (.lst _) cs (two (b := true) (c := false) (kit_ty (by decide +kernel)) (kit_ty (by decide +kernel))) k
  · exact ck_isT (.tup _) cs (two (b := false) (c := true) (kit_ty (by decide +kernel)) (kit_ty (by decide +kernel))) k
  · exact ck_isT (C := CL K nn) (.frac _ T.ins_Frac) cs (two T.kit_Frac_list T.kit_Frac_tuple) k
theorem k_num (T : Tx K mg) {Γ : List Sl} {ta : TE} (h : EK (CL K nn) B Γ ta fun d => ∃ q, d = .frac q ∧ Q (.int q.num)) : EK (CL K nn) B Γ (tFld K ta "num") Q := ek_num (C := CL K nn) T.cl_Frac T.no_Frac_num h
theorem k_den (T : Tx K mg) {Γ : List Sl} {ta : TE} (h : EK (CL K nn) B Γ ta fun d => ∃ q, d = .frac q ∧ Q (.int q.den)) : EK (CL K nn) B Γ (tFld K ta "den") Q := ek_den (C := CL K nn) T.cl_Frac T.no_Frac_den h
theorem k_mk2 {Γ : List Sl} {S : List D → (List (Str × D) → Prop) → Prop} {ta : TA} (h : AK (CL K nn) B Γ ta fun l => S l fun fl => ∃ q : Rat, fl = fracL q ∧ Q (.frac q)) : EK (CL K nn) B Γ (tMake (He.ga K "Frac") (SpFamI (CL K) (He.ga K "Frac") S) [] E0 ta) Q :=
  ek_mkFF (F := CL K) (n := nn) rfl (dds := []) (fun _ => .nil) (by simpa using h)
theorem k_mk1 {Γ : List Sl} {S : List D → (List (Str × D) → Prop) → Prop} {ta : TA} (h : AK (CL K nn) B Γ ta fun l => S (l ++ [.int 1]) fun fl => ∃ q : Rat, fl = fracL q ∧ Q (.frac q)) : EK (CL K nn) B Γ (tMake (He.ga K "Frac") (SpFamI (CL K) (He.ga K "Frac") S) [.int 1] E0 ta) Q :=
  ek_mkFF (F := CL K) (n := nn) rfl (dds := [.int 1]) (fun _ => .cons (.int 1) .nil) h
theorem k_call {Γ : List Sl} {S : List D → (D → Prop) → Prop} {t : TA} (h : AK (CL K nn) B Γ t fun l => S l Q) : EK (CL K nn) B Γ (tCall (SpFam (CL K) S) [] E0 t) Q := ek_callF (F := CL K) (n := nn) h
theorem k_bel {Γ : List Sl} {S : List D → (D → Prop) → Prop} {ta : TE} {t : TA} (h : EK (CL K nn) B Γ ta fun d0 => ∃ q, d0 = .frac q ∧ AK (CL K nn) B Γ t fun l => S (.frac q :: l) Q) : EK (CL K nn) B Γ (tMeth (He.ga K "Frac") "is_below" (SpFam (CL K) S) [] E0 ta t) Q := ek_methFF (F := CL K) (n := nn) rfl (fun q => rfl) h
theorem k_own {S : List D → (D → Prop) → Prop} {p q : Rat} (h : S [.frac p, .frac q] Q) : RK (CL K nn) B (rOwn (He.ga K "Frac") (SpFam (CL K) S)) (.frac p) (.frac q) Q := rk_ownF (F := CL K) (n := nn) rfl h
theorem k_fldS (T : Tx K mg) {Γ : List Sl} {te : TE} {i : Nat} {fl : List (Str × D)} {f : Str} {nx bk ct : List Sl → Prop} {rt : D → Prop} (hs : Γ[i]? = some (.ins (He.ga K "Frac") fl)) (hf : f = "num" ∨ f = "den") (hl0 : Nat.blt fl.length 1000 = true) (h : EK (CL K nn) B Γ te fun d => nx (Γ.set i (.ins (He.ga K "Frac") (putD f d fl)))) : SX (CL K nn) B Γ (sFld K (tVar i) te f) nx rt bk ct := by
  have hl : fl.length < 1000 := Nat.le_of_ble_eq_true hl0
  rcases hf with rfl | rfl
  · exact sx_fld hs T.cl_Frac T.no_Frac_num hl h
  · exact sx_fld hs T.cl_Frac T.no_Frac_den hl h
def rowD (r : ORow) : D := .tup (r.map fun p => .tup [.int p.1, .frac p.2])
def offD (rs : List ORow) : D := .obj 0 [("rows", .tup (rs.map rowD))]
theorem k_mkO {Γ : List Sl} {S : List D → (List (Str × D) → Prop) → Prop} {ta : TA} (h : AK (CL K nn) B Γ ta fun l => S l fun fl => Q (.obj 0 fl)) : EK (CL K nn) B Γ (tMake (He.ga K "Offers") (SpFamI (CL K) (He.ga K "Offers") S) [] E0 ta) Q :=
  ek_mkOF (F := CL K) (n := nn) (c := 0) rfl h
theorem k_rows (T : Tx K mg) {Γ : List Sl} {ta : TE} (h : EK (CL K nn) B Γ ta fun d => ∃ rs, d = offD rs ∧ Q (.tup (rs.map rowD))) : EK (CL K nn) B Γ (tFld K ta "rows") Q :=
  ek_fld (C := CL K nn) (h.mono fun d ⟨rs, e, k⟩ => ⟨0, _, _, e, T.cl_Offers, T.no_Offers_rows, rfl, k⟩)
theorem k_fldO (T : Tx K mg) {Γ : List Sl} {te : TE} {i : Nat} {fl : List (Str × D)} {nx bk ct : List Sl → Prop} {rt : D → Prop} (hs : Γ[i]? = some (.ins (He.ga K "Offers") fl)) (hl0 : Nat.blt fl.length 1000 = true) (h : EK (CL K nn) B Γ te fun d => nx (Γ.set i (.ins (He.ga K "Offers") (putD "rows" d fl)))) : SX (CL K nn) B Γ (sFld K (tVar i) te "rows") nx rt bk ct :=
  sx_fld hs T.cl_Offers T.no_Offers_rows (Nat.le_of_ble_eq_true hl0) h
theorem x_off {rs : List ORow} {p : List ORow → Prop} (h : p rs) : ∃ rs', offD rs = offD rs' ∧ p rs' := ⟨rs, rfl, h⟩
end
section
local macro_rules | `(tactic| walk_at "e") => `(tactic| first
  | ((with_reducible refine' ek_var ?h1 ?_); (case h1 => exact rfl))
  | (with_reducible refine ek_int ?_)
  | (with_reducible refine ek_bl ?_)
  | (with_reducible refine ek_non ?_)
  | (with_reducible refine ek_str ?_)
  | (with_reducible refine ek_ty ?_)
  | (with_reducible refine ek_cls ?_)
  | (with_reducible refine ek_ix ?_)
  | (with_reducible refine ek_un ?_)
  | (with_reducible refine ek_tup ?_)
  | (with_reducible refine k_call ?_)
  | (with_reducible refine ek_len ?_)
  | (with_reducible refine ek_tuple ?_)
  | (with_reducible refine ek_sum ?_)
  | (with_reducible refine ek_all ?_)
  | (with_reducible refine ek_any ?_)
  | (with_reducible refine ek_chain ?_)
  | (with_reducible refine ek_andV ?_)
  | (with_reducible refine ek_orV ?_)
  | (with_reducible refine ek_notV ?_)
  | (with_reducible refine ek_if ?_)
  | (with_reducible refine ek_ef (ef_lst ?_))
  | (with_reducible refine ek_ef (ef_list ?_))
  | (with_reducible refine ek_ef (ef_cat ?_))
  | (with_reducible refine ek_ef (ef_rep ?_))
  | (with_reducible refine ek_ef (ef_slice ?_))
  | (with_reducible refine ek_ef (ef_rev ?_))
  | (with_reducible refine ek_ef (ef_lstRev ?_))
  | (with_reducible refine ek_ef (ef_map ?_))
  | (with_reducible refine ek_ef (ef_filt ?_))
  | (with_reducible refine ef_lst ?_)
  | (with_reducible refine ef_list ?_)
  | (with_reducible refine ef_cat ?_)
  | (with_reducible refine ef_rep ?_)
  | (with_reducible refine ef_slice ?_)
  | (with_reducible refine ef_rev ?_)
  | (with_reducible refine ef_lstRev ?_)
  | (with_reducible refine ef_map ?_)
  | (with_reducible refine ef_filt ?_)
  | ((with_reducible refine' el_var ?h1 ?_); (case h1 => exact rfl))
  | ((with_reducible refine' el_own ?h1 ?_); (case h1 => exact rfl))
  | (with_reducible refine el_ef (ef_lst ?_))
  | (with_reducible refine el_ef (ef_list ?_))
  | (with_reducible refine el_ef (ef_cat ?_))
  | (with_reducible refine el_ef (ef_rep ?_))
  | (with_reducible refine el_ef (ef_slice ?_))
  | (with_reducible refine el_ef (ef_rev ?_))
  | (with_reducible refine el_ef (ef_lstRev ?_))
  | (with_reducible refine el_ef (ef_map ?_))
  | (with_reducible refine el_ef (ef_filt ?_))
  | (with_reducible refine ek_op ?_)
  | (with_reducible refine ek_cb ?_)
  | (with_reducible refine el_ek ?_)
  | (with_reducible refine tk_test ?_)
  | (with_reducible refine tk_B ?_)
  | (with_reducible refine tk_and ?_)
  | (with_reducible refine tk_or ?_)
  | (with_reducible refine tk_not ?_)
  | (with_reducible refine tk_yes ?_)
  | (with_reducible refine ak_nil ?_)
  | (with_reducible refine ak_cons ?_)
  | (with_reducible refine k_num (‹Tx _ _›) ?_)
  | (with_reducible refine k_den (‹Tx _ _›) ?_)
  | (with_reducible refine k_mk2 ?_)
  | (with_reducible refine k_mkO ?_)
  | (with_reducible refine k_rows (‹Tx _ _›) ?_)
  | (with_reducible refine k_mk1 ?_)
  | (with_reducible refine k_bel ?_)
  | (with_reducible refine k_own ?_)
  | (with_reducible refine rk_U2 (k_own ?_))
  | (with_reducible refine rk_mul (Sz.mul (by assumption) (by assumption)) ?_)
  | (with_reducible refine rk_U1 (rk_mul (Sz.mul (by assumption) (by assumption)) ?_))
  | (with_reducible refine ek_dget ?_)
  | (with_reducible refine uk_neg ?_)
  | (with_reducible refine ek_disp ?_)
  | (with_reducible refine pk_cons ?_)
  | (with_reducible refine pk_nil ?_)
  | (with_reducible refine rk_mod (by assumption) ?_)
  | (with_reducible refine rk_add ?_)
  | (with_reducible refine rk_sub ?_)
  | (with_reducible refine rk_lt ?_)
  | (with_reducible refine rk_le ?_)
  | (with_reducible refine rk_gt ?_)
  | (with_reducible refine rk_ge ?_)
  | (with_reducible refine rk_eqI ?_)
  | (with_reducible refine rk_neI ?_)
  | (with_reducible refine rk_isN ?_)
  | (with_reducible refine rk_notN ?_)
  | (with_reducible refine rk_U1 (rk_add ?_))
  | (with_reducible refine rk_U1 (rk_sub ?_))
  | (with_reducible refine ck_gcd ?_)
  | (with_reducible refine ck_abs ?_)
  | (with_reducible refine ck_int ?_)
  | (with_reducible refine ik_seq ?_)
  | (with_reducible refine ik_range1 ?_)
  | (with_reducible refine ik_range2 ?_)
  | (with_reducible refine ik_enumA ?_)
  | (with_reducible refine ik_zip ?_)
  | (with_reducible refine ik_rev ?_)
  | ((with_reducible refine' cg_name ?_ ?h1 ?h2); (case h1 => exact rfl); (case h2 => decide))
  | ((with_reducible refine' cg_anyT ?h1 ?_); (case h1 => exact rfl))
  | ((with_reducible refine' cg_anyL ?h1 ?_); (case h1 => exact rfl))
  | ((with_reducible refine' cg_anyK ?h1 ?_); (case h1 => exact rfl))
  | ((with_reducible refine' cgs_cons ?_ ?h1 ?h2); (case h1 => exact rfl); (case h2 => decide))
  | (with_reducible refine cgs_nil ?_)
  | ((with_reducible refine' gk_name ?_ ?h1); (case h1 => exact rfl))
  | ((with_reducible refine' gk_anyT ?h1 ?_); (case h1 => exact rfl))
  | ((with_reducible refine' gk_anyL ?h1 ?_); (case h1 => exact rfl))
  | ((with_reducible refine' gk_anyK ?h1 ?_); (case h1 => exact rfl))
  | ((with_reducible refine' gks_cons ?_ ?h1); (case h1 => exact rfl))
  | ((with_reducible refine' gks_consA (n := 0) ?_ ?h1 ?h2); (case h1 => exact rfl); (case h2 => exact rfl))
  | ((with_reducible refine' gks_consB ?h0 ?_ ?h1 ?h2); (case h0 => exact rfl); (case h1 => exact rfl); (case h2 => exact rfl))
  | (with_reducible refine gks_nil ?_)
  | (with_reducible refine ok_none ?_)
  | (with_reducible refine ok_some ?_))
local macro_rules | `(tactic| walk_at "s") => `(tactic| first
  | (with_reducible refine sx_guard ?_ ?_)
  | (with_reducible refine sx_seq ?_)
  | (with_reducible refine sx_ret ?_)
  | (with_reducible refine sx_if ?_)
  | (with_reducible refine sx_next ?_)
  | (with_reducible refine sx_break ?_)
  | (with_reducible refine sx_cont ?_)
  | ((with_reducible refine' sx_append ?h1 ?_); (case h1 => exact rfl))
  | ((with_reducible refine' sx_setI ?h1 ?_); (case h1 => exact rfl))
  | ((with_reducible refine' sx_set ?h1 ?_); (case h1 => exact rfl))
  | (with_reducible refine sx_asg ?_)
  | ((with_reducible refine' sx_par ?h1 ?h2 ?_); (case h1 => exact rfl); (case h2 => exact rfl))
  | (with_reducible refine sx_drop ?_)
  | ((with_reducible refine' k_fldS (‹Tx _ _›) ?h1 ?h2 ?h3 ?_); (case h1 => exact rfl); (case h2 => decide); (case h3 => exact rfl))
  | ((with_reducible refine' k_fldO (‹Tx _ _›) ?h1 ?h3 ?_); (case h1 => exact rfl); (case h3 => exact rfl)))
/-! plain existentials that the rules leave -/
local macro_rules | `(tactic| walk_at "x") => `(tactic| first
  | (with_reducible refine x_bl ?_)
  | (with_reducible refine x_int ?_)
  | (with_reducible refine x_frac ?_)
  | (with_reducible refine x_lst ?_)
  | (with_reducible refine x_off ?_)
  | (with_reducible refine x_low ?_)
  | (with_reducible refine x_ownR ?_)
  | (with_reducible refine x_ownA ?_)
  | (with_reducible refine x_tup ?_)
  | (with_reducible refine x_kd ?_)
  | (with_reducible refine x_oneL ?_)
  | (with_reducible refine x_oneT ?_)
  | (with_reducible refine x_one ?_)
  | ((with_reducible refine' x_at ?h1 ?_); (case h1 => exact rfl))
  | ((with_reducible refine' x_dic ?h1 ?_); (case h1 => exact rfl))
  | (with_reducible refine (⟨rfl, ?_⟩ : Kd.l = Kd.l ∧ _))
  | ((with_reducible refine' x_len ?h1 ?_); (case h1 => exact rfl))
  | ((with_reducible refine' br_t ?h1 ?_); (case h1 => exact rfl))
  | ((with_reducible refine' br_f ?h1 ?_); (case h1 => exact rfl)))
local macro_rules | `(tactic| walk_at "f") => `(tactic| first
  | ((with_reducible refine' sx_forW ?h1 ?_); (case h1 => exact rfl))
  | (with_reducible refine sx_forGW ?_))
local macro_rules | `(tactic| walk_at "g") => `(tactic| repeat (first | walk_at "s" | walk_at "f" | walk_at "e" | walk_at "x"))
local macro_rules | `(tactic| walk_at "v") => `(tactic| repeat (first | walk_at "e" | walk_at "x"))
local macro_rules | `(tactic| walk_at "h") => `(tactic| repeat (first | walk_at "s" | walk_at "e" | walk_at "x"))
variable {P : Program} {w : World} {K : PySem.W.Frag} {mg : Str → Option Value} {base : Heap}

def S_is_integer : List D → (D → Prop) → Prop := fun l K => ∃ d, l = [d] ∧ Kn d ∧ K (.bl d.isInt)
theorem ok_is_integer (T : Tx K mg)  : Cal P w K mg base 1 "is_integer" ["value"] (SpFam (CL K) S_is_integer) := by
  refine cal_mkF (N := ["value"]) T.g_is_integer T.d_is_integer sc_is_integer (fun _ _ _ _ _ _ us hl => match us, hl with | [_], _ => rfl) (by intro l Q h; first | (obtain ⟨rfl, _⟩ := h; rfl) | (obtain ⟨_, rfl, _⟩ := h; rfl) | (obtain ⟨_, _, rfl, _⟩ := h; rfl) | (obtain ⟨_, _, _, rfl, _⟩ := h; rfl) | (obtain ⟨_, _, _, _, rfl, _⟩ := h; rfl) | (obtain ⟨_, _, _, _, _, rfl, _⟩ := h; rfl) | (obtain ⟨_, _, _, _, _, _, rfl, _⟩ := h; rfl) | (obtain ⟨_, _, _, _, _, _, _, rfl, _⟩ := h; rfl) | (obtain ⟨_, _, _, _, _, _, _, _, rfl, _⟩ := h; rfl)) (fun f cdv A outer s H E hr => ⟨_, (pss_one (ps_ret (pe_and (pe_callB (cr_isK K rfl) (by rfl) T.b_isinstance (by decide +kernel) (pa_cons (pv 0) (pa_cons (pe_bltn (v := .ty "int") (by rfl) T.b_int (by decide +kernel) rfl) pa_nil))) (pe_one (pe_not (pe_callB (cr_isK K rfl) (by rfl) T.b_isinstance (by decide +kernel) (pa_cons (pv 0) (pa_cons (pe_bltn (v := .ty "bool") (by rfl) T.b_bool (by decide +kernel) rfl) pa_nil)))))))), ?_⟩)
  intro nn B l Q h
  obtain ⟨d, rfl, kn, h⟩ := h
  walk_at "g"
  refine ck_ty T kn (.inl rfl) ?_
  walk_at "x"
  refine ⟨fun hb => ?_, fun hb => ?_⟩
  · walk_at "g"
    refine ck_ty T kn (.inr (.inl rfl)) ?_
    walk_at "g"
    cases kn <;> first | exact h | cases hb
  · cases kn <;> first | exact h | cases hb

def S_is_between : List D → (D → Prop) → Prop := fun l K => ∃ d a b, l = [d, .int a, .int b] ∧ Kn d ∧ K (.bl (match d with | .int i => decide (a ≤ i ∧ i ≤ b) | _ => false))
theorem ok_is_between (T : Tx K mg) (c_is_integer : Cal P w K mg base 1 "is_integer" ["value"] (SpFam (CL K) S_is_integer)) : Cal P w K mg base 2 "is_between" ["value", "least", "most"] (SpFam (CL K) S_is_between) := by
  refine cal_mkF (N := ["value", "least", "most"]) T.g_is_between T.d_is_between sc_is_between (fun _ _ _ _ _ _ us hl => match us, hl with | [_, _, _], _ => rfl) (by intro l Q h; first | (obtain ⟨rfl, _⟩ := h; rfl) | (obtain ⟨_, rfl, _⟩ := h; rfl) | (obtain ⟨_, _, rfl, _⟩ := h; rfl) | (obtain ⟨_, _, _, rfl, _⟩ := h; rfl) | (obtain ⟨_, _, _, _, rfl, _⟩ := h; rfl) | (obtain ⟨_, _, _, _, _, rfl, _⟩ := h; rfl) | (obtain ⟨_, _, _, _, _, _, rfl, _⟩ := h; rfl) | (obtain ⟨_, _, _, _, _, _, _, rfl, _⟩ := h; rfl) | (obtain ⟨_, _, _, _, _, _, _, _, rfl, _⟩ := h; rfl)) (fun f cdv A outer s H E hr => ⟨_, (pss_one (ps_ret (pe_and (pe_calC c_is_integer hr (by decide) (by rfl) (pa_cons (pv 0) pa_nil)) (pe_one (pe_chain op_leI op_leI (pv 1) (pv 0) (pv 2)))))), ?_⟩)
  intro nn B l Q h
  obtain ⟨d, a, b, rfl, kn, h⟩ := h
  walk_at "g"
  refine ⟨_, rfl, kn, ?_⟩
  walk_at "x"
  refine ⟨fun hb => ?_, fun hb => ?_⟩
  · cases kn <;> first | cases hb | skip
    walk_at "g"
    refine ⟨fun hb => ?_, fun hb => ?_⟩
    · have h1 : a ≤ _ := of_decide_eq_true hb
      walk_at "g"
      simpa [h1] using h
    · have h1 : ¬ a ≤ _ := of_decide_eq_false hb
      simpa [h1] using h
  · cases kn <;> first | exact h | cases hb

def S_is_sequence : List D → (D → Prop) → Prop := fun l K => ∃ d, l = [d] ∧ Kn d ∧ K (.bl d.isSeq)
theorem ok_is_sequence (T : Tx K mg)  : Cal P w K mg base 1 "is_sequence" ["value"] (SpFam (CL K) S_is_sequence) := by
  refine cal_mkF (N := ["value"]) T.g_is_sequence T.d_is_sequence sc_is_sequence (fun _ _ _ _ _ _ us hl => match us, hl with | [_], _ => rfl) (by intro l Q h; first | (obtain ⟨rfl, _⟩ := h; rfl) | (obtain ⟨_, rfl, _⟩ := h; rfl) | (obtain ⟨_, _, rfl, _⟩ := h; rfl) | (obtain ⟨_, _, _, rfl, _⟩ := h; rfl) | (obtain ⟨_, _, _, _, rfl, _⟩ := h; rfl) | (obtain ⟨_, _, _, _, _, rfl, _⟩ := h; rfl) | (obtain ⟨_, _, _, _, _, _, rfl, _⟩ := h; rfl) | (obtain ⟨_, _, _, _, _, _, _, rfl, _⟩ := h; rfl) | (obtain ⟨_, _, _, _, _, _, _, _, rfl, _⟩ := h; rfl)) (fun f cdv A outer s H E hr => ⟨_, (pss_one (ps_ret (pe_callB (cr_isK K rfl) (by rfl) T.b_isinstance (by decide +kernel) (pa_cons (pv 0) (pa_cons (pe_tup (pa_cons (pe_bltn (v := .ty "list") (by rfl) T.b_list (by decide +kernel) rfl) (pa_cons (pe_bltn (v := .ty "tuple") (by rfl) T.b_tuple (by decide +kernel) rfl) pa_nil))) pa_nil))))), ?_⟩)
  intro nn B l Q h
  obtain ⟨d, rfl, kn, h⟩ := h
  walk_at "g"
  exact ck_lt T kn h

end

end K
end

section
set_option maxRecDepth 100000
set_option maxHeartbeats 4000000
namespace K
open PySem PySem.Spec PyProof.Rows L2 G

section
local macro_rules | `(tactic| walk_at "e") => `(tactic| first
  | ((with_reducible refine' ek_var ?h1 ?_); (case h1 => exact rfl))
  | (with_reducible refine ek_int ?_)
  | (with_reducible refine ek_bl ?_)
  | (with_reducible refine ek_non ?_)
  | (with_reducible refine ek_str ?_)
  | (with_reducible refine ek_ty ?_)
  | (with_reducible refine ek_cls ?_)
  | (with_reducible refine ek_ix ?_)
  | (with_reducible refine ek_un ?_)
  | (with_reducible refine ek_tup ?_)
  | (with_reducible refine k_call ?_)
  | (with_reducible refine ek_len ?_)
  | (with_reducible refine ek_tuple ?_)
  | (with_reducible refine ek_sum ?_)
  | (with_reducible refine ek_all ?_)
  | (with_reducible refine ek_any ?_)
  | (with_reducible refine ek_chain ?_)
  | (with_reducible refine ek_andV ?_)
  | (with_reducible refine ek_orV ?_)
  | (with_reducible refine ek_notV ?_)
  | (with_reducible refine ek_if ?_)
  | (with_reducible refine ek_ef (ef_lst ?_))
  | (with_reducible refine ek_ef (ef_list ?_))
  | (with_reducible refine ek_ef (ef_cat ?_))
  | (with_reducible refine ek_ef (ef_rep ?_))
  | (with_reducible refine ek_ef (ef_slice ?_))
  | (with_reducible refine ek_ef (ef_rev ?_))
  | (with_reducible refine ek_ef (ef_lstRev ?_))
  | (with_reducible refine ek_ef (ef_map ?_))
  | (with_reducible refine ek_ef (ef_filt ?_))
  | (with_reducible refine ef_lst ?_)
  | (with_reducible refine ef_list ?_)
  | (with_reducible refine ef_cat ?_)
  | (with_reducible refine ef_rep ?_)
  | (with_reducible refine ef_slice ?_)
  | (with_reducible refine ef_rev ?_)
  | (with_reducible refine ef_lstRev ?_)
  | (with_reducible refine ef_map ?_)
  | (with_reducible refine ef_filt ?_)
  | ((with_reducible refine' el_var ?h1 ?_); (case h1 => exact rfl))
  | ((with_reducible refine' el_own ?h1 ?_); (case h1 => exact rfl))
  | (with_reducible refine el_ef (ef_lst ?_))
  | (with_reducible refine el_ef (ef_list ?_))
  | (with_reducible refine el_ef (ef_cat ?_))
  | (with_reducible refine el_ef (ef_rep ?_))
  | (with_reducible refine el_ef (ef_slice ?_))
  | (with_reducible refine el_ef (ef_rev ?_))
  | (with_reducible refine el_ef (ef_lstRev ?_))
  | (with_reducible refine el_ef (ef_map ?_))
  | (with_reducible refine el_ef (ef_filt ?_))
  | (with_reducible refine ek_op ?_)
  | (with_reducible refine ek_cb ?_)
  | (with_reducible refine el_ek ?_)
  | (with_reducible refine tk_test ?_)
  | (with_reducible refine tk_B ?_)
  | (with_reducible refine tk_and ?_)
  | (with_reducible refine tk_or ?_)
  | (with_reducible refine tk_not ?_)
  | (with_reducible refine tk_yes ?_)
  | (with_reducible refine ak_nil ?_)
  | (with_reducible refine ak_cons ?_)
  | (with_reducible refine k_num (‹Tx _ _›) ?_)
  | (with_reducible refine k_den (‹Tx _ _›) ?_)
  | (with_reducible refine k_mk2 ?_)
  | (with_reducible refine k_mkO ?_)
  | (with_reducible refine k_rows (‹Tx _ _›) ?_)
  | (with_reducible refine k_mk1 ?_)
  | (with_reducible refine k_bel ?_)
  | (with_reducible refine k_own ?_)
  | (with_reducible refine rk_U2 (k_own ?_))
  | (with_reducible refine rk_mul (Sz.mul (by assumption) (by assumption)) ?_)
  | (with_reducible refine rk_U1 (rk_mul (Sz.mul (by assumption) (by assumption)) ?_))
  | (with_reducible refine ek_dget ?_)
  | (with_reducible refine uk_neg ?_)
  | (with_reducible refine ek_disp ?_)
  | (with_reducible refine pk_cons ?_)
  | (with_reducible refine pk_nil ?_)
  | (with_reducible refine rk_mod (by assumption) ?_)
  | (with_reducible refine rk_add ?_)
  | (with_reducible refine rk_sub ?_)
  | (with_reducible refine rk_lt ?_)
  | (with_reducible refine rk_le ?_)
  | (with_reducible refine rk_gt ?_)
  | (with_reducible refine rk_ge ?_)
  | (with_reducible refine rk_eqI ?_)
  | (with_reducible refine rk_neI ?_)
  | (with_reducible refine rk_isN ?_)
  | (with_reducible refine rk_notN ?_)
  | (with_reducible refine rk_U1 (rk_add ?_))
  | (with_reducible refine rk_U1 (rk_sub ?_))
  | (with_reducible refine ck_gcd ?_)
  | (with_reducible refine ck_abs ?_)
  | (with_reducible refine ck_int ?_)
  | (with_reducible refine ik_seq ?_)
  | (with_reducible refine ik_range1 ?_)
  | (with_reducible refine ik_range2 ?_)
  | (with_reducible refine ik_enumA ?_)
  | (with_reducible refine ik_zip ?_)
  | (with_reducible refine ik_rev ?_)
  | ((with_reducible refine' cg_name ?_ ?h1 ?h2); (case h1 => exact rfl); (case h2 => decide))
  | ((with_reducible refine' cg_anyT ?h1 ?_); (case h1 => exact rfl))
  | ((with_reducible refine' cg_anyL ?h1 ?_); (case h1 => exact rfl))
  | ((with_reducible refine' cg_anyK ?h1 ?_); (case h1 => exact rfl))
  | ((with_reducible refine' cgs_cons ?_ ?h1 ?h2); (case h1 => exact rfl); (case h2 => decide))
  | (with_reducible refine cgs_nil ?_)
  | ((with_reducible refine' gk_name ?_ ?h1); (case h1 => exact rfl))
  | ((with_reducible refine' gk_anyT ?h1 ?_); (case h1 => exact rfl))
  | ((with_reducible refine' gk_anyL ?h1 ?_); (case h1 => exact rfl))
  | ((with_reducible refine' gk_anyK ?h1 ?_); (case h1 => exact rfl))
  | ((with_reducible refine' gks_cons ?_ ?h1); (case h1 => exact rfl))
  | ((with_reducible refine' gks_consA (n := 0) ?_ ?h1 ?h2); (case h1 => exact rfl); (case h2 => exact rfl))
  | ((with_reducible refine' gks_consB ?h0 ?_ ?h1 ?h2); (case h0 => exact rfl); (case h1 => exact rfl); (case h2 => exact rfl))
  | (with_reducible refine gks_nil ?_)
  | (with_reducible refine ok_none ?_)
  | (with_reducible refine ok_some ?_))
local macro_rules | `(tactic| walk_at "s") => `(tactic| first
  | (with_reducible refine sx_guard ?_ ?_)
  | (with_reducible refine sx_seq ?_)
  | (with_reducible refine sx_ret ?_)
  | (with_reducible refine sx_if ?_)
  | (with_reducible refine sx_next ?_)
  | (with_reducible refine sx_break ?_)
  | (with_reducible refine sx_cont ?_)
  | ((with_reducible refine' sx_append ?h1 ?_); (case h1 => exact rfl))
  | ((with_reducible refine' sx_setI ?h1 ?_); (case h1 => exact rfl))
  | ((with_reducible refine' sx_set ?h1 ?_); (case h1 => exact rfl))
  | (with_reducible refine sx_asg ?_)
  | ((with_reducible refine' sx_par ?h1 ?h2 ?_); (case h1 => exact rfl); (case h2 => exact rfl))
  | (with_reducible refine sx_drop ?_)
  | ((with_reducible refine' k_fldS (‹Tx _ _›) ?h1 ?h2 ?h3 ?_); (case h1 => exact rfl); (case h2 => decide); (case h3 => exact rfl))
  | ((with_reducible refine' k_fldO (‹Tx _ _›) ?h1 ?h3 ?_); (case h1 => exact rfl); (case h3 => exact rfl)))
/-! plain existentials that the rules leave -/
local macro_rules | `(tactic| walk_at "x") => `(tactic| first
  | (with_reducible refine x_bl ?_)
  | (with_reducible refine x_int ?_)
  | (with_reducible refine x_frac ?_)
  | (with_reducible refine x_lst ?_)
  | (with_reducible refine x_off ?_)
  | (with_reducible refine x_low ?_)
  | (with_reducible refine x_ownR ?_)
  | (with_reducible refine x_ownA ?_)
  | (with_reducible refine x_tup ?_)
  | (with_reducible refine x_kd ?_)
  | (with_reducible refine x_oneL ?_)
  | (with_reducible refine x_oneT ?_)
  | (with_reducible refine x_one ?_)
  | ((with_reducible refine' x_at ?h1 ?_); (case h1 => exact rfl))
  | ((with_reducible refine' x_dic ?h1 ?_); (case h1 => exact rfl))
  | (with_reducible refine (⟨rfl, ?_⟩ : Kd.l = Kd.l ∧ _))
  | ((with_reducible refine' x_len ?h1 ?_); (case h1 => exact rfl))
  | ((with_reducible refine' br_t ?h1 ?_); (case h1 => exact rfl))
  | ((with_reducible refine' br_f ?h1 ?_); (case h1 => exact rfl)))
local macro_rules | `(tactic| walk_at "f") => `(tactic| first
  | ((with_reducible refine' sx_forW ?h1 ?_); (case h1 => exact rfl))
  | (with_reducible refine sx_forGW ?_))
local macro_rules | `(tactic| walk_at "g") => `(tactic| repeat (first | walk_at "s" | walk_at "f" | walk_at "e" | walk_at "x"))
local macro_rules | `(tactic| walk_at "v") => `(tactic| repeat (first | walk_at "e" | walk_at "x"))
local macro_rules | `(tactic| walk_at "h") => `(tactic| repeat (first | walk_at "s" | walk_at "e" | walk_at "x"))
variable {P : Program} {w : World} {K : PySem.W.Frag} {mg : Str → Option Value} {base : Heap}

theorem rat_add (p q : Rat) : Rat.divInt (p.num * q.den + q.num * p.den) (p.den * q.den) = p + q := by
  have := Rat.add_def' p q
  rw [this, ← Rat.divInt_ofNat]; push_cast; rfl
theorem rat_sub (p q : Rat) : Rat.divInt (p.num * q.den - q.num * p.den) (p.den * q.den) = p - q := by
  have := Rat.sub_def' p q
  rw [this, ← Rat.divInt_ofNat]; push_cast; rfl
theorem rat_mul (p q : Rat) : Rat.divInt (p.num * q.num) (p.den * q.den) = p * q := by
  have := Rat.mul_def' p q
  rw [this, ← Rat.divInt_ofNat]; push_cast; rfl
theorem den_pos (p : Rat) : (0 : Int) < p.den := by have := p.den_pos; omega
theorem den_mul (p q : Rat) : (0 : Int) < (p.den : Int) * q.den := Int.mul_pos (den_pos p) (den_pos q)
theorem den_big {p q : Rat} (h : Sz p.den) (k : Sz q.den) : ((p.den : Int) * q.den).natAbs < 2 ^ 9000 := Nat.lt_of_lt_of_le (Sz.prod h k) (Nat.pow_le_pow_right (by decide) (by decide))
def S_FracD_initD : List D → (List (Str × D) → Prop) → Prop := fun l K => ∃ n d : Int, l = [.int n, .int d] ∧ 0 < d ∧ d.natAbs < 2 ^ 9000 ∧ K (fracL (Rat.divInt n d))
theorem ok_FracD_initD (T : Tx K mg) (c_is_integer : Cal P w K mg base 1 "is_integer" ["value"] (SpFam (CL K) S_is_integer)) {fd : FuncData} (F : FunD K "__init__" "Frac.__init__" (defArgs s_FracD_initD) (defBody s_FracD_initD) (defScope s_FracD_initD) [.int 1] [] (He.ma K (He.ga K "Frac") "__init__") fd) : FnOk P w K mg base (L2.CX P w) 2 (He.ma K (He.ga K "Frac") "__init__") fd ["self", "num", "den"] (SpFamI (CL K) (He.ga K "Frac") S_FracD_initD) := by
  refine init_mkF (N := ["num", "den", "divisor"]) F sc_FracD_initD (by intro l Q h; first | (obtain ⟨rfl, _⟩ := h; rfl) | (obtain ⟨_, rfl, _⟩ := h; rfl) | (obtain ⟨_, _, rfl, _⟩ := h; rfl) | (obtain ⟨_, _, _, rfl, _⟩ := h; rfl) | (obtain ⟨_, _, _, _, rfl, _⟩ := h; rfl) | (obtain ⟨_, _, _, _, _, rfl, _⟩ := h; rfl) | (obtain ⟨_, _, _, _, _, _, rfl, _⟩ := h; rfl) | (obtain ⟨_, _, _, _, _, _, _, rfl, _⟩ := h; rfl) | (obtain ⟨_, _, _, _, _, _, _, _, rfl, _⟩ := h; rfl)) (fun f cdv A outer s H E hr => ⟨_, (pss_cons (ps_if (PW.pt (pw_or (pt_not (pt_val (pe_calC c_is_integer hr (by decide) (by rfl) (pa_cons (pv 1) pa_nil)))) (pw_or (pt_not (pt_val (pe_calC c_is_integer hr (by decide) (by rfl) (pa_cons (pv 2) pa_nil)))) (pw_or1 (pt_cmpR op_eq (pv 2) pe_int (nomark _)))))) (pss_one ps_never) pss_nil) (pss_cons (ps_set (i := 3) sc_FracD_initD.nd rfl (by first | exact Or.inl rfl | exact Or.inr rfl) (pe_callBfun cr_gcd (by rfl) T.gcd (pa_cons (pv 1) (pa_cons (pv 2) pa_nil)))) (pss_cons (ps_if (pt_cmpR op_ltI (pv 2) pe_int (nomark _)) (pss_one (ps_set (i := 3) sc_FracD_initD.nd rfl (by first | exact Or.inl rfl | exact Or.inr rfl) (pe_un un_neg (pv 3)))) pss_nil) (pss_cons (ps_fldK K rfl (pv 0) (pe_op op_divI (pv 1) (pv 3)) rfl) (pss_one (ps_fldK K rfl (pv 0) (pe_op op_divI (pv 2) (pv 3)) rfl)))))), ?_⟩)
  intro nn B l Q h
  obtain ⟨n, d, rfl, h0, hs, h⟩ := h
  walk_at "g"
  · refine ⟨_, rfl, .int _, ?_⟩
    walk_at "g"
    refine ⟨_, rfl, .int _, ?_⟩
    walk_at "g"
    simp
    omega
  · walk_at "g"
    refine ⟨fun z => absurd (of_decide_eq_true z) (by omega), fun _ => ?_⟩
    walk_at "g"
    refine rk_div (cdiv_gcd h0 hs (by decide) (by decide)) ?_
    walk_at "g"
    refine rk_div (cdiv_gcd h0 hs (by decide) (by decide)) ?_
    walk_at "g"
    refine ⟨_, rfl, ?_⟩
    have e : fracL (Rat.divInt n d) = ([("num", .int (n / ((Nat.gcd n.natAbs d.natAbs : Nat) : Int))), ("den", .int (d / ((Nat.gcd n.natAbs d.natAbs : Nat) : Int)))] : List (Str × D)) := by
      unfold fracL; rw [divInt_num h0, divInt_den h0]
    rw [e] at h
    exact h

def S_FracD_addD : List D → (D → Prop) → Prop := fun l K => ∃ p q : Rat, l = [.frac p, .frac q] ∧ SzQ p ∧ SzQ q ∧ K (.frac (p + q))
theorem ok_FracD_addD (T : Tx K mg) (m_Frac2 : CalM P w K mg base 2 "Frac" [] (SpFamI (CL K) (He.ga K "Frac") S_FracD_initD)) : ∃ fd, FnOk P w K mg base (L2.CX P w) 4 (He.ma K (He.ga K "Frac") "__add__") fd ["self", "other"] (SpFam (CL K) S_FracD_addD) ∧ Binds K fd ["self", "other"] [] := by
  refine mth_mkF (N := ["self", "other"]) T.d_FracD_addD sc_FracD_addD (fun _ _ _ _ _ _ us hl => match us, hl with | [_, _], _ => rfl) (by intro l Q h; first | (obtain ⟨rfl, _⟩ := h; rfl) | (obtain ⟨_, rfl, _⟩ := h; rfl) | (obtain ⟨_, _, rfl, _⟩ := h; rfl) | (obtain ⟨_, _, _, rfl, _⟩ := h; rfl) | (obtain ⟨_, _, _, _, rfl, _⟩ := h; rfl) | (obtain ⟨_, _, _, _, _, rfl, _⟩ := h; rfl) | (obtain ⟨_, _, _, _, _, _, rfl, _⟩ := h; rfl) | (obtain ⟨_, _, _, _, _, _, _, rfl, _⟩ := h; rfl) | (obtain ⟨_, _, _, _, _, _, _, _, rfl, _⟩ := h; rfl)) (fun f cdv A outer s H E hr => ⟨_, (pss_one (ps_ret (pe_mkK K rfl m_Frac2 hr (by decide) (by rfl) (pa_cons (pe_op op_addI (pe_op op_mulI (pe_fldK K rfl (pv 0) rfl) (pe_fldK K rfl (pv 1) rfl)) (pe_op op_mulI (pe_fldK K rfl (pv 1) rfl) (pe_fldK K rfl (pv 0) rfl))) (pa_cons (pe_op op_mulI (pe_fldK K rfl (pv 0) rfl) (pe_fldK K rfl (pv 1) rfl)) pa_nil))))), ?_⟩)
  intro nn B l Q h
  obtain ⟨p, q, rfl, ⟨hp, hp'⟩, ⟨hq, hq'⟩, h⟩ := h
  walk_at "g"
  exact ⟨_, _, rfl, den_mul p q, den_big hp' hq', _, rfl, by rw [rat_add]; exact h⟩

def S_FracD_subD : List D → (D → Prop) → Prop := fun l K => ∃ p q : Rat, l = [.frac p, .frac q] ∧ SzQ p ∧ SzQ q ∧ K (.frac (p - q))
theorem ok_FracD_subD (T : Tx K mg) (m_Frac2 : CalM P w K mg base 2 "Frac" [] (SpFamI (CL K) (He.ga K "Frac") S_FracD_initD)) : ∃ fd, FnOk P w K mg base (L2.CX P w) 4 (He.ma K (He.ga K "Frac") "__sub__") fd ["self", "other"] (SpFam (CL K) S_FracD_subD) ∧ Binds K fd ["self", "other"] [] := by
  refine mth_mkF (N := ["self", "other"]) T.d_FracD_subD sc_FracD_subD (fun _ _ _ _ _ _ us hl => match us, hl with | [_, _], _ => rfl) (by intro l Q h; first | (obtain ⟨rfl, _⟩ := h; rfl) | (obtain ⟨_, rfl, _⟩ := h; rfl) | (obtain ⟨_, _, rfl, _⟩ := h; rfl) | (obtain ⟨_, _, _, rfl, _⟩ := h; rfl) | (obtain ⟨_, _, _, _, rfl, _⟩ := h; rfl) | (obtain ⟨_, _, _, _, _, rfl, _⟩ := h; rfl) | (obtain ⟨_, _, _, _, _, _, rfl, _⟩ := h; rfl) | (obtain ⟨_, _, _, _, _, _, _, rfl, _⟩ := h; rfl) | (obtain ⟨_, _, _, _, _, _, _, _, rfl, _⟩ := h; rfl)) (fun f cdv A outer s H E hr => ⟨_, (pss_one (ps_ret (pe_mkK K rfl m_Frac2 hr (by decide) (by rfl) (pa_cons (pe_op op_subI (pe_op op_mulI (pe_fldK K rfl (pv 0) rfl) (pe_fldK K rfl (pv 1) rfl)) (pe_op op_mulI (pe_fldK K rfl (pv 1) rfl) (pe_fldK K rfl (pv 0) rfl))) (pa_cons (pe_op op_mulI (pe_fldK K rfl (pv 0) rfl) (pe_fldK K rfl (pv 1) rfl)) pa_nil))))), ?_⟩)
  intro nn B l Q h
  obtain ⟨p, q, rfl, ⟨hp, hp'⟩, ⟨hq, hq'⟩, h⟩ := h
  walk_at "g"
  exact ⟨_, _, rfl, den_mul p q, den_big hp' hq', _, rfl, by rw [rat_sub]; exact h⟩

def S_FracD_mulD : List D → (D → Prop) → Prop := fun l K => ∃ p q : Rat, l = [.frac p, .frac q] ∧ SzQ p ∧ SzQ q ∧ K (.frac (p * q))
theorem ok_FracD_mulD (T : Tx K mg) (m_Frac2 : CalM P w K mg base 2 "Frac" [] (SpFamI (CL K) (He.ga K "Frac") S_FracD_initD)) : ∃ fd, FnOk P w K mg base (L2.CX P w) 4 (He.ma K (He.ga K "Frac") "__mul__") fd ["self", "other"] (SpFam (CL K) S_FracD_mulD) ∧ Binds K fd ["self", "other"] [] := by
  refine mth_mkF (N := ["self", "other"]) T.d_FracD_mulD sc_FracD_mulD (fun _ _ _ _ _ _ us hl => match us, hl with | [_, _], _ => rfl) (by intro l Q h; first | (obtain ⟨rfl, _⟩ := h; rfl) | (obtain ⟨_, rfl, _⟩ := h; rfl) | (obtain ⟨_, _, rfl, _⟩ := h; rfl) | (obtain ⟨_, _, _, rfl, _⟩ := h; rfl) | (obtain ⟨_, _, _, _, rfl, _⟩ := h; rfl) | (obtain ⟨_, _, _, _, _, rfl, _⟩ := h; rfl) | (obtain ⟨_, _, _, _, _, _, rfl, _⟩ := h; rfl) | (obtain ⟨_, _, _, _, _, _, _, rfl, _⟩ := h; rfl) | (obtain ⟨_, _, _, _, _, _, _, _, rfl, _⟩ := h; rfl)) (fun f cdv A outer s H E hr => ⟨_, (pss_one (ps_ret (pe_mkK K rfl m_Frac2 hr (by decide) (by rfl) (pa_cons (pe_op op_mulI (pe_fldK K rfl (pv 0) rfl) (pe_fldK K rfl (pv 1) rfl)) (pa_cons (pe_op op_mulI (pe_fldK K rfl (pv 0) rfl) (pe_fldK K rfl (pv 1) rfl)) pa_nil))))), ?_⟩)
  intro nn B l Q h
  obtain ⟨p, q, rfl, ⟨hp, hp'⟩, ⟨hq, hq'⟩, h⟩ := h
  walk_at "g"
  exact ⟨_, _, rfl, den_mul p q, den_big hp' hq', _, rfl, by rw [rat_mul]; exact h⟩

def S_Frac_is_below : List D → (D → Prop) → Prop := fun l K => ∃ p q : Rat, l = [.frac p, .frac q] ∧ SzQ p ∧ SzQ q ∧ K (.bl (decide (p < q)))
theorem ok_Frac_is_below (T : Tx K mg)  : ∃ fd, FnOk P w K mg base (L2.CX P w) 1 (He.ma K (He.ga K "Frac") "is_below") fd ["self", "other"] (SpFam (CL K) S_Frac_is_below) ∧ Binds K fd ["self", "other"] [] := by
  refine mth_mkF (N := ["self", "other"]) T.d_Frac_is_below sc_Frac_is_below (fun _ _ _ _ _ _ us hl => match us, hl with | [_, _], _ => rfl) (by intro l Q h; first | (obtain ⟨rfl, _⟩ := h; rfl) | (obtain ⟨_, rfl, _⟩ := h; rfl) | (obtain ⟨_, _, rfl, _⟩ := h; rfl) | (obtain ⟨_, _, _, rfl, _⟩ := h; rfl) | (obtain ⟨_, _, _, _, rfl, _⟩ := h; rfl) | (obtain ⟨_, _, _, _, _, rfl, _⟩ := h; rfl) | (obtain ⟨_, _, _, _, _, _, rfl, _⟩ := h; rfl) | (obtain ⟨_, _, _, _, _, _, _, rfl, _⟩ := h; rfl) | (obtain ⟨_, _, _, _, _, _, _, _, rfl, _⟩ := h; rfl)) (fun f cdv A outer s H E hr => ⟨_, (pss_one (ps_ret (pe_cmpR op_ltI (pe_op op_mulI (pe_fldK K rfl (pv 0) rfl) (pe_fldK K rfl (pv 1) rfl)) (pe_op op_mulI (pe_fldK K rfl (pv 1) rfl) (pe_fldK K rfl (pv 0) rfl)) (nomark _)))), ?_⟩)
  intro nn B l Q h
  obtain ⟨p, q, rfl, ⟨hp, hp'⟩, ⟨hq, hq'⟩, h⟩ := h
  walk_at "g"
  rw [show (decide (p.num * q.den < q.num * p.den)) = decide (p < q) from decide_eq_decide.mpr (by rw [Rat.lt_iff])]
  exact h

def S_as_frac : List D → (D → Prop) → Prop := fun l K => ∃ d q, l = [d] ∧ AmtD d q ∧ K (.frac q)
theorem ok_as_frac (T : Tx K mg) (c_is_integer : Cal P w K mg base 1 "is_integer" ["value"] (SpFam (CL K) S_is_integer)) (m_Frac1 : CalM P w K mg base 2 "Frac" [.int 1] (SpFamI (CL K) (He.ga K "Frac") S_FracD_initD)) : Cal P w K mg base 4 "as_frac" ["value"] (SpFam (CL K) S_as_frac) := by
  refine cal_mkF (N := ["value"]) T.g_as_frac T.d_as_frac sc_as_frac (fun _ _ _ _ _ _ us hl => match us, hl with | [_], _ => rfl) (by intro l Q h; first | (obtain ⟨rfl, _⟩ := h; rfl) | (obtain ⟨_, rfl, _⟩ := h; rfl) | (obtain ⟨_, _, rfl, _⟩ := h; rfl) | (obtain ⟨_, _, _, rfl, _⟩ := h; rfl) | (obtain ⟨_, _, _, _, rfl, _⟩ := h; rfl) | (obtain ⟨_, _, _, _, _, rfl, _⟩ := h; rfl) | (obtain ⟨_, _, _, _, _, _, rfl, _⟩ := h; rfl) | (obtain ⟨_, _, _, _, _, _, _, rfl, _⟩ := h; rfl) | (obtain ⟨_, _, _, _, _, _, _, _, rfl, _⟩ := h; rfl)) (fun f cdv A outer s H E hr => ⟨_, (pss_cons (ps_if (pt_val (pe_callB (cr_isK K rfl) (by rfl) T.b_isinstance (by decide +kernel) (pa_cons (pv 0) (pa_cons (pe_gcls T.g_Frac (by rfl)) pa_nil)))) (pss_one (ps_ret (pv 0))) pss_nil) (pss_cons (ps_if (pt_not (pt_val (pe_calC c_is_integer hr (by decide) (by rfl) (pa_cons (pv 0) pa_nil)))) (pss_one ps_never) pss_nil) (pss_one (ps_ret (pe_mkK K rfl m_Frac1 hr (by decide) (by rfl) (pa_cons (pv 0) pa_nil)))))), ?_⟩)
  intro nn B l Q h
  obtain ⟨d, q, rfl, ha, h⟩ := h
  walk_at "g"
  rcases ha with ⟨i, rfl, rfl⟩ | rfl
  · refine ck_fr T (.int i) ?_
    walk_at "g"
    · exact ⟨_, rfl, .int _, _, rfl, rfl⟩
    · walk_at "g"
      exact ⟨_, _, rfl, by decide, by decide, _, rfl, by rw [show Rat.divInt i 1 = (i : Rat) from Rat.num_divInt_den (i : Rat)]; exact h⟩
  · refine ck_fr T (.frac q) ?_
    walk_at "g"
    exact h

def S_is_amount : List D → (D → Prop) → Prop := fun l K => ∃ d q, l = [d] ∧ AmtD d q ∧ -9999 ≤ q.num ∧ q.num ≤ 9999 ∧ q.den ≤ 99 ∧ K (.bl true)
theorem ok_is_amount (T : Tx K mg) (c_is_integer : Cal P w K mg base 1 "is_integer" ["value"] (SpFam (CL K) S_is_integer)) (c_as_frac : Cal P w K mg base 4 "as_frac" ["value"] (SpFam (CL K) S_as_frac)) : Cal P w K mg base 5 "is_amount" ["value"] (SpFam (CL K) S_is_amount) := by
  refine cal_mkF (N := ["value", "frac"]) T.g_is_amount T.d_is_amount sc_is_amount (fun _ _ _ _ _ _ us hl => match us, hl with | [_], _ => rfl) (by intro l Q h; first | (obtain ⟨rfl, _⟩ := h; rfl) | (obtain ⟨_, rfl, _⟩ := h; rfl) | (obtain ⟨_, _, rfl, _⟩ := h; rfl) | (obtain ⟨_, _, _, rfl, _⟩ := h; rfl) | (obtain ⟨_, _, _, _, rfl, _⟩ := h; rfl) | (obtain ⟨_, _, _, _, _, rfl, _⟩ := h; rfl) | (obtain ⟨_, _, _, _, _, _, rfl, _⟩ := h; rfl) | (obtain ⟨_, _, _, _, _, _, _, rfl, _⟩ := h; rfl) | (obtain ⟨_, _, _, _, _, _, _, _, rfl, _⟩ := h; rfl)) (fun f cdv A outer s H E hr => ⟨_, (pss_cons (ps_if (PW.pt (pw_and (pt_not (pt_val (pe_calC c_is_integer hr (by decide) (by rfl) (pa_cons (pv 0) pa_nil)))) (pw_and1 (pt_not (pt_val (pe_callB (cr_isK K rfl) (by rfl) T.b_isinstance (by decide +kernel) (pa_cons (pv 0) (pa_cons (pe_gcls T.g_Frac (by rfl)) pa_nil)))))))) (pss_one (ps_ret pe_bl)) pss_nil) (pss_cons (ps_set (i := 1) sc_is_amount.nd rfl (by first | exact Or.inl rfl | exact Or.inr rfl) (pe_calC c_as_frac hr (by decide) (by rfl) (pa_cons (pv 0) pa_nil))) (pss_one (ps_ret (pe_and (pe_chain op_leI op_leI (pe_un un_neg (pe_gint T.i_MOST_OVER (by rfl))) (pe_fldK K rfl (pv 1) rfl) (pe_gint T.i_MOST_OVER (by rfl))) (pe_one (pe_cmpR op_leI (pe_fldK K rfl (pv 1) rfl) (pe_gint T.i_MOST_UNDER (by rfl)) (nomark _)))))))), ?_⟩)
  intro nn B l Q h
  obtain ⟨d, q, rfl, ha, h1, h2, h3, h⟩ := h
  refine sx_skip ?_ ?_
  · walk_at "g"
    refine ⟨_, rfl, ha.kn, ?_⟩
    rcases ha with ⟨i, rfl, rfl⟩ | rfl
    · walk_at "g"
      rfl
    · walk_at "g"
      exact ck_fr T (.frac q) (by walk_at "g"; rfl)
  · walk_at "g"
    refine ⟨_, _, rfl, ha, ?_⟩
    walk_at "g"
    refine br_p (fun _ => ?_) (fun z => absurd h1 z)
    walk_at "g"
    refine br_p (fun _ => ?_) (fun z => absurd h2 z)
    walk_at "g"
    rw [show decide ((q.den : Int) ≤ 99) = true from decide_eq_true (by omega)]
    exact h

end

end K
end

section
set_option maxRecDepth 100000
set_option maxHeartbeats 4000000
namespace K
open PySem PySem.Spec PyProof.Rows L2 G

section
local macro_rules | `(tactic| walk_at "e") => `(tactic| first
  | ((with_reducible refine' ek_var ?h1 ?_); (case h1 => exact rfl))
  | (with_reducible refine ek_int ?_)
  | (with_reducible refine ek_bl ?_)
  | (with_reducible refine ek_non ?_)
  | (with_reducible refine ek_str ?_)
  | (with_reducible refine ek_ty ?_)
  | (with_reducible refine ek_cls ?_)
  | (with_reducible refine ek_ix ?_)
  | (with_reducible refine ek_un ?_)
  | (with_reducible refine ek_tup ?_)
  | (with_reducible refine k_call ?_)
  | (with_reducible refine ek_len ?_)
  | (with_reducible refine ek_tuple ?_)
  | (with_reducible refine ek_sum ?_)
  | (with_reducible refine ek_all ?_)
  | (with_reducible refine ek_any ?_)
  | (with_reducible refine ek_chain ?_)
  | (with_reducible refine ek_andV ?_)
  | (with_reducible refine ek_orV ?_)
  | (with_reducible refine ek_notV ?_)
  | (with_reducible refine ek_if ?_)
  | (with_reducible refine ek_ef (ef_lst ?_))
  | (with_reducible refine ek_ef (ef_list ?_))
  | (with_reducible refine ek_ef (ef_cat ?_))
  | (with_reducible refine ek_ef (ef_rep ?_))
  | (with_reducible refine ek_ef (ef_slice ?_))
  | (with_reducible refine ek_ef (ef_rev ?_))
  | (with_reducible refine ek_ef (ef_lstRev ?_))
  | (with_reducible refine ek_ef (ef_map ?_))
  | (with_reducible refine ek_ef (ef_filt ?_))
  | (with_reducible refine ef_lst ?_)
  | (with_reducible refine ef_list ?_)
  | (with_reducible refine ef_cat ?_)
  | (with_reducible refine ef_rep ?_)
  | (with_reducible refine ef_slice ?_)
  | (with_reducible refine ef_rev ?_)
  | (with_reducible refine ef_lstRev ?_)
  | (with_reducible refine ef_map ?_)
  | (with_reducible refine ef_filt ?_)
  | ((with_reducible refine' el_var ?h1 ?_); (case h1 => exact rfl))
  | ((with_reducible refine' el_own ?h1 ?_); (case h1 => exact rfl))
  | (with_reducible refine el_ef (ef_lst ?_))
  | (with_reducible refine el_ef (ef_list ?_))
  | (with_reducible refine el_ef (ef_cat ?_))
  | (with_reducible refine el_ef (ef_rep ?_))
  | (with_reducible refine el_ef (ef_slice ?_))
  | (with_reducible refine el_ef (ef_rev ?_))
  | (with_reducible refine el_ef (ef_lstRev ?_))
  | (with_reducible refine el_ef (ef_map ?_))
  | (with_reducible refine el_ef (ef_filt ?_))
  | (with_reducible refine ek_op ?_)
  | (with_reducible refine ek_cb ?_)
  | (with_reducible refine el_ek ?_)
  | (with_reducible refine tk_test ?_)
  | (with_reducible refine tk_B ?_)
  | (with_reducible refine tk_and ?_)
  | (with_reducible refine tk_or ?_)
  | (with_reducible refine tk_not ?_)
  | (with_reducible refine tk_yes ?_)
  | (with_reducible refine ak_nil ?_)
  | (with_reducible refine ak_cons ?_)
  | (with_reducible refine k_num (‹Tx _ _›) ?_)
  | (with_reducible refine k_den (‹Tx _ _›) ?_)
  | (with_reducible refine k_mk2 ?_)
  | (with_reducible refine k_mkO ?_)
  | (with_reducible refine k_rows (‹Tx _ _›) ?_)
  | (with_reducible refine k_mk1 ?_)
  | (with_reducible refine k_bel ?_)
  | (with_reducible refine k_own ?_)
  | (with_reducible refine rk_U2 (k_own ?_))
  | (with_reducible refine rk_mul (Sz.mul (by assumption) (by assumption)) ?_)
  | (with_reducible refine rk_U1 (rk_mul (Sz.mul (by assumption) (by assumption)) ?_))
  | (with_reducible refine ek_dget ?_)
  | (with_reducible refine uk_neg ?_)
  | (with_reducible refine ek_disp ?_)
  | (with_reducible refine pk_cons ?_)
  | (with_reducible refine pk_nil ?_)
  | (with_reducible refine rk_mod (by assumption) ?_)
  | (with_reducible refine rk_add ?_)
  | (with_reducible refine rk_sub ?_)
  | (with_reducible refine rk_lt ?_)
  | (with_reducible refine rk_le ?_)
  | (with_reducible refine rk_gt ?_)
  | (with_reducible refine rk_ge ?_)
  | (with_reducible refine rk_eqI ?_)
  | (with_reducible refine rk_neI ?_)
  | (with_reducible refine rk_isN ?_)
  | (with_reducible refine rk_notN ?_)
  | (with_reducible refine rk_U1 (rk_add ?_))
  | (with_reducible refine rk_U1 (rk_sub ?_))
  | (with_reducible refine ck_gcd ?_)
  | (with_reducible refine ck_abs ?_)
  | (with_reducible refine ck_int ?_)
  | (with_reducible refine ik_seq ?_)
  | (with_reducible refine ik_range1 ?_)
  | (with_reducible refine ik_range2 ?_)
  | (with_reducible refine ik_enumA ?_)
  | (with_reducible refine ik_zip ?_)
  | (with_reducible refine ik_rev ?_)
  | ((with_reducible refine' cg_name ?_ ?h1 ?h2); (case h1 => exact rfl); (case h2 => decide))
  | ((with_reducible refine' cg_anyT ?h1 ?_); (case h1 => exact rfl))
  | ((with_reducible refine' cg_anyL ?h1 ?_); (case h1 => exact rfl))
  | ((with_reducible refine' cg_anyK ?h1 ?_); (case h1 => exact rfl))
  | ((with_reducible refine' cgs_cons ?_ ?h1 ?h2); (case h1 => exact rfl); (case h2 => decide))
  | (with_reducible refine cgs_nil ?_)
  | ((with_reducible refine' gk_name ?_ ?h1); (case h1 => exact rfl))
  | ((with_reducible refine' gk_anyT ?h1 ?_); (case h1 => exact rfl))
  | ((with_reducible refine' gk_anyL ?h1 ?_); (case h1 => exact rfl))
  | ((with_reducible refine' gk_anyK ?h1 ?_); (case h1 => exact rfl))
  | ((with_reducible refine' gks_cons ?_ ?h1); (case h1 => exact rfl))
  | ((with_reducible refine' gks_consA (n := 0) ?_ ?h1 ?h2); (case h1 => exact rfl); (case h2 => exact rfl))
  | ((with_reducible refine' gks_consB ?h0 ?_ ?h1 ?h2); (case h0 => exact rfl); (case h1 => exact rfl); (case h2 => exact rfl))
  | (with_reducible refine gks_nil ?_)
  | (with_reducible refine ok_none ?_)
  | (with_reducible refine ok_some ?_))
local macro_rules | `(tactic| walk_at "s") => `(tactic| first
  | (with_reducible refine sx_guard ?_ ?_)
  | (with_reducible refine sx_seq ?_)
  | (with_reducible refine sx_ret ?_)
  | (with_reducible refine sx_if ?_)
  | (with_reducible refine sx_next ?_)
  | (with_reducible refine sx_break ?_)
  | (with_reducible refine sx_cont ?_)
  | ((with_reducible refine' sx_append ?h1 ?_); (case h1 => exact rfl))
  | ((with_reducible refine' sx_setI ?h1 ?_); (case h1 => exact rfl))
  | ((with_reducible refine' sx_set ?h1 ?_); (case h1 => exact rfl))
  | (with_reducible refine sx_asg ?_)
  | ((with_reducible refine' sx_par ?h1 ?h2 ?_); (case h1 => exact rfl); (case h2 => exact rfl))
  | (with_reducible refine sx_drop ?_)
  | ((with_reducible refine' k_fldS (‹Tx _ _›) ?h1 ?h2 ?h3 ?_); (case h1 => exact rfl); (case h2 => decide); (case h3 => exact rfl))
  | ((with_reducible refine' k_fldO (‹Tx _ _›) ?h1 ?h3 ?_); (case h1 => exact rfl); (case h3 => exact rfl)))
/-! plain existentials that the rules leave -/
local macro_rules | `(tactic| walk_at "x") => `(tactic| first
  | (with_reducible refine x_bl ?_)
  | (with_reducible refine x_int ?_)
  | (with_reducible refine x_frac ?_)
  | (with_reducible refine x_lst ?_)
  | (with_reducible refine x_off ?_)
  | (with_reducible refine x_low ?_)
  | (with_reducible refine x_ownR ?_)
  | (with_reducible refine x_ownA ?_)
  | (with_reducible refine x_tup ?_)
  | (with_reducible refine x_kd ?_)
  | (with_reducible refine x_oneL ?_)
  | (with_reducible refine x_oneT ?_)
  | (with_reducible refine x_one ?_)
  | ((with_reducible refine' x_at ?h1 ?_); (case h1 => exact rfl))
  | ((with_reducible refine' x_dic ?h1 ?_); (case h1 => exact rfl))
  | (with_reducible refine (⟨rfl, ?_⟩ : Kd.l = Kd.l ∧ _))
  | ((with_reducible refine' x_len ?h1 ?_); (case h1 => exact rfl))
  | ((with_reducible refine' br_t ?h1 ?_); (case h1 => exact rfl))
  | ((with_reducible refine' br_f ?h1 ?_); (case h1 => exact rfl)))
local macro_rules | `(tactic| walk_at "f") => `(tactic| first
  | ((with_reducible refine' sx_forW ?h1 ?_); (case h1 => exact rfl))
  | (with_reducible refine sx_forGW ?_))
local macro_rules | `(tactic| walk_at "g") => `(tactic| repeat (first | walk_at "s" | walk_at "f" | walk_at "e" | walk_at "x"))
local macro_rules | `(tactic| walk_at "v") => `(tactic| repeat (first | walk_at "e" | walk_at "x"))
local macro_rules | `(tactic| walk_at "h") => `(tactic| repeat (first | walk_at "s" | walk_at "e" | walk_at "x"))
variable {P : Program} {w : World} {K : PySem.W.Frag} {mg : Str → Option Value} {base : Heap}

theorem sz_of {i : Int} {b : Nat} (h : i.natAbs < 2 ^ b) (hb : b ≤ 4000) : Sz i := Nat.lt_of_lt_of_le h (Nat.pow_le_pow_right (by decide) hb)
theorem _root_.G.LR.lowS {q : Rat} (h : SzQ q) : LR 4000 q (lowD q) :=
  ⟨q.num, q.den, rfl, by have := q.den_pos; omega, num_mul q, h.1, h.2⟩
def S__law_gcd : List D → (D → Prop) → Prop := fun l K => ∃ a b : Int, l = [.int a, .int b] ∧ K (.int ((Nat.gcd a.natAbs b.natAbs : Nat) : Int))
theorem ok__law_gcd (T : Tx K mg)  : Cal P w K mg base 1 "_law_gcd" ["one", "two"] (SpFam (CL K) S__law_gcd) := by
  refine cal_mkF (N := ["one", "two", "rest"]) T.g__law_gcd T.d__law_gcd sc__law_gcd (fun _ _ _ _ _ _ us hl => match us, hl with | [_, _], _ => rfl) (by intro l Q h; first | (obtain ⟨rfl, _⟩ := h; rfl) | (obtain ⟨_, rfl, _⟩ := h; rfl) | (obtain ⟨_, _, rfl, _⟩ := h; rfl) | (obtain ⟨_, _, _, rfl, _⟩ := h; rfl) | (obtain ⟨_, _, _, _, rfl, _⟩ := h; rfl) | (obtain ⟨_, _, _, _, _, rfl, _⟩ := h; rfl) | (obtain ⟨_, _, _, _, _, _, rfl, _⟩ := h; rfl) | (obtain ⟨_, _, _, _, _, _, _, rfl, _⟩ := h; rfl) | (obtain ⟨_, _, _, _, _, _, _, _, rfl, _⟩ := h; rfl)) (fun f cdv A outer s H E hr => ⟨_, (pss_cons (ps_set (i := 0) sc__law_gcd.nd rfl (by first | exact Or.inl rfl | exact Or.inr rfl) (pe_callB cr_abs (by rfl) T.b_abs (by decide +kernel) (pa_cons (pv 0) pa_nil))) (pss_cons (ps_set (i := 1) sc__law_gcd.nd rfl (by first | exact Or.inl rfl | exact Or.inr rfl) (pe_callB cr_abs (by rfl) T.b_abs (by decide +kernel) (pa_cons (pv 1) pa_nil))) (pss_cons (ps_while PassesOwn.never (pt_cmpR op_gtI (pv 1) pe_int (nomark _)) (pss_cons (ps_set (i := 2) sc__law_gcd.nd rfl (by first | exact Or.inl rfl | exact Or.inr rfl) (pe_op op_modI (pe_callTy cr_int1 (by rfl) T.b_int (by decide +kernel) (pa_cons (pv 0) pa_nil)) (pv 1))) (pss_cons (ps_set (i := 0) sc__law_gcd.nd rfl (by first | exact Or.inl rfl | exact Or.inr rfl) (pv 1)) (pss_one (ps_set (i := 1) sc__law_gcd.nd rfl (by first | exact Or.inl rfl | exact Or.inr rfl) (pv 2)))))) (pss_one (ps_ret (pv 0)))))), ?_⟩)
  intro nn B l Q h
  obtain ⟨a, b, rfl, h⟩ := h
  walk_at "g"
  refine sx_while (fun m Γ' => ∃ x y : Int, ∃ s, Γ' = [.d (.int x), .d (.int y), s] ∧ 0 ≤ x ∧ 0 ≤ y ∧ y.toNat = m ∧ Nat.gcd x.natAbs y.natAbs = Nat.gcd a.natAbs b.natAbs) ⟨_, _, _, _, rfl, ?_, ?_, rfl, ?_⟩ ?_
  · split <;> omega
  · split <;> omega
  · rw [show (if a < 0 then -a else a).natAbs = a.natAbs by split <;> omega, show (if b < 0 then -b else b).natAbs = b.natAbs by split <;> omega]
  · rintro m Γ' ⟨x, y, s, rfl, hx, hy, hm, hg⟩
    walk_at "g"
    refine br_p (fun hp => ?_) (fun hn => ?_)
    · have hp : 0 < y := hp
      walk_at "g"
      refine ⟨(x % y).toNat, ?_, _, _, _, rfl, hy, Int.emod_nonneg _ (by omega), rfl, ?_⟩
      · have := Int.emod_lt_of_pos x hp
        have := Int.emod_nonneg x (show y ≠ 0 by omega)
        omega
      · rw [← hg, Int.natAbs_emod_of_nonneg hx, Nat.gcd_comm x.natAbs y.natAbs, Nat.gcd_rec y.natAbs x.natAbs, Nat.gcd_comm]
    · walk_at "g"
      have : y = 0 := by omega
      subst this
      rw [show Nat.gcd x.natAbs (0 : Int).natAbs = x.natAbs from Nat.gcd_zero_right _] at hg
      rw [← hg, Int.natAbs_of_nonneg hx] at h
      exact h

def S__law_low : List D → (D → Prop) → Prop := fun l K => ∃ d q b, l = [d] ∧ LR b q d ∧ b ≤ 9000 ∧ K (lowD q)
theorem ok__law_low (T : Tx K mg) (c__law_gcd : Cal P w K mg base 1 "_law_gcd" ["one", "two"] (SpFam (CL K) S__law_gcd)) : Cal P w K mg base 2 "_law_low" ["x"] (SpFam (CL K) S__law_low) := by
  refine cal_mkF (N := ["x", "by"]) T.g__law_low T.d__law_low sc__law_low (fun _ _ _ _ _ _ us hl => match us, hl with | [_], _ => rfl) (by intro l Q h; first | (obtain ⟨rfl, _⟩ := h; rfl) | (obtain ⟨_, rfl, _⟩ := h; rfl) | (obtain ⟨_, _, rfl, _⟩ := h; rfl) | (obtain ⟨_, _, _, rfl, _⟩ := h; rfl) | (obtain ⟨_, _, _, _, rfl, _⟩ := h; rfl) | (obtain ⟨_, _, _, _, _, rfl, _⟩ := h; rfl) | (obtain ⟨_, _, _, _, _, _, rfl, _⟩ := h; rfl) | (obtain ⟨_, _, _, _, _, _, _, rfl, _⟩ := h; rfl) | (obtain ⟨_, _, _, _, _, _, _, _, rfl, _⟩ := h; rfl)) (fun f cdv A outer s H E hr => ⟨_, (pss_cons (ps_set (i := 1) sc__law_low.nd rfl (by first | exact Or.inl rfl | exact Or.inr rfl) (pe_calC c__law_gcd hr (by decide) (by rfl) (pa_cons (pe_ix (ix_seqK K rfl) (pv 0) pe_int (fun _ _ => rfl)) (pa_cons (pe_ix (ix_seqK K rfl) (pv 0) pe_int (fun _ _ => rfl)) pa_nil)))) (pss_cons (ps_if (pt_cmpR op_ltI (pe_ix (ix_seqK K rfl) (pv 0) pe_int (fun _ _ => rfl)) pe_int (nomark _)) (pss_one (ps_set (i := 1) sc__law_low.nd rfl (by first | exact Or.inl rfl | exact Or.inr rfl) (pe_op op_subI pe_int (pv 1)))) pss_nil) (pss_one (ps_ret (pe_tup (pa_cons (pe_op op_divI (pe_ix (ix_seqK K rfl) (pv 0) pe_int (fun _ _ => rfl)) (pv 1)) (pa_cons (pe_op op_divI (pe_ix (ix_seqK K rfl) (pv 0) pe_int (fun _ _ => rfl)) (pv 1)) pa_nil))))))), ?_⟩)
  intro nn B l Q h
  obtain ⟨d, q, b, rfl, ⟨n, m, rfl, hm, he, hn, hb⟩, hB, h⟩ := h
  walk_at "g"
  refine ⟨_, _, rfl, ?_⟩
  walk_at "g"
  refine br_p (fun z => absurd hm (by omega)) (fun _ => ?_)
  walk_at "g"
  have hp : 0 < b := by
    rcases Nat.eq_zero_or_pos b with z | z
    · subst z; have : m.natAbs < 1 := hb; omega
    · exact z
  refine rk_div (cdiv_gcd hm hb hp hB) ?_
  walk_at "g"
  refine rk_div (cdiv_gcd hm hb hp hB) ?_
  walk_at "g"
  have e := pair_div hm he
  rw [← divInt_num hm, ← divInt_den hm, e]
  exact h

def S__law_plus : List D → (D → Prop) → Prop := fun l K => ∃ x y p q b c, l = [x, y] ∧ LR b p x ∧ LR c q y ∧ b ≤ 4000 ∧ c ≤ 4000 ∧ ∀ z, LR (b + c + 1) (p + q) z → K z
theorem ok__law_plus (T : Tx K mg)  : Cal P w K mg base 1 "_law_plus" ["x", "y"] (SpFam (CL K) S__law_plus) := by
  refine cal_mkF (N := ["x", "y"]) T.g__law_plus T.d__law_plus sc__law_plus (fun _ _ _ _ _ _ us hl => match us, hl with | [_, _], _ => rfl) (by intro l Q h; first | (obtain ⟨rfl, _⟩ := h; rfl) | (obtain ⟨_, rfl, _⟩ := h; rfl) | (obtain ⟨_, _, rfl, _⟩ := h; rfl) | (obtain ⟨_, _, _, rfl, _⟩ := h; rfl) | (obtain ⟨_, _, _, _, rfl, _⟩ := h; rfl) | (obtain ⟨_, _, _, _, _, rfl, _⟩ := h; rfl) | (obtain ⟨_, _, _, _, _, _, rfl, _⟩ := h; rfl) | (obtain ⟨_, _, _, _, _, _, _, rfl, _⟩ := h; rfl) | (obtain ⟨_, _, _, _, _, _, _, _, rfl, _⟩ := h; rfl)) (fun f cdv A outer s H E hr => ⟨_, (pss_one (ps_ret (pe_tup (pa_cons (pe_op op_addI (pe_op op_mulI (pe_ix (ix_seqK K rfl) (pv 0) pe_int (fun _ _ => rfl)) (pe_ix (ix_seqK K rfl) (pv 1) pe_int (fun _ _ => rfl))) (pe_op op_mulI (pe_ix (ix_seqK K rfl) (pv 1) pe_int (fun _ _ => rfl)) (pe_ix (ix_seqK K rfl) (pv 0) pe_int (fun _ _ => rfl)))) (pa_cons (pe_op op_mulI (pe_ix (ix_seqK K rfl) (pv 0) pe_int (fun _ _ => rfl)) (pe_ix (ix_seqK K rfl) (pv 1) pe_int (fun _ _ => rfl))) pa_nil))))), ?_⟩)
  intro nn B l Q h
  obtain ⟨x, y, p, q, b, c, rfl, ⟨n, m, rfl, hm, he, hn, hb⟩, ⟨i, j, rfl, hj, he', hi, hc⟩, hB, hC, h⟩ := h
  have s1 := sz_of hn hB
  have s2 := sz_of hb hB
  have s3 := sz_of hi hC
  have s4 := sz_of hc hC
  walk_at "g"
  refine h _ ⟨_, _, rfl, Int.mul_pos hm hj, ?_, ?_, ?_⟩
  · push_cast; rw [he, he']; grind
  · exact lt_sum (lt_prod hn hc) (by rw [Nat.add_comm]; exact lt_prod hi hb)
  · exact Nat.lt_trans (lt_prod hb hc) (Nat.pow_lt_pow_right (by decide) (by omega))

def S__law_minus : List D → (D → Prop) → Prop := fun l K => ∃ x y p q b c, l = [x, y] ∧ LR b p x ∧ LR c q y ∧ b ≤ 4000 ∧ c ≤ 4000 ∧ ∀ z, LR (b + c + 1) (p - q) z → K z
theorem ok__law_minus (T : Tx K mg)  : Cal P w K mg base 1 "_law_minus" ["x", "y"] (SpFam (CL K) S__law_minus) := by
  refine cal_mkF (N := ["x", "y"]) T.g__law_minus T.d__law_minus sc__law_minus (fun _ _ _ _ _ _ us hl => match us, hl with | [_, _], _ => rfl) (by intro l Q h; first | (obtain ⟨rfl, _⟩ := h; rfl) | (obtain ⟨_, rfl, _⟩ := h; rfl) | (obtain ⟨_, _, rfl, _⟩ := h; rfl) | (obtain ⟨_, _, _, rfl, _⟩ := h; rfl) | (obtain ⟨_, _, _, _, rfl, _⟩ := h; rfl) | (obtain ⟨_, _, _, _, _, rfl, _⟩ := h; rfl) | (obtain ⟨_, _, _, _, _, _, rfl, _⟩ := h; rfl) | (obtain ⟨_, _, _, _, _, _, _, rfl, _⟩ := h; rfl) | (obtain ⟨_, _, _, _, _, _, _, _, rfl, _⟩ := h; rfl)) (fun f cdv A outer s H E hr => ⟨_, (pss_one (ps_ret (pe_tup (pa_cons (pe_op op_subI (pe_op op_mulI (pe_ix (ix_seqK K rfl) (pv 0) pe_int (fun _ _ => rfl)) (pe_ix (ix_seqK K rfl) (pv 1) pe_int (fun _ _ => rfl))) (pe_op op_mulI (pe_ix (ix_seqK K rfl) (pv 1) pe_int (fun _ _ => rfl)) (pe_ix (ix_seqK K rfl) (pv 0) pe_int (fun _ _ => rfl)))) (pa_cons (pe_op op_mulI (pe_ix (ix_seqK K rfl) (pv 0) pe_int (fun _ _ => rfl)) (pe_ix (ix_seqK K rfl) (pv 1) pe_int (fun _ _ => rfl))) pa_nil))))), ?_⟩)
  intro nn B l Q h
  obtain ⟨x, y, p, q, b, c, rfl, ⟨n, m, rfl, hm, he, hn, hb⟩, ⟨i, j, rfl, hj, he', hi, hc⟩, hB, hC, h⟩ := h
  have s1 := sz_of hn hB
  have s2 := sz_of hb hB
  have s3 := sz_of hi hC
  have s4 := sz_of hc hC
  walk_at "g"
  refine h _ ⟨_, _, rfl, Int.mul_pos hm hj, ?_, ?_, ?_⟩
  · push_cast; rw [he, he']; grind
  · rw [Int.sub_eq_add_neg]
    exact lt_sum (lt_prod hn hc) (by rw [Int.natAbs_neg, Nat.add_comm]; exact lt_prod hi hb)
  · exact Nat.lt_trans (lt_prod hb hc) (Nat.pow_lt_pow_right (by decide) (by omega))

def S__law_times : List D → (D → Prop) → Prop := fun l K => ∃ x y p q b c, l = [x, y] ∧ LR b p x ∧ LR c q y ∧ b ≤ 4000 ∧ c ≤ 4000 ∧ ∀ z, LR (b + c) (p * q) z → K z
theorem ok__law_times (T : Tx K mg)  : Cal P w K mg base 1 "_law_times" ["x", "y"] (SpFam (CL K) S__law_times) := by
  refine cal_mkF (N := ["x", "y"]) T.g__law_times T.d__law_times sc__law_times (fun _ _ _ _ _ _ us hl => match us, hl with | [_, _], _ => rfl) (by intro l Q h; first | (obtain ⟨rfl, _⟩ := h; rfl) | (obtain ⟨_, rfl, _⟩ := h; rfl) | (obtain ⟨_, _, rfl, _⟩ := h; rfl) | (obtain ⟨_, _, _, rfl, _⟩ := h; rfl) | (obtain ⟨_, _, _, _, rfl, _⟩ := h; rfl) | (obtain ⟨_, _, _, _, _, rfl, _⟩ := h; rfl) | (obtain ⟨_, _, _, _, _, _, rfl, _⟩ := h; rfl) | (obtain ⟨_, _, _, _, _, _, _, rfl, _⟩ := h; rfl) | (obtain ⟨_, _, _, _, _, _, _, _, rfl, _⟩ := h; rfl)) (fun f cdv A outer s H E hr => ⟨_, (pss_one (ps_ret (pe_tup (pa_cons (pe_op op_mulI (pe_ix (ix_seqK K rfl) (pv 0) pe_int (fun _ _ => rfl)) (pe_ix (ix_seqK K rfl) (pv 1) pe_int (fun _ _ => rfl))) (pa_cons (pe_op op_mulI (pe_ix (ix_seqK K rfl) (pv 0) pe_int (fun _ _ => rfl)) (pe_ix (ix_seqK K rfl) (pv 1) pe_int (fun _ _ => rfl))) pa_nil))))), ?_⟩)
  intro nn B l Q h
  obtain ⟨x, y, p, q, b, c, rfl, ⟨n, m, rfl, hm, he, hn, hb⟩, ⟨i, j, rfl, hj, he', hi, hc⟩, hB, hC, h⟩ := h
  have s1 := sz_of hn hB
  have s2 := sz_of hb hB
  have s3 := sz_of hi hC
  have s4 := sz_of hc hC
  walk_at "g"
  refine h _ ⟨_, _, rfl, Int.mul_pos hm hj, ?_, ?_, ?_⟩
  · push_cast; rw [he, he']; grind
  · exact lt_prod hn hi
  · exact lt_prod hb hc

def S__law_below : List D → (D → Prop) → Prop := fun l K => ∃ x y p q b c, l = [x, y] ∧ LR b p x ∧ LR c q y ∧ b ≤ 4000 ∧ c ≤ 4000 ∧ K (.bl (decide (p < q)))
theorem ok__law_below (T : Tx K mg)  : Cal P w K mg base 1 "_law_below" ["x", "y"] (SpFam (CL K) S__law_below) := by
  refine cal_mkF (N := ["x", "y"]) T.g__law_below T.d__law_below sc__law_below (fun _ _ _ _ _ _ us hl => match us, hl with | [_, _], _ => rfl) (by intro l Q h; first | (obtain ⟨rfl, _⟩ := h; rfl) | (obtain ⟨_, rfl, _⟩ := h; rfl) | (obtain ⟨_, _, rfl, _⟩ := h; rfl) | (obtain ⟨_, _, _, rfl, _⟩ := h; rfl) | (obtain ⟨_, _, _, _, rfl, _⟩ := h; rfl) | (obtain ⟨_, _, _, _, _, rfl, _⟩ := h; rfl) | (obtain ⟨_, _, _, _, _, _, rfl, _⟩ := h; rfl) | (obtain ⟨_, _, _, _, _, _, _, rfl, _⟩ := h; rfl) | (obtain ⟨_, _, _, _, _, _, _, _, rfl, _⟩ := h; rfl)) (fun f cdv A outer s H E hr => ⟨_, (pss_one (ps_ret (pe_cmpR op_ltI (pe_op op_mulI (pe_ix (ix_seqK K rfl) (pv 0) pe_int (fun _ _ => rfl)) (pe_ix (ix_seqK K rfl) (pv 1) pe_int (fun _ _ => rfl))) (pe_op op_mulI (pe_ix (ix_seqK K rfl) (pv 1) pe_int (fun _ _ => rfl)) (pe_ix (ix_seqK K rfl) (pv 0) pe_int (fun _ _ => rfl))) (nomark _)))), ?_⟩)
  intro nn B l Q h
  obtain ⟨x, y, p, q, b, c, rfl, ⟨n, m, rfl, hm, he, hn, hb⟩, ⟨i, j, rfl, hj, he', hi, hc⟩, hB, hC, h⟩ := h
  have s1 := sz_of hn hB
  have s2 := sz_of hb hB
  have s3 := sz_of hi hC
  have s4 := sz_of hc hC
  walk_at "g"
  rw [decide_eq_decide.mpr (pair_lt hm hj he he')]
  exact h

def S__law_equal : List D → (D → Prop) → Prop := fun l K => ∃ x y p q b c, l = [x, y] ∧ LR b p x ∧ LR c q y ∧ b ≤ 4000 ∧ c ≤ 4000 ∧ K (.bl (decide (p = q)))
theorem ok__law_equal (T : Tx K mg)  : Cal P w K mg base 1 "_law_equal" ["x", "y"] (SpFam (CL K) S__law_equal) := by
  refine cal_mkF (N := ["x", "y"]) T.g__law_equal T.d__law_equal sc__law_equal (fun _ _ _ _ _ _ us hl => match us, hl with | [_, _], _ => rfl) (by intro l Q h; first | (obtain ⟨rfl, _⟩ := h; rfl) | (obtain ⟨_, rfl, _⟩ := h; rfl) | (obtain ⟨_, _, rfl, _⟩ := h; rfl) | (obtain ⟨_, _, _, rfl, _⟩ := h; rfl) | (obtain ⟨_, _, _, _, rfl, _⟩ := h; rfl) | (obtain ⟨_, _, _, _, _, rfl, _⟩ := h; rfl) | (obtain ⟨_, _, _, _, _, _, rfl, _⟩ := h; rfl) | (obtain ⟨_, _, _, _, _, _, _, rfl, _⟩ := h; rfl) | (obtain ⟨_, _, _, _, _, _, _, _, rfl, _⟩ := h; rfl)) (fun f cdv A outer s H E hr => ⟨_, (pss_one (ps_ret (pe_cmpR op_eq (pe_op op_mulI (pe_ix (ix_seqK K rfl) (pv 0) pe_int (fun _ _ => rfl)) (pe_ix (ix_seqK K rfl) (pv 1) pe_int (fun _ _ => rfl))) (pe_op op_mulI (pe_ix (ix_seqK K rfl) (pv 1) pe_int (fun _ _ => rfl)) (pe_ix (ix_seqK K rfl) (pv 0) pe_int (fun _ _ => rfl))) (nomark _)))), ?_⟩)
  intro nn B l Q h
  obtain ⟨x, y, p, q, b, c, rfl, ⟨n, m, rfl, hm, he, hn, hb⟩, ⟨i, j, rfl, hj, he', hi, hc⟩, hB, hC, h⟩ := h
  have s1 := sz_of hn hB
  have s2 := sz_of hb hB
  have s3 := sz_of hi hC
  have s4 := sz_of hc hC
  walk_at "g"
  rw [decide_eq_decide.mpr (pair_eq hm hj he he')]
  exact h

def S__law_greater : List D → (D → Prop) → Prop := fun l K => ∃ x y p q b c, l = [x, y] ∧ LR b p x ∧ LR c q y ∧ b ≤ 4000 ∧ c ≤ 4000 ∧ ∀ z, LR (max b c) (rmax p q) z → K z
theorem ok__law_greater (T : Tx K mg) (c__law_below : Cal P w K mg base 1 "_law_below" ["x", "y"] (SpFam (CL K) S__law_below)) : Cal P w K mg base 2 "_law_greater" ["x", "y"] (SpFam (CL K) S__law_greater) := by
  refine cal_mkF (N := ["x", "y"]) T.g__law_greater T.d__law_greater sc__law_greater (fun _ _ _ _ _ _ us hl => match us, hl with | [_, _], _ => rfl) (by intro l Q h; first | (obtain ⟨rfl, _⟩ := h; rfl) | (obtain ⟨_, rfl, _⟩ := h; rfl) | (obtain ⟨_, _, rfl, _⟩ := h; rfl) | (obtain ⟨_, _, _, rfl, _⟩ := h; rfl) | (obtain ⟨_, _, _, _, rfl, _⟩ := h; rfl) | (obtain ⟨_, _, _, _, _, rfl, _⟩ := h; rfl) | (obtain ⟨_, _, _, _, _, _, rfl, _⟩ := h; rfl) | (obtain ⟨_, _, _, _, _, _, _, rfl, _⟩ := h; rfl) | (obtain ⟨_, _, _, _, _, _, _, _, rfl, _⟩ := h; rfl)) (fun f cdv A outer s H E hr => ⟨_, (pss_cons (ps_if (pt_val (pe_calC c__law_below hr (by decide) (by rfl) (pa_cons (pv 0) (pa_cons (pv 1) pa_nil)))) (pss_one (ps_ret (pv 1))) pss_nil) (pss_one (ps_ret (pv 0)))), ?_⟩)
  intro nn B l Q h
  obtain ⟨x, y, p, q, b, c, rfl, hx, hy, hB, hC, h⟩ := h
  walk_at "g"
  refine ⟨_, _, _, _, _, _, rfl, hx, hy, hB, hC, ?_⟩
  walk_at "g"
  refine br_p (fun hp => ?_) (fun hp => ?_)
  · walk_at "g"
    refine h _ ?_
    unfold rmax; rw [if_pos hp]
    exact hy.mono (Nat.le_max_right _ _)
  · walk_at "g"
    refine h _ ?_
    unfold rmax; rw [if_neg hp]
    exact hx.mono (Nat.le_max_left _ _)

def S__law_pair : List D → (D → Prop) → Prop := fun l K => ∃ q, l = [.frac q] ∧ K (lowD q)
theorem ok__law_pair (T : Tx K mg) (c__law_gcd : Cal P w K mg base 1 "_law_gcd" ["one", "two"] (SpFam (CL K) S__law_gcd)) : Cal P w K mg base 2 "_law_pair" ["value"] (SpFam (CL K) S__law_pair) := by
  refine cal_mkF (N := ["value"]) T.g__law_pair T.d__law_pair sc__law_pair (fun _ _ _ _ _ _ us hl => match us, hl with | [_], _ => rfl) (by intro l Q h; first | (obtain ⟨rfl, _⟩ := h; rfl) | (obtain ⟨_, rfl, _⟩ := h; rfl) | (obtain ⟨_, _, rfl, _⟩ := h; rfl) | (obtain ⟨_, _, _, rfl, _⟩ := h; rfl) | (obtain ⟨_, _, _, _, rfl, _⟩ := h; rfl) | (obtain ⟨_, _, _, _, _, rfl, _⟩ := h; rfl) | (obtain ⟨_, _, _, _, _, _, rfl, _⟩ := h; rfl) | (obtain ⟨_, _, _, _, _, _, _, rfl, _⟩ := h; rfl) | (obtain ⟨_, _, _, _, _, _, _, _, rfl, _⟩ := h; rfl)) (fun f cdv A outer s H E hr => ⟨_, (pss_cons (ps_if (PW.pt (pw_or (pt_not (pt_val (pe_callB (cr_isK K rfl) (by rfl) T.b_isinstance (by decide +kernel) (pa_cons (pv 0) (pa_cons (pe_gcls T.g_Frac (by rfl)) pa_nil))))) (pw_or (pt_val (pe_callB (cr_isK K rfl) (by rfl) T.b_isinstance (by decide +kernel) (pa_cons (pe_fldK K rfl (pv 0) rfl) (pa_cons (pe_bltn (v := .ty "bool") (by rfl) T.b_bool (by decide +kernel) rfl) pa_nil)))) (pw_or1 (pt_val (pe_callB (cr_isK K rfl) (by rfl) T.b_isinstance (by decide +kernel) (pa_cons (pe_fldK K rfl (pv 0) rfl) (pa_cons (pe_bltn (v := .ty "bool") (by rfl) T.b_bool (by decide +kernel) rfl) pa_nil)))))))) (pss_one (ps_ret pe_non)) pss_nil) (pss_cons (ps_if (PW.pt (pw_or (pt_not (pt_val (pe_callB (cr_isK K rfl) (by rfl) T.b_isinstance (by decide +kernel) (pa_cons (pe_fldK K rfl (pv 0) rfl) (pa_cons (pe_bltn (v := .ty "int") (by rfl) T.b_int (by decide +kernel) rfl) pa_nil))))) (pw_or (pt_not (pt_val (pe_callB (cr_isK K rfl) (by rfl) T.b_isinstance (by decide +kernel) (pa_cons (pe_fldK K rfl (pv 0) rfl) (pa_cons (pe_bltn (v := .ty "int") (by rfl) T.b_int (by decide +kernel) rfl) pa_nil))))) (pw_or1 (pt_cmpR op_ltI (pe_fldK K rfl (pv 0) rfl) pe_int (nomark _)))))) (pss_one (ps_ret pe_non)) pss_nil) (pss_cons (ps_if (pt_cmpR op_ne (pe_calC c__law_gcd hr (by decide) (by rfl) (pa_cons (pe_fldK K rfl (pv 0) rfl) (pa_cons (pe_fldK K rfl (pv 0) rfl) pa_nil))) pe_int (nomark _)) (pss_one (ps_ret pe_non)) pss_nil) (pss_one (ps_ret (pe_tup (pa_cons (pe_fldK K rfl (pv 0) rfl) (pa_cons (pe_fldK K rfl (pv 0) rfl) pa_nil)))))))), ?_⟩)
  intro nn B l Q h
  obtain ⟨q, rfl, h⟩ := h
  refine sx_skip ?_ ?_
  · walk_at "g"
    refine ck_fr T (.frac q) ?_
    walk_at "g"
    refine ck_ty T (.int _) (.inr (.inl rfl)) ?_
    walk_at "g"
    refine ck_ty T (.int _) (.inr (.inl rfl)) ?_
    walk_at "g"
    rfl
  refine sx_skip ?_ ?_
  · walk_at "g"
    refine ck_ty T (.int _) (.inl rfl) ?_
    walk_at "g"
    refine ck_ty T (.int _) (.inl rfl) ?_
    walk_at "g"
    have := q.den_pos
    exact decide_eq_false (by omega)
  refine sx_skip ?_ ?_
  · walk_at "g"
    refine ⟨_, _, rfl, ?_⟩
    walk_at "g"
    have e : Nat.gcd q.num.natAbs ((q.den : Nat) : Int).natAbs = 1 := q.reduced
    rw [e]; rfl
  walk_at "g"
  exact h

def S__law_pairs : List D → (D → Prop) → Prop := fun l K => ∃ qs : List Rat, l = [.tup (qs.map .frac), .int (qs.length : Nat)] ∧ qs.length ≤ 1000 ∧ K (.lst (qs.map lowD))
theorem ok__law_pairs (T : Tx K mg) (c__law_pair : Cal P w K mg base 2 "_law_pair" ["value"] (SpFam (CL K) S__law_pair)) : Cal P w K mg base 3 "_law_pairs" ["values", "many"] (SpFam (CL K) S__law_pairs) := by
  refine cal_mkF (N := ["values", "many", "found", "value"]) T.g__law_pairs T.d__law_pairs sc__law_pairs (fun _ _ _ _ _ _ us hl => match us, hl with | [_, _], _ => rfl) (by intro l Q h; first | (obtain ⟨rfl, _⟩ := h; rfl) | (obtain ⟨_, rfl, _⟩ := h; rfl) | (obtain ⟨_, _, rfl, _⟩ := h; rfl) | (obtain ⟨_, _, _, rfl, _⟩ := h; rfl) | (obtain ⟨_, _, _, _, rfl, _⟩ := h; rfl) | (obtain ⟨_, _, _, _, _, rfl, _⟩ := h; rfl) | (obtain ⟨_, _, _, _, _, _, rfl, _⟩ := h; rfl) | (obtain ⟨_, _, _, _, _, _, _, rfl, _⟩ := h; rfl) | (obtain ⟨_, _, _, _, _, _, _, _, rfl, _⟩ := h; rfl)) (fun f cdv A outer s H E hr => ⟨_, (pss_cons (ps_if (PW.pt (pw_or (pt_not (pt_val (pe_callB (cr_isK K rfl) (by rfl) T.b_isinstance (by decide +kernel) (pa_cons (pv 0) (pa_cons (pe_bltn (v := .ty "tuple") (by rfl) T.b_tuple (by decide +kernel) rfl) pa_nil))))) (pw_or1 (pt_cmpR op_ne (pe_callB (cr_lenK K rfl) (by rfl) T.b_len PySem.boot_len (pa_cons (pv 0) pa_nil)) (pv 1) (nomark _))))) (pss_one (ps_ret pe_non)) pss_nil) (pss_cons (ps_setLc (i := 2) (own := [("value", 3)]) (g := gName 3) (tt := tYes) rfl sc__law_pairs.nd rfl rfl (sw_true rfl rfl rfl (by decide +kernel)) (pi_seqK K rfl (pv 0)) (blkOk_by (own := [("value", 3)]) (N := ["values", "many", "found", "value"]) (sc := defScope s__law_pairs) (by decide +kernel)) (fun _ _ _ _ _ => (pg_name (i := 3) sc__law_pairs.nd rfl (by first | exact Or.inl rfl | exact Or.inr rfl))) (fun _ _ _ _ _ => pts_nil) (fun _ _ _ _ _ => (pe_calC c__law_pair hr (by decide) (by rfl) (pa_cons (pv 3) pa_nil)))) (pss_cons (ps_if (pt_cmpR (op_nonIn (KK := K) rfl hr) pe_non (pv 2) (by rfl)) (pss_one (ps_ret pe_non)) pss_nil) (pss_one (ps_ret (pv 2)))))), ?_⟩)
  intro nn B l Q h
  obtain ⟨qs, rfl, hl, h⟩ := h
  refine sx_skip ?_ ?_
  · walk_at "g"
    refine ck_ty T (.tup _) (.inr (.inr (.inr (.inl rfl)))) ?_
    walk_at "g"
    simp
  walk_at "g"
  refine ⟨Rat, qs, .frac, lowD, rfl, Nat.le_of_lt (small1000 hl), fun W1 q hq => ?_, ?_⟩
  · walk_at "g"
    exact ⟨_, rfl, rfl⟩
  · refine sx_skip ?_ ?_
    · walk_at "g"
      have e : qs.map lowD = (qs.map fun q => (q.num, ((q.den : Nat) : Int))).map pairP := by rw [List.map_map]; rfl
      rw [e]
      exact rk_nonIn (by walk_at "g"; rfl)
    · walk_at "g"
      exact h

def S__law_is : List D → (D → Prop) → Prop := fun l K => ∃ q d r c, l = [.frac q, d] ∧ SzQ q ∧ LR c r d ∧ c ≤ 4000 ∧ K (.bl (decide (q = r)))
theorem ok__law_is (T : Tx K mg) (c__law_pair : Cal P w K mg base 2 "_law_pair" ["value"] (SpFam (CL K) S__law_pair)) (c__law_equal : Cal P w K mg base 1 "_law_equal" ["x", "y"] (SpFam (CL K) S__law_equal)) : Cal P w K mg base 3 "_law_is" ["value", "due"] (SpFam (CL K) S__law_is) := by
  refine cal_mkF (N := ["value", "due", "found"]) T.g__law_is T.d__law_is sc__law_is (fun _ _ _ _ _ _ us hl => match us, hl with | [_, _], _ => rfl) (by intro l Q h; first | (obtain ⟨rfl, _⟩ := h; rfl) | (obtain ⟨_, rfl, _⟩ := h; rfl) | (obtain ⟨_, _, rfl, _⟩ := h; rfl) | (obtain ⟨_, _, _, rfl, _⟩ := h; rfl) | (obtain ⟨_, _, _, _, rfl, _⟩ := h; rfl) | (obtain ⟨_, _, _, _, _, rfl, _⟩ := h; rfl) | (obtain ⟨_, _, _, _, _, _, rfl, _⟩ := h; rfl) | (obtain ⟨_, _, _, _, _, _, _, rfl, _⟩ := h; rfl) | (obtain ⟨_, _, _, _, _, _, _, _, rfl, _⟩ := h; rfl)) (fun f cdv A outer s H E hr => ⟨_, (pss_cons (ps_set (i := 2) sc__law_is.nd rfl (by first | exact Or.inl rfl | exact Or.inr rfl) (pe_calC c__law_pair hr (by decide) (by rfl) (pa_cons (pv 0) pa_nil))) (pss_one (ps_ret (pe_and (pe_cmpR op_notNon (pv 2) pe_non (nomark _)) (pe_one (pe_calC c__law_equal hr (by decide) (by rfl) (pa_cons (pv 2) (pa_cons (pv 1) pa_nil)))))))), ?_⟩)
  intro nn B l Q h
  obtain ⟨q, d, r, c, rfl, hq, hd, hc, h⟩ := h
  walk_at "g"
  refine ⟨_, rfl, ?_⟩
  walk_at "g"
  refine ⟨_, _, _, _, _, _, rfl, LR.lowS hq, hd, Nat.le_refl _, hc, ?_⟩
  exact h

end

end K
end

section
set_option maxRecDepth 100000
set_option maxHeartbeats 4000000
namespace K
open PySem PySem.Spec PyProof.Rows L2 G

/-- a cell of an offer as given, w its weight, q its worth -/
structure Cell where
  k : Kd
  x : D
  w : Int
  q : Rat
@[reducible] def Cell.d (c : Cell) : D := Kd.d c.k [.int c.w, c.x]
structure Cell.Ok (c : Cell) : Prop where
  a : AmtD c.x c.q
  w1 : 1 ≤ c.w
  w2 : c.w ≤ 99
  n0 : 0 ≤ c.q.num
  n1 : c.q.num ≤ 9999
  d1 : c.q.den ≤ 99
theorem rmax_pos {p q : Rat} (h : p < q) : rmax p q = q := if_pos h
theorem rmax_neg {p q : Rat} (h : ¬ p < q) : rmax p q = p := if_neg h
theorem kn_kd {k : Kd} {l : List D} : Kn (Kd.d k l) := by cases k <;> constructor
theorem isSeq_kd {k : Kd} {l : List D} : (Kd.d k l).isSeq = true := by cases k <;> rfl
theorem sum_take {xs : List Rat} {j : Nat} {x : Rat} (h : xs[j]? = some x) : (xs.take (j + 1)).sum = (xs.take j).sum + x := by
  rw [List.take_succ, h, List.sum_append]; simp [Rat.add_zero]
theorem nice_take {xs : List Rat} {k j : Nat} (h : ∀ x ∈ xs, Nice k x) (hl : xs.length ≤ 32) : Nice (k + 1) (xs.take j).sum :=
  Nice.sum (fun x hx => h x (List.mem_of_mem_take hx)) (Nat.le_trans (by rw [List.length_take]; omega) hl)
section
local macro_rules | `(tactic| walk_at "e") => `(tactic| first
  | ((with_reducible refine' ek_var ?h1 ?_); (case h1 => exact rfl))
  | (with_reducible refine ek_int ?_)
  | (with_reducible refine ek_bl ?_)
  | (with_reducible refine ek_non ?_)
  | (with_reducible refine ek_str ?_)
  | (with_reducible refine ek_ty ?_)
  | (with_reducible refine ek_cls ?_)
  | (with_reducible refine ek_ix ?_)
  | (with_reducible refine ek_un ?_)
  | (with_reducible refine ek_tup ?_)
  | (with_reducible refine k_call ?_)
  | (with_reducible refine ek_len ?_)
  | (with_reducible refine ek_tuple ?_)
  | (with_reducible refine ek_sum ?_)
  | (with_reducible refine ek_all ?_)
  | (with_reducible refine ek_any ?_)
  | (with_reducible refine ek_chain ?_)
  | (with_reducible refine ek_andV ?_)
  | (with_reducible refine ek_orV ?_)
  | (with_reducible refine ek_notV ?_)
  | (with_reducible refine ek_if ?_)
  | (with_reducible refine ek_ef (ef_lst ?_))
  | (with_reducible refine ek_ef (ef_list ?_))
  | (with_reducible refine ek_ef (ef_cat ?_))
  | (with_reducible refine ek_ef (ef_rep ?_))
  | (with_reducible refine ek_ef (ef_slice ?_))
  | (with_reducible refine ek_ef (ef_rev ?_))
  | (with_reducible refine ek_ef (ef_lstRev ?_))
  | (with_reducible refine ek_ef (ef_map ?_))
  | (with_reducible refine ek_ef (ef_filt ?_))
  | (with_reducible refine ef_lst ?_)
  | (with_reducible refine ef_list ?_)
  | (with_reducible refine ef_cat ?_)
  | (with_reducible refine ef_rep ?_)
  | (with_reducible refine ef_slice ?_)
  | (with_reducible refine ef_rev ?_)
  | (with_reducible refine ef_lstRev ?_)
  | (with_reducible refine ef_map ?_)
  | (with_reducible refine ef_filt ?_)
  | ((with_reducible refine' el_var ?h1 ?_); (case h1 => exact rfl))
  | ((with_reducible refine' el_own ?h1 ?_); (case h1 => exact rfl))
  | (with_reducible refine el_ef (ef_lst ?_))
  | (with_reducible refine el_ef (ef_list ?_))
  | (with_reducible refine el_ef (ef_cat ?_))
  | (with_reducible refine el_ef (ef_rep ?_))
  | (with_reducible refine el_ef (ef_slice ?_))
  | (with_reducible refine el_ef (ef_rev ?_))
  | (with_reducible refine el_ef (ef_lstRev ?_))
  | (with_reducible refine el_ef (ef_map ?_))
  | (with_reducible refine el_ef (ef_filt ?_))
  | (with_reducible refine ek_op ?_)
  | (with_reducible refine ek_cb ?_)
  | (with_reducible refine el_ek ?_)
  | (with_reducible refine tk_test ?_)
  | (with_reducible refine tk_B ?_)
  | (with_reducible refine tk_and ?_)
  | (with_reducible refine tk_or ?_)
  | (with_reducible refine tk_not ?_)
  | (with_reducible refine tk_yes ?_)
  | (with_reducible refine ak_nil ?_)
  | (with_reducible refine ak_cons ?_)
  | (with_reducible refine k_num (‹Tx _ _›) ?_)
  | (with_reducible refine k_den (‹Tx _ _›) ?_)
  | (with_reducible refine k_mk2 ?_)
  | (with_reducible refine k_mkO ?_)
  | (with_reducible refine k_rows (‹Tx _ _›) ?_)
  | (with_reducible refine k_mk1 ?_)
  | (with_reducible refine k_bel ?_)
  | (with_reducible refine k_own ?_)
  | (with_reducible refine rk_U2 (k_own ?_))
  | (with_reducible refine rk_mul (Sz.mul (by assumption) (by assumption)) ?_)
  | (with_reducible refine rk_U1 (rk_mul (Sz.mul (by assumption) (by assumption)) ?_))
  | (with_reducible refine ek_dget ?_)
  | (with_reducible refine uk_neg ?_)
  | (with_reducible refine ek_disp ?_)
  | (with_reducible refine pk_cons ?_)
  | (with_reducible refine pk_nil ?_)
  | (with_reducible refine rk_mod (by assumption) ?_)
  | (with_reducible refine rk_add ?_)
  | (with_reducible refine rk_sub ?_)
  | (with_reducible refine rk_lt ?_)
  | (with_reducible refine rk_le ?_)
  | (with_reducible refine rk_gt ?_)
  | (with_reducible refine rk_ge ?_)
  | (with_reducible refine rk_eqI ?_)
  | (with_reducible refine rk_neI ?_)
  | (with_reducible refine rk_isN ?_)
  | (with_reducible refine rk_notN ?_)
  | (with_reducible refine rk_U1 (rk_add ?_))
  | (with_reducible refine rk_U1 (rk_sub ?_))
  | (with_reducible refine ck_gcd ?_)
  | (with_reducible refine ck_abs ?_)
  | (with_reducible refine ck_int ?_)
  | (with_reducible refine ik_seq ?_)
  | (with_reducible refine ik_range1 ?_)
  | (with_reducible refine ik_range2 ?_)
  | (with_reducible refine ik_enumA ?_)
  | (with_reducible refine ik_zip ?_)
  | (with_reducible refine ik_rev ?_)
  | ((with_reducible refine' cg_name ?_ ?h1 ?h2); (case h1 => exact rfl); (case h2 => decide))
  | ((with_reducible refine' cg_anyT ?h1 ?_); (case h1 => exact rfl))
  | ((with_reducible refine' cg_anyL ?h1 ?_); (case h1 => exact rfl))
  | ((with_reducible refine' cg_anyK ?h1 ?_); (case h1 => exact rfl))
  | ((with_reducible refine' cgs_cons ?_ ?h1 ?h2); (case h1 => exact rfl); (case h2 => decide))
  | (with_reducible refine cgs_nil ?_)
  | ((with_reducible refine' gk_name ?_ ?h1); (case h1 => exact rfl))
  | ((with_reducible refine' gk_anyT ?h1 ?_); (case h1 => exact rfl))
  | ((with_reducible refine' gk_anyL ?h1 ?_); (case h1 => exact rfl))
  | ((with_reducible refine' gk_anyK ?h1 ?_); (case h1 => exact rfl))
  | ((with_reducible refine' gks_cons ?_ ?h1); (case h1 => exact rfl))
  | ((with_reducible refine' gks_consA (n := 0) ?_ ?h1 ?h2); (case h1 => exact rfl); (case h2 => exact rfl))
  | ((with_reducible refine' gks_consB ?h0 ?_ ?h1 ?h2); (case h0 => exact rfl); (case h1 => exact rfl); (case h2 => exact rfl))
  | (with_reducible refine gks_nil ?_)
  | (with_reducible refine ok_none ?_)
  | (with_reducible refine ok_some ?_))
local macro_rules | `(tactic| walk_at "s") => `(tactic| first
  | (with_reducible refine sx_guard ?_ ?_)
  | (with_reducible refine sx_seq ?_)
  | (with_reducible refine sx_ret ?_)
  | (with_reducible refine sx_if ?_)
  | (with_reducible refine sx_next ?_)
  | (with_reducible refine sx_break ?_)
  | (with_reducible refine sx_cont ?_)
  | ((with_reducible refine' sx_append ?h1 ?_); (case h1 => exact rfl))
  | ((with_reducible refine' sx_setI ?h1 ?_); (case h1 => exact rfl))
  | ((with_reducible refine' sx_set ?h1 ?_); (case h1 => exact rfl))
  | (with_reducible refine sx_asg ?_)
  | ((with_reducible refine' sx_par ?h1 ?h2 ?_); (case h1 => exact rfl); (case h2 => exact rfl))
  | (with_reducible refine sx_drop ?_)
  | ((with_reducible refine' k_fldS (‹Tx _ _›) ?h1 ?h2 ?h3 ?_); (case h1 => exact rfl); (case h2 => decide); (case h3 => exact rfl))
  | ((with_reducible refine' k_fldO (‹Tx _ _›) ?h1 ?h3 ?_); (case h1 => exact rfl); (case h3 => exact rfl)))
/-! plain existentials that the rules leave -/
local macro_rules | `(tactic| walk_at "x") => `(tactic| first
  | (with_reducible refine x_bl ?_)
  | (with_reducible refine x_int ?_)
  | (with_reducible refine x_frac ?_)
  | (with_reducible refine x_lst ?_)
  | (with_reducible refine x_off ?_)
  | (with_reducible refine x_low ?_)
  | (with_reducible refine x_ownR ?_)
  | (with_reducible refine x_ownA ?_)
  | (with_reducible refine x_tup ?_)
  | (with_reducible refine x_kd ?_)
  | (with_reducible refine x_oneL ?_)
  | (with_reducible refine x_oneT ?_)
  | (with_reducible refine x_one ?_)
  | ((with_reducible refine' x_at ?h1 ?_); (case h1 => exact rfl))
  | ((with_reducible refine' x_dic ?h1 ?_); (case h1 => exact rfl))
  | (with_reducible refine (⟨rfl, ?_⟩ : Kd.l = Kd.l ∧ _))
  | ((with_reducible refine' x_len ?h1 ?_); (case h1 => exact rfl))
  | ((with_reducible refine' br_t ?h1 ?_); (case h1 => exact rfl))
  | ((with_reducible refine' br_f ?h1 ?_); (case h1 => exact rfl)))
local macro_rules | `(tactic| walk_at "f") => `(tactic| first
  | ((with_reducible refine' sx_forW ?h1 ?_); (case h1 => exact rfl))
  | (with_reducible refine sx_forGW ?_))
local macro_rules | `(tactic| walk_at "g") => `(tactic| repeat (first | walk_at "s" | walk_at "f" | walk_at "e" | walk_at "x"))
local macro_rules | `(tactic| walk_at "v") => `(tactic| repeat (first | walk_at "e" | walk_at "x"))
local macro_rules | `(tactic| walk_at "h") => `(tactic| repeat (first | walk_at "s" | walk_at "e" | walk_at "x"))
variable {P : Program} {w : World} {K : PySem.W.Frag} {mg : Str → Option Value} {base : Heap}

def S_greatest_of : List D → (D → Prop) → Prop := fun l K => ∃ p ps, l = [.lst ((p :: ps).map .frac)] ∧ (∀ q ∈ p :: ps, SzQ q) ∧ K (.frac ((p :: ps).foldl rmax p))
theorem ok_greatest_of (T : Tx K mg) (c_Frac_is_below : CalT P w K mg base 1 (He.ga K "Frac") "is_below" (SpFam (CL K) S_Frac_is_below)) : Cal P w K mg base 2 "greatest_of" ["fracs"] (SpFam (CL K) S_greatest_of) := by
  refine cal_mkF (N := ["fracs", "found", "one"]) T.g_greatest_of T.d_greatest_of sc_greatest_of (fun _ _ _ _ _ _ us hl => match us, hl with | [_], _ => rfl) (by intro l Q h; first | (obtain ⟨rfl, _⟩ := h; rfl) | (obtain ⟨_, rfl, _⟩ := h; rfl) | (obtain ⟨_, _, rfl, _⟩ := h; rfl) | (obtain ⟨_, _, _, rfl, _⟩ := h; rfl) | (obtain ⟨_, _, _, _, rfl, _⟩ := h; rfl) | (obtain ⟨_, _, _, _, _, rfl, _⟩ := h; rfl) | (obtain ⟨_, _, _, _, _, _, rfl, _⟩ := h; rfl) | (obtain ⟨_, _, _, _, _, _, _, rfl, _⟩ := h; rfl) | (obtain ⟨_, _, _, _, _, _, _, _, rfl, _⟩ := h; rfl)) (fun f cdv A outer s H E hr => ⟨_, (pss_cons (ps_set (i := 1) sc_greatest_of.nd rfl (by first | exact Or.inl rfl | exact Or.inr rfl) (pe_ix (ix_seqK K rfl) (pv 0) pe_int (fun _ _ => rfl))) (pss_cons (ps_for PassesOwn.never rfl (pi_seqK K rfl (pv 0)) (pg_name (i := 2) sc_greatest_of.nd rfl (by first | exact Or.inl rfl | exact Or.inr rfl)) (pss_one (ps_if (pt_val (pe_mtC c_Frac_is_below hr (by decide) (pv 1) (pa_cons (pv 2) pa_nil))) (pss_one (ps_set (i := 1) sc_greatest_of.nd rfl (by first | exact Or.inl rfl | exact Or.inr rfl) (pv 2))) pss_nil))) (pss_one (ps_ret (pv 1))))), ?_⟩)
  intro nn B l Q h
  obtain ⟨p, ps, rfl, hs, h⟩ := h
  walk_at "g"
  refine x_at (x := .frac p) (atI_nat (i := 0) rfl) ?_
  walk_at "g"
  have key : ∀ j, SzQ (((p :: ps).take j).foldl rmax p) := by
    have : ∀ (xs : List Rat) (a : Rat), SzQ a → (∀ x ∈ xs, SzQ x) → SzQ (xs.foldl rmax a) := by
      intro xs
      induction xs with
      | nil => intro a h _; exact h
      | cons x xs ih => intro a h h2; exact ih _ (by unfold rmax; split; exact h2 x (List.mem_cons_self ..); exact h) fun y hy => h2 y (List.mem_cons_of_mem _ hy)
    intro j
    exact this _ _ (hs p List.mem_cons_self) fun x hx => hs x (List.mem_of_mem_take hx)
  refine ⟨Rat, p :: ps, .frac, fun j => [.d (.lst ((p :: ps).map .frac)), .d (.frac (((p :: ps).take j).foldl rmax p)), .no], rfl, Wk.refl, fun j => rfl, fun B' j x hx => ?_, fun Γ' w => sx_weak w ?_⟩
  · have e : ((p :: ps).take (j + 1)).foldl rmax p = rmax (((p :: ps).take j).foldl rmax p) x := by
      rw [List.take_succ, hx, List.foldl_append]; rfl
    walk_at "g"
    refine ⟨_, _, rfl, key j, hs x (List.mem_of_getElem? hx), ?_⟩
    walk_at "g"
    refine br_p (fun z => ?_) (fun z => ?_) <;> walk_at "g" <;> show Wk _ [_, .d (.frac (((p :: ps).take (j + 1)).foldl rmax p)), .no] <;> rw [e]
    · rw [rmax_pos z]; exact .same (.same (.no .nil))
    · rw [rmax_neg z]; exact .same (.same (.no .nil))
  · walk_at "g"
    rw [List.take_length]; exact h

def S_total : List D → (D → Prop) → Prop := fun l K => ∃ (xs : List Rat) (k : Nat), l = [.lst (xs.map .frac)] ∧ (∀ x ∈ xs, Nice k x) ∧ k ≤ 150 ∧ xs.length ≤ 32 ∧ K (.frac xs.sum)
theorem ok_total (T : Tx K mg) (m_Frac1 : CalM P w K mg base 2 "Frac" [.int 1] (SpFamI (CL K) (He.ga K "Frac") S_FracD_initD)) (o_add : CalO P w K mg base 4 (He.ga K "Frac") .Add (SpFam (CL K) S_FracD_addD)) : Cal P w K mg base 5 "total" ["fracs"] (SpFam (CL K) S_total) := by
  refine cal_mkF (N := ["fracs", "found", "one"]) T.g_total T.d_total sc_total (fun _ _ _ _ _ _ us hl => match us, hl with | [_], _ => rfl) (by intro l Q h; first | (obtain ⟨rfl, _⟩ := h; rfl) | (obtain ⟨_, rfl, _⟩ := h; rfl) | (obtain ⟨_, _, rfl, _⟩ := h; rfl) | (obtain ⟨_, _, _, rfl, _⟩ := h; rfl) | (obtain ⟨_, _, _, _, rfl, _⟩ := h; rfl) | (obtain ⟨_, _, _, _, _, rfl, _⟩ := h; rfl) | (obtain ⟨_, _, _, _, _, _, rfl, _⟩ := h; rfl) | (obtain ⟨_, _, _, _, _, _, _, rfl, _⟩ := h; rfl) | (obtain ⟨_, _, _, _, _, _, _, _, rfl, _⟩ := h; rfl)) (fun f cdv A outer s H E hr => ⟨_, (pss_cons (ps_set (i := 1) sc_total.nd rfl (by first | exact Or.inl rfl | exact Or.inr rfl) (pe_mkK K rfl m_Frac1 hr (by decide) (by rfl) (pa_cons pe_int pa_nil))) (pss_cons (ps_for PassesOwn.never rfl (pi_seqK K rfl (pv 0)) (pg_name (i := 2) sc_total.nd rfl (by first | exact Or.inl rfl | exact Or.inr rfl)) (pss_one (ps_set (i := 1) sc_total.nd rfl (by first | exact Or.inl rfl | exact Or.inr rfl) (pe_op (op_U op_addI (o_add.op hr (by decide))) (pv 1) (pv 2))))) (pss_one (ps_ret (pv 1))))), ?_⟩)
  intro nn B l Q h
  obtain ⟨xs, k, rfl, hs, hk, hl, h⟩ := h
  walk_at "g"
  refine ⟨_, _, rfl, by decide, by decide, 0, rfl, ?_⟩
  walk_at "g"
  refine ⟨Rat, xs, .frac, fun j => [.d (.lst (xs.map .frac)), .d (.frac (xs.take j).sum), .no], rfl, Wk.refl, fun j => rfl, fun B' j x hx => ?_, fun Γ' w => sx_weak w ?_⟩
  · walk_at "g"
    refine ⟨_, _, rfl, (nice_take hs hl).sz (by omega), (hs x (List.mem_of_getElem? hx)).sz (by omega), ?_⟩
    walk_at "g"
    show Wk _ [_, .d (.frac (xs.take (j + 1)).sum), .no]
    rw [sum_take hx]
    exact .same (.same (.no .nil))
  · walk_at "g"
    rw [List.take_length]; exact h

def S_is_shown : List D → (D → Prop) → Prop := fun l K => ∃ c : Cell, l = [c.d] ∧ c.Ok ∧ K (.bl true)
theorem ok_is_shown (T : Tx K mg) (c_is_sequence : Cal P w K mg base 1 "is_sequence" ["value"] (SpFam (CL K) S_is_sequence)) (c_is_between : Cal P w K mg base 2 "is_between" ["value", "least", "most"] (SpFam (CL K) S_is_between)) (c_is_amount : Cal P w K mg base 5 "is_amount" ["value"] (SpFam (CL K) S_is_amount)) (c_as_frac : Cal P w K mg base 4 "as_frac" ["value"] (SpFam (CL K) S_as_frac)) : Cal P w K mg base 6 "is_shown" ["value"] (SpFam (CL K) S_is_shown) := by
  refine cal_mkF (N := ["value"]) T.g_is_shown T.d_is_shown sc_is_shown (fun _ _ _ _ _ _ us hl => match us, hl with | [_], _ => rfl) (by intro l Q h; first | (obtain ⟨rfl, _⟩ := h; rfl) | (obtain ⟨_, rfl, _⟩ := h; rfl) | (obtain ⟨_, _, rfl, _⟩ := h; rfl) | (obtain ⟨_, _, _, rfl, _⟩ := h; rfl) | (obtain ⟨_, _, _, _, rfl, _⟩ := h; rfl) | (obtain ⟨_, _, _, _, _, rfl, _⟩ := h; rfl) | (obtain ⟨_, _, _, _, _, _, rfl, _⟩ := h; rfl) | (obtain ⟨_, _, _, _, _, _, _, rfl, _⟩ := h; rfl) | (obtain ⟨_, _, _, _, _, _, _, _, rfl, _⟩ := h; rfl)) (fun f cdv A outer s H E hr => ⟨_, (pss_cons (ps_if (PW.pt (pw_or (pt_not (pt_val (pe_calC c_is_sequence hr (by decide) (by rfl) (pa_cons (pv 0) pa_nil)))) (pw_or (pt_cmpR op_ne (pe_callB (cr_lenK K rfl) (by rfl) T.b_len PySem.boot_len (pa_cons (pv 0) pa_nil)) pe_int (nomark _)) (pw_or1 (pt_not (pt_val (pe_calC c_is_between hr (by decide) (by rfl) (pa_cons (pe_ix (ix_seqK K rfl) (pv 0) pe_int (fun _ _ => rfl)) (pa_cons pe_int (pa_cons (pe_gint T.i_MOST_SHOWN_WEIGHT (by rfl)) pa_nil)))))))))) (pss_one (ps_ret pe_bl)) pss_nil) (pss_one (ps_ret (pe_and (pe_calC c_is_amount hr (by decide) (by rfl) (pa_cons (pe_ix (ix_seqK K rfl) (pv 0) pe_int (fun _ _ => rfl)) pa_nil)) (pe_one (pe_cmpR op_geI (pe_fldK K rfl (pe_calC c_as_frac hr (by decide) (by rfl) (pa_cons (pe_ix (ix_seqK K rfl) (pv 0) pe_int (fun _ _ => rfl)) pa_nil)) rfl) pe_int (nomark _))))))), ?_⟩)
  intro nn B l Q h
  obtain ⟨⟨k, x, w, q⟩, rfl, ok, h⟩ := h
  have hx : AmtD x q := ok.a
  have h1 : 1 ≤ w := ok.w1
  have h2 : w ≤ 99 := ok.w2
  have h3 : 0 ≤ q.num := ok.n0
  refine sx_skip ?_ ?_
  · walk_at "g"
    refine ⟨_, rfl, kn_kd, ?_⟩
    walk_at "g"
    rw [isSeq_kd]
    walk_at "g"
    refine ⟨_, _, _, rfl, .int _, ?_⟩
    walk_at "g"
    simp [h1, h2]
  · walk_at "g"
    refine ⟨_, _, rfl, hx, by have := ok.n0; omega, ok.n1, ok.d1, ?_⟩
    walk_at "g"
    refine ⟨_, _, rfl, hx, ?_⟩
    walk_at "g"
    rw [decide_eq_true h3]
    exact h

def S_is_offer : List D → (D → Prop) → Prop := fun l K => ∃ (k : Kd) (cs : List Cell), l = [Kd.d k (cs.map Cell.d)] ∧ 1 ≤ cs.length ∧ cs.length ≤ 6 ∧ (∀ c ∈ cs, c.Ok) ∧ K (.bl true)
theorem ok_is_offer (T : Tx K mg) (c_is_sequence : Cal P w K mg base 1 "is_sequence" ["value"] (SpFam (CL K) S_is_sequence)) (c_is_shown : Cal P w K mg base 6 "is_shown" ["value"] (SpFam (CL K) S_is_shown)) : Cal P w K mg base 7 "is_offer" ["value"] (SpFam (CL K) S_is_offer) := by
  refine cal_mkF (N := ["value", "one"]) T.g_is_offer T.d_is_offer sc_is_offer (fun _ _ _ _ _ _ us hl => match us, hl with | [_], _ => rfl) (by intro l Q h; first | (obtain ⟨rfl, _⟩ := h; rfl) | (obtain ⟨_, rfl, _⟩ := h; rfl) | (obtain ⟨_, _, rfl, _⟩ := h; rfl) | (obtain ⟨_, _, _, rfl, _⟩ := h; rfl) | (obtain ⟨_, _, _, _, rfl, _⟩ := h; rfl) | (obtain ⟨_, _, _, _, _, rfl, _⟩ := h; rfl) | (obtain ⟨_, _, _, _, _, _, rfl, _⟩ := h; rfl) | (obtain ⟨_, _, _, _, _, _, _, rfl, _⟩ := h; rfl) | (obtain ⟨_, _, _, _, _, _, _, _, rfl, _⟩ := h; rfl)) (fun f cdv A outer s H E hr => ⟨_, (pss_one (ps_ret (pe_and (pe_calC c_is_sequence hr (by decide) (by rfl) (pa_cons (pv 0) pa_nil)) (pe_and (pe_chain op_leI op_leI pe_int (pe_callB (cr_lenK K rfl) (by rfl) T.b_len PySem.boot_len (pa_cons (pv 0) pa_nil)) (pe_gint T.i_MOST_SHOWN (by rfl))) (pe_one (pe_callB (cr_allK K rfl rfl) (by rfl) T.b_all (by decide +kernel) (pa_cons (pe_lc (own := [("one", 1)]) (g := gName 1) (tt := tYes) rfl sc_is_offer.nd (pi_seqK K rfl (pv 0)) (blkOk_by (own := [("one", 1)]) (N := ["value", "one"]) (sc := defScope s_is_offer) (by decide +kernel)) (fun _ _ _ _ _ => (pg_name (i := 1) sc_is_offer.nd rfl (by first | exact Or.inl rfl | exact Or.inr rfl))) (fun _ _ _ _ _ => pts_nil) (fun _ _ _ _ _ => (pe_calC c_is_shown hr (by decide) (by rfl) (pa_cons (pv 1) pa_nil)))) pa_nil))))))), ?_⟩)
  intro nn B l Q h
  obtain ⟨k, cs, rfl, h1, h2, hs, h⟩ := h
  walk_at "g"
  refine ⟨_, rfl, kn_kd, ?_⟩
  walk_at "g"
  rw [isSeq_kd]
  walk_at "g"
  refine br_p (fun _ => ?_) (fun z => absurd (by rw [List.length_map]; omega) z)
  walk_at "g"
  refine br_p (fun _ => ?_) (fun z => absurd (by rw [List.length_map]; omega) z)
  walk_at "g"
  refine ⟨Cell, cs, Cell.d, fun _ => .bl true, rfl, Nat.le_of_lt (small1000 (by omega)), fun W1 c hc => ?_, ?_⟩
  · walk_at "g"
    exact ⟨c, rfl, hs c hc, rfl⟩
  · refine ⟨rfl, cs.map fun _ => true, by rw [List.map_map]; rfl, ?_⟩
    rw [show (cs.map fun _ => true).all id = true by simp]
    exact h

end

end K
end

section
set_option maxRecDepth 100000
set_option maxHeartbeats 4000000
namespace K
open PySem PySem.Spec PyProof.Rows L2 G

theorem atL {g : Nat → Rat} {n i : Nat} {z : Int} (hz : z = (i : Nat)) (h : i < n) : atI (vecL g n) z = some (lowD (g i)) := by rw [hz]; exact atI_nat (vecL_at h)
theorem ixN_eq' {n i : Nat} {z : Int} (hz : z = (i : Nat)) (h : i < n) : ixN n z = some i := by
  subst hz
  unfold ixN
  rw [if_pos (by omega), if_pos (by omega)]; simp
theorem rng2' {i j : Int} {n : Nat} (hj : j = i + (n : Nat)) : rangeD i (j - i).toNat = (List.range n).map fun (k : Nat) => .int (i + (k : Int)) := by
  rw [show (j - i).toNat = n by omega]; rfl
theorem rng1' {n : Nat} : rangeD 0 ((n : Nat) : Int).toNat = (List.range n).map fun (k : Nat) => .int (k : Int) := by
  rw [show ((n : Nat) : Int).toNat = n by omega]
  unfold rangeD; congr 1; funext k; rw [Int.zero_add]
theorem rng_get' {n j x : Nat} (h : (List.range n)[j]? = some x) : x = j ∧ j < n := by
  have h1 := List.getElem?_eq_some_iff.mp h
  obtain ⟨h1, h2⟩ := h1
  rw [List.length_range] at h1
  rw [List.getElem_range] at h2
  exact ⟨h2.symm, h1⟩
theorem sum_take' {xs : List Rat} {j : Nat} {x : Rat} (h : xs[j]? = some x) : (xs.take (j + 1)).sum = (xs.take j).sum + x := by
  rw [List.take_succ, h, List.sum_append]; simp [Rat.add_zero]
theorem rep_zero {n : Nat} : (List.replicate (((n : Nat) : Int).toNat) [D.tup [.int 0, .int 1]]).flatten = vecL (fun _ => 0) n := by
  rw [show ((n : Nat) : Int).toNat = n by omega]
  induction n with
  | zero => rfl
  | succ n ih => rw [vecL_succ, ← ih, List.replicate_succ', List.flatten_append]; rfl
theorem x_ownR {r : ORow} {p : D → Prop} (h : p (.lst (r.map fun p => .lst [.int p.1, lowD p.2]))) : ∃ l y, ownD r = .dic l ∧ valD l (.inr "rows") = some y ∧ p y := ⟨_, _, rfl, rfl, h⟩
theorem x_ownA {r : ORow} {p : D → Prop} (h : p (.int (whole r))) : ∃ l y, ownD r = .dic l ∧ valD l (.inr "all") = some y ∧ p y := ⟨_, _, rfl, rfl, h⟩
theorem LR.zero : LR (1 + 638 * 0) 0 (.tup [.int 0, .int 1]) := ⟨0, 1, rfl, by decide, by simp, by decide, by decide⟩
/-- a weight over the whole -/
theorem LR.share {r : ORow} (h : RowOk r) {p : Int × Rat} (hp : p ∈ r) : LR 10 (share r p.1) (.tup [.int p.1, .int (whole r)]) := by
  have h1 := h.whole_pos
  have h2 := h.whole_le
  have h3 := h.w1 p hp
  have h4 := h.w2 p hp
  refine ⟨_, _, rfl, h1, ?_, Nat.lt_of_le_of_lt (show p.1.natAbs ≤ 99 by omega) (by decide), Nat.lt_of_le_of_lt (show (whole r).natAbs ≤ 594 by omega) (by decide)⟩
  unfold G.share
  rw [Rat.divInt_eq_div]
  have : (0 : Rat) < (whole r : Rat) := Rat.intCast_pos.mpr h1
  grind
theorem tabL_at {f : Nat → List D} {m i : Nat} {z : Int} (hz : z = (i : Nat)) (h : i < m) : atI ((List.range m).map fun i => D.lst (f i)) z = some (.lst (f i)) := by
  rw [hz]; exact atI_nat (by simp [h])
def tabL (rs : List ORow) (n : Nat) : D := .lst ((List.range (rs.length + 1)).map fun i => .lst (vecL (TT (rs.drop i)) (n + 1)))
section
local macro_rules | `(tactic| walk_at "e") => `(tactic| first
  | ((with_reducible refine' ek_var ?h1 ?_); (case h1 => exact rfl))
  | (with_reducible refine ek_int ?_)
  | (with_reducible refine ek_bl ?_)
  | (with_reducible refine ek_non ?_)
  | (with_reducible refine ek_str ?_)
  | (with_reducible refine ek_ty ?_)
  | (with_reducible refine ek_cls ?_)
  | (with_reducible refine ek_ix ?_)
  | (with_reducible refine ek_un ?_)
  | (with_reducible refine ek_tup ?_)
  | (with_reducible refine k_call ?_)
  | (with_reducible refine ek_len ?_)
  | (with_reducible refine ek_tuple ?_)
  | (with_reducible refine ek_sum ?_)
  | (with_reducible refine ek_all ?_)
  | (with_reducible refine ek_any ?_)
  | (with_reducible refine ek_chain ?_)
  | (with_reducible refine ek_andV ?_)
  | (with_reducible refine ek_orV ?_)
  | (with_reducible refine ek_notV ?_)
  | (with_reducible refine ek_if ?_)
  | (with_reducible refine ek_ef (ef_lst ?_))
  | (with_reducible refine ek_ef (ef_list ?_))
  | (with_reducible refine ek_ef (ef_cat ?_))
  | (with_reducible refine ek_ef (ef_rep ?_))
  | (with_reducible refine ek_ef (ef_slice ?_))
  | (with_reducible refine ek_ef (ef_rev ?_))
  | (with_reducible refine ek_ef (ef_lstRev ?_))
  | (with_reducible refine ek_ef (ef_map ?_))
  | (with_reducible refine ek_ef (ef_filt ?_))
  | (with_reducible refine ef_lst ?_)
  | (with_reducible refine ef_list ?_)
  | (with_reducible refine ef_cat ?_)
  | (with_reducible refine ef_rep ?_)
  | (with_reducible refine ef_slice ?_)
  | (with_reducible refine ef_rev ?_)
  | (with_reducible refine ef_lstRev ?_)
  | (with_reducible refine ef_map ?_)
  | (with_reducible refine ef_filt ?_)
  | ((with_reducible refine' el_var ?h1 ?_); (case h1 => exact rfl))
  | ((with_reducible refine' el_own ?h1 ?_); (case h1 => exact rfl))
  | (with_reducible refine el_ef (ef_lst ?_))
  | (with_reducible refine el_ef (ef_list ?_))
  | (with_reducible refine el_ef (ef_cat ?_))
  | (with_reducible refine el_ef (ef_rep ?_))
  | (with_reducible refine el_ef (ef_slice ?_))
  | (with_reducible refine el_ef (ef_rev ?_))
  | (with_reducible refine el_ef (ef_lstRev ?_))
  | (with_reducible refine el_ef (ef_map ?_))
  | (with_reducible refine el_ef (ef_filt ?_))
  | (with_reducible refine ek_op ?_)
  | (with_reducible refine ek_cb ?_)
  | (with_reducible refine el_ek ?_)
  | (with_reducible refine tk_test ?_)
  | (with_reducible refine tk_B ?_)
  | (with_reducible refine tk_and ?_)
  | (with_reducible refine tk_or ?_)
  | (with_reducible refine tk_not ?_)
  | (with_reducible refine tk_yes ?_)
  | (with_reducible refine ak_nil ?_)
  | (with_reducible refine ak_cons ?_)
  | (with_reducible refine k_num (‹Tx _ _›) ?_)
  | (with_reducible refine k_den (‹Tx _ _›) ?_)
  | (with_reducible refine k_mk2 ?_)
  | (with_reducible refine k_mkO ?_)
  | (with_reducible refine k_rows (‹Tx _ _›) ?_)
  | (with_reducible refine k_mk1 ?_)
  | (with_reducible refine k_bel ?_)
  | (with_reducible refine k_own ?_)
  | (with_reducible refine rk_U2 (k_own ?_))
  | (with_reducible refine rk_mul (Sz.mul (by assumption) (by assumption)) ?_)
  | (with_reducible refine rk_U1 (rk_mul (Sz.mul (by assumption) (by assumption)) ?_))
  | (with_reducible refine ek_dget ?_)
  | (with_reducible refine uk_neg ?_)
  | (with_reducible refine ek_disp ?_)
  | (with_reducible refine pk_cons ?_)
  | (with_reducible refine pk_nil ?_)
  | (with_reducible refine rk_mod (by assumption) ?_)
  | (with_reducible refine rk_add ?_)
  | (with_reducible refine rk_sub ?_)
  | (with_reducible refine rk_lt ?_)
  | (with_reducible refine rk_le ?_)
  | (with_reducible refine rk_gt ?_)
  | (with_reducible refine rk_ge ?_)
  | (with_reducible refine rk_eqI ?_)
  | (with_reducible refine rk_neI ?_)
  | (with_reducible refine rk_isN ?_)
  | (with_reducible refine rk_notN ?_)
  | (with_reducible refine rk_U1 (rk_add ?_))
  | (with_reducible refine rk_U1 (rk_sub ?_))
  | (with_reducible refine ck_gcd ?_)
  | (with_reducible refine ck_abs ?_)
  | (with_reducible refine ck_int ?_)
  | (with_reducible refine ik_seq ?_)
  | (with_reducible refine ik_range1 ?_)
  | (with_reducible refine ik_range2 ?_)
  | (with_reducible refine ik_enumA ?_)
  | (with_reducible refine ik_zip ?_)
  | (with_reducible refine ik_rev ?_)
  | ((with_reducible refine' cg_name ?_ ?h1 ?h2); (case h1 => exact rfl); (case h2 => decide))
  | ((with_reducible refine' cg_anyT ?h1 ?_); (case h1 => exact rfl))
  | ((with_reducible refine' cg_anyL ?h1 ?_); (case h1 => exact rfl))
  | ((with_reducible refine' cg_anyK ?h1 ?_); (case h1 => exact rfl))
  | ((with_reducible refine' cgs_cons ?_ ?h1 ?h2); (case h1 => exact rfl); (case h2 => decide))
  | (with_reducible refine cgs_nil ?_)
  | ((with_reducible refine' gk_name ?_ ?h1); (case h1 => exact rfl))
  | ((with_reducible refine' gk_anyT ?h1 ?_); (case h1 => exact rfl))
  | ((with_reducible refine' gk_anyL ?h1 ?_); (case h1 => exact rfl))
  | ((with_reducible refine' gk_anyK ?h1 ?_); (case h1 => exact rfl))
  | ((with_reducible refine' gks_cons ?_ ?h1); (case h1 => exact rfl))
  | ((with_reducible refine' gks_consA (n := 0) ?_ ?h1 ?h2); (case h1 => exact rfl); (case h2 => exact rfl))
  | ((with_reducible refine' gks_consB ?h0 ?_ ?h1 ?h2); (case h0 => exact rfl); (case h1 => exact rfl); (case h2 => exact rfl))
  | (with_reducible refine gks_nil ?_)
  | (with_reducible refine ok_none ?_)
  | (with_reducible refine ok_some ?_))
local macro_rules | `(tactic| walk_at "s") => `(tactic| first
  | (with_reducible refine sx_guard ?_ ?_)
  | (with_reducible refine sx_seq ?_)
  | (with_reducible refine sx_ret ?_)
  | (with_reducible refine sx_if ?_)
  | (with_reducible refine sx_next ?_)
  | (with_reducible refine sx_break ?_)
  | (with_reducible refine sx_cont ?_)
  | ((with_reducible refine' sx_append ?h1 ?_); (case h1 => exact rfl))
  | ((with_reducible refine' sx_setI ?h1 ?_); (case h1 => exact rfl))
  | ((with_reducible refine' sx_set ?h1 ?_); (case h1 => exact rfl))
  | (with_reducible refine sx_asg ?_)
  | ((with_reducible refine' sx_par ?h1 ?h2 ?_); (case h1 => exact rfl); (case h2 => exact rfl))
  | (with_reducible refine sx_drop ?_)
  | ((with_reducible refine' k_fldS (‹Tx _ _›) ?h1 ?h2 ?h3 ?_); (case h1 => exact rfl); (case h2 => decide); (case h3 => exact rfl))
  | ((with_reducible refine' k_fldO (‹Tx _ _›) ?h1 ?h3 ?_); (case h1 => exact rfl); (case h3 => exact rfl)))
/-! plain existentials that the rules leave -/
local macro_rules | `(tactic| walk_at "x") => `(tactic| first
  | (with_reducible refine x_bl ?_)
  | (with_reducible refine x_int ?_)
  | (with_reducible refine x_frac ?_)
  | (with_reducible refine x_lst ?_)
  | (with_reducible refine x_off ?_)
  | (with_reducible refine x_low ?_)
  | (with_reducible refine x_ownR ?_)
  | (with_reducible refine x_ownA ?_)
  | (with_reducible refine x_tup ?_)
  | (with_reducible refine x_kd ?_)
  | (with_reducible refine x_oneL ?_)
  | (with_reducible refine x_oneT ?_)
  | (with_reducible refine x_one ?_)
  | ((with_reducible refine' x_at ?h1 ?_); (case h1 => exact rfl))
  | ((with_reducible refine' x_dic ?h1 ?_); (case h1 => exact rfl))
  | (with_reducible refine (⟨rfl, ?_⟩ : Kd.l = Kd.l ∧ _))
  | ((with_reducible refine' x_len ?h1 ?_); (case h1 => exact rfl))
  | ((with_reducible refine' br_t ?h1 ?_); (case h1 => exact rfl))
  | ((with_reducible refine' br_f ?h1 ?_); (case h1 => exact rfl)))
local macro_rules | `(tactic| walk_at "f") => `(tactic| first
  | ((with_reducible refine' sx_forW ?h1 ?_); (case h1 => exact rfl))
  | (with_reducible refine sx_forGW ?_))
local macro_rules | `(tactic| walk_at "g") => `(tactic| repeat (first | walk_at "s" | walk_at "f" | walk_at "e" | walk_at "x"))
local macro_rules | `(tactic| walk_at "v") => `(tactic| repeat (first | walk_at "e" | walk_at "x"))
local macro_rules | `(tactic| walk_at "h") => `(tactic| repeat (first | walk_at "s" | walk_at "e" | walk_at "x"))
variable {P : Program} {w : World} {K : PySem.W.Frag} {mg : Str → Option Value} {base : Heap}

def S__law_turns : List D → (D → Prop) → Prop := fun l K => ∃ (rs : List ORow) (n : Nat), l = [.lst (rs.map ownD), .int (n : Nat)] ∧ (∀ r ∈ rs, RowOk r) ∧ rs.length ≤ 8 ∧ n ≤ 31 ∧ K (tabL rs n)
theorem ok__law_turns (T : Tx K mg) (c__law_greater : Cal P w K mg base 2 "_law_greater" ["x", "y"] (SpFam (CL K) S__law_greater)) (c__law_plus : Cal P w K mg base 1 "_law_plus" ["x", "y"] (SpFam (CL K) S__law_plus)) (c__law_times : Cal P w K mg base 1 "_law_times" ["x", "y"] (SpFam (CL K) S__law_times)) (c__law_low : Cal P w K mg base 2 "_law_low" ["x"] (SpFam (CL K) S__law_low)) : Cal P w K mg base 3 "_law_turns" ["offers", "many"] (SpFam (CL K) S__law_turns) := by
  refine cal_mkF (N := ["offers", "many", "rows", "offer", "ahead", "fresh", "left", "total_v", "weight", "worth", "best"]) T.g__law_turns T.d__law_turns sc__law_turns (fun _ _ _ _ _ _ us hl => match us, hl with | [_, _], _ => rfl) (by intro l Q h; first | (obtain ⟨rfl, _⟩ := h; rfl) | (obtain ⟨_, rfl, _⟩ := h; rfl) | (obtain ⟨_, _, rfl, _⟩ := h; rfl) | (obtain ⟨_, _, _, rfl, _⟩ := h; rfl) | (obtain ⟨_, _, _, _, rfl, _⟩ := h; rfl) | (obtain ⟨_, _, _, _, _, rfl, _⟩ := h; rfl) | (obtain ⟨_, _, _, _, _, _, rfl, _⟩ := h; rfl) | (obtain ⟨_, _, _, _, _, _, _, rfl, _⟩ := h; rfl) | (obtain ⟨_, _, _, _, _, _, _, _, rfl, _⟩ := h; rfl)) (fun f cdv A outer s H E hr => ⟨_, (pss_cons (ps_set (i := 2) sc__law_turns.nd rfl (by first | exact Or.inl rfl | exact Or.inr rfl) (pe_lst (pa_cons (pe_op op_rep (pe_lst (pa_cons (pe_tup (pa_cons pe_int (pa_cons pe_int pa_nil))) pa_nil)) (pe_op op_addI (pv 1) pe_int)) pa_nil))) (pss_cons (ps_for PassesOwn.never rfl (pi_seqK K rfl (pe_revK K rfl (pv 0))) (pg_name (i := 3) sc__law_turns.nd rfl (by first | exact Or.inl rfl | exact Or.inr rfl)) (pss_cons (ps_set (i := 4) sc__law_turns.nd rfl (by first | exact Or.inl rfl | exact Or.inr rfl) (pe_ix (ix_seqK K rfl) (pv 2) pe_int (fun _ _ => rfl))) (pss_cons (ps_set (i := 5) sc__law_turns.nd rfl (by first | exact Or.inl rfl | exact Or.inr rfl) (pe_lst (pa_cons (pe_tup (pa_cons pe_int (pa_cons pe_int pa_nil))) pa_nil))) (pss_cons (ps_for PassesOwn.never rfl (pi_range2 (by rfl) T.b_range (pa_cons pe_int (pa_cons (pe_op op_addI (pv 1) pe_int) pa_nil))) (pg_name (i := 6) sc__law_turns.nd rfl (by first | exact Or.inl rfl | exact Or.inr rfl)) (pss_cons (ps_set (i := 7) sc__law_turns.nd rfl (by first | exact Or.inl rfl | exact Or.inr rfl) (pe_tup (pa_cons pe_int (pa_cons pe_int pa_nil)))) (pss_cons (ps_for PassesOwn.never rfl (pi_seqK K rfl (pe_dget (hu_of hr) (pv 3) pe_str (fun _ _ => rfl))) (pg_anyK K rfl rfl (pgs_cons (pg_name (i := 8) sc__law_turns.nd rfl (by first | exact Or.inl rfl | exact Or.inr rfl)) (pgs_cons (pg_name (i := 9) sc__law_turns.nd rfl (by first | exact Or.inl rfl | exact Or.inr rfl)) pgs_nil))) (pss_cons (ps_set (i := 10) sc__law_turns.nd rfl (by first | exact Or.inl rfl | exact Or.inr rfl) (pe_calC c__law_greater hr (by decide) (by rfl) (pa_cons (pe_calC c__law_plus hr (by decide) (by rfl) (pa_cons (pv 9) (pa_cons (pe_ix (ix_seqK K rfl) (pv 4) (pe_op op_subI (pv 6) pe_int) (fun _ _ => rfl)) pa_nil))) (pa_cons (pe_ix (ix_seqK K rfl) (pv 4) (pv 6) (fun _ _ => rfl)) pa_nil)))) (pss_one (ps_set (i := 7) sc__law_turns.nd rfl (by first | exact Or.inl rfl | exact Or.inr rfl) (pe_calC c__law_plus hr (by decide) (by rfl) (pa_cons (pv 7) (pa_cons (pe_calC c__law_times hr (by decide) (by rfl) (pa_cons (pe_tup (pa_cons (pv 8) (pa_cons (pe_dget (hu_of hr) (pv 3) pe_str (fun _ _ => rfl)) pa_nil))) (pa_cons (pv 10) pa_nil))) pa_nil))))))) (pss_one (ps_expr (pe_bm PySem.F.plainAttrs_list PySem.F.slot_list_append PySem.F.type_list_append mt_append (pv 5) (pa_cons (pe_calC c__law_low hr (by decide) (by rfl) (pa_cons (pv 7) pa_nil)) pa_nil))))))) (pss_one (ps_set (i := 2) sc__law_turns.nd rfl (by first | exact Or.inl rfl | exact Or.inr rfl) (pe_op op_cat (pe_lst (pa_cons (pv 5) pa_nil)) (pv 2)))))))) (pss_one (ps_ret (pv 2))))), ?_⟩)
  intro nn B l Q h
  obtain ⟨rs, n, rfl, ok, hr, hn, h⟩ := h
  walk_at "g"
  refine ⟨by omega, by omega, Nat.le_of_lt (small1000 (by simp; omega)), ?_⟩
  rw [show ((n : Int) + 1).toNat = (((n + 1 : Nat) : Int)).toNat by omega, rep_zero]
  walk_at "g"
  have e0 : (rs.map ownD).reverse = rs.reverse.map ownD := by rw [List.map_reverse]
  rw [e0]
  refine ⟨ORow, rs.reverse, ownD, fun j => [.d (.lst (rs.map ownD)), .d (.int (n : Nat)), .d (.lst ((List.range (j + 1)).map fun i => .lst (vecL (TT (rs.drop (rs.length - j + i))) (n + 1)))), .no, .no, .no, .no, .no, .no, .no, .no], rfl, ?_, fun j => rfl, fun B' j r hx => ?_, fun Γ' w => sx_weak w ?_⟩
  · have e1 : vecL (fun _ => 0) (n + 1) = vecL (TT (rs.drop (rs.length - 0 + 0))) (n + 1) := by
      rw [show rs.length - 0 + 0 = rs.length by omega, List.drop_length]; rfl
    rw [e1]
    exact Wk.refl
  · have hj : j < rs.length := by
      have := (List.getElem?_eq_some_iff.mp hx).1
      rwa [List.length_reverse] at this
    have hx' : rs[rs.length - 1 - j]? = some r := by rw [← hx, List.getElem?_reverse hj]
    have okr : RowOk r := ok r (by have := List.mem_of_getElem? hx; simpa using this)
    have hl := okr.len
    have ng := TT_nice ok (rs.length - j)
    walk_at "h"
    refine x_at (tabL_at (f := fun i => vecL (TT (rs.drop (rs.length - j + i))) (n + 1)) (i := 0) rfl (by omega)) ?_
    refine sx_seq ?_
    refine' sx_setO ?h1 ?_
    case h1 => exact rfl
    walk_at "g"
    refine ⟨1, (n : Int) + 1, rfl, ⟨by decide, by decide, by omega, by omega⟩, ?_⟩
    refine ⟨Nat, List.range n, _, fun l => [.d (.lst (rs.map ownD)), .d (.int (n : Nat)), .d (.lst ((List.range (j + 1)).map fun i => .lst (vecL (TT (rs.drop (rs.length - j + i))) (n + 1)))), .d (ownD r), .d (.lst (vecL (TT (rs.drop (rs.length - j))) (n + 1))), .own (vecL (rowB r (TT (rs.drop (rs.length - j)))) (l + 1)), .no, .no, .no, .no, .no], rng2' (by omega), Wk.refl, fun j => rfl, fun B' l x hx => ?_, fun Γ' w => sx_weak w ?_⟩
    · obtain ⟨rfl, hxn⟩ := rng_get' hx
      have n1 := ng x
      have n2 := ng (x + 1)
      walk_at "h"
      refine sx_forGS ?_
      walk_at "h"
      refine ⟨Int × Rat, r, _, D, fun i z => [.d (.lst (rs.map ownD)), .d (.int (n : Nat)), .d (.lst ((List.range (j + 1)).map fun i => .lst (vecL (TT (rs.drop (rs.length - j + i))) (n + 1)))), .d (ownD r), .d (.lst (vecL (TT (rs.drop (rs.length - j))) (n + 1))), .own (vecL (rowB r (TT (rs.drop (rs.length - j)))) (x + 1)), .d (.int (1 + (x : Int))), .d z, .no, .no, .no],
        fun i z => LR (1 + 638 * i) (((r.map fun p => share r p.1 * rmax (p.2 + TT (rs.drop (rs.length - j)) x) (TT (rs.drop (rs.length - j)) (x + 1))).take i).sum) z, rfl, ⟨_, LR.zero, Wk.refl⟩, fun B'' i p z hp hz => ?_, fun Γ' z hz w => sx_weak w ?_⟩
      · have hp' := List.mem_of_getElem? hp
        have hi := (List.getElem?_eq_some_iff.mp hp).1
        have n3 := okr.n p hp'
        walk_at "h"
        refine x_at (atL (i := x) (by omega) (by omega)) ?_
        walk_at "h"
        refine ⟨_, _, _, _, _, _, rfl, LR.low n3, LR.low n1, by omega, by omega, fun z1 hz1 => ?_⟩
        walk_at "h"
        refine x_at (atL (i := x + 1) (by omega) (by omega)) ?_
        walk_at "h"
        refine ⟨_, _, _, _, _, _, rfl, hz1, LR.low n2, by omega, by omega, fun z2 hz2 => ?_⟩
        walk_at "h"
        refine ⟨_, _, _, _, _, _, rfl, LR.share okr hp', hz2, by omega, by omega, fun z3 hz3 => ?_⟩
        walk_at "h"
        refine ⟨_, _, _, _, _, _, rfl, hz, hz3, by omega, by omega, fun z4 hz4 => ?_⟩
        walk_at "h"
        refine ⟨z4, ?_, .same (.same (.same (.same (.same (.same (.same (.same (.no (.no (.no .nil))))))))))⟩
        dsimp only
        rw [sum_take' (x := share r p.1 * rmax (p.2 + TT (rs.drop (rs.length - j)) x) (TT (rs.drop (rs.length - j)) (x + 1))) (by rw [List.getElem?_map, hp]; rfl)]
        exact LR.mono hz4 (by omega)
      · dsimp only at hz
        rw [List.take_of_length_le (by rw [List.length_map]; omega)] at hz
        walk_at "h"
        refine ⟨_, _, _, rfl, hz, by omega, ?_⟩
        refine ⟨small1000 (by rw [vecL_len]; omega), ?_⟩
        show Wk _ [_, _, _, _, _, .own (vecL (rowB r (TT (rs.drop (rs.length - j)))) (x + 1 + 1)), .no, .no, .no, .no, .no]
        rw [vecL_succ (n := x + 1)]
        exact .same (.same (.same (.same (.same (.same (.no (.no (.no (.no (.no .nil))))))))))
    · dsimp only
      rw [List.length_range]
      refine sx_freeze 5 rfl ?_
      walk_at "h"
      refine ⟨Nat.le_of_lt (small1000 (by simp; omega)), ?_⟩
      show Wk _ [_, _, .d (.lst ((List.range (j + 1 + 1)).map fun i => .lst (vecL (TT (rs.drop (rs.length - (j + 1) + i))) (n + 1)))), .no, .no, .no, .no, .no, .no, .no, .no]
      have e2 : TT (rs.drop (rs.length - (j + 1) + 0)) = rowB r (TT (rs.drop (rs.length - j))) := by
        rw [TT_drop (by omega), rowAt_of (by rw [← hx']; congr 1; omega), show rs.length - (j + 1) + 0 + 1 = rs.length - j by omega]
      have e3 : (List.range (j + 1 + 1)).map (fun i => D.lst (vecL (TT (rs.drop (rs.length - (j + 1) + i))) (n + 1))) = [D.lst (vecL (rowB r (TT (rs.drop (rs.length - j)))) (n + 1))] ++ (List.range (j + 1)).map fun i => D.lst (vecL (TT (rs.drop (rs.length - j + i))) (n + 1)) := by
        rw [List.range_succ_eq_map, List.map_cons, List.map_map, e2]
        show _ :: _ = _ :: _
        congr 1
        apply List.map_congr_left
        intro i _
        show D.lst (vecL (TT (rs.drop (rs.length - (j + 1) + (i + 1)))) (n + 1)) = _
        rw [show rs.length - (j + 1) + (i + 1) = rs.length - j + i by omega]
      rw [e3]
      exact .same (.same (.same (.no (.no (.no (.no (.no (.no (.no (.no .nil))))))))))
  · dsimp only
    rw [List.length_reverse]
    walk_at "g"
    have e4 : (List.range (rs.length + 1)).map (fun i => D.lst (vecL (TT (rs.drop (rs.length - rs.length + i))) (n + 1))) = (List.range (rs.length + 1)).map fun i => D.lst (vecL (TT (rs.drop i)) (n + 1)) := by
      apply List.map_congr_left
      intro i _
      rw [show rs.length - rs.length + i = i by omega]
    rw [e4]
    exact h

end

end K
end

section
set_option maxRecDepth 100000
set_option maxHeartbeats 4000000
namespace K
open PySem PySem.Spec PyProof.Rows L2 G

/-- an offer as given -/
structure Raw where
  k : Kd
  cs : List Cell
@[reducible] def Raw.d (r : Raw) : D := Kd.d r.k (r.cs.map Cell.d)
def Raw.row (r : Raw) : ORow := r.cs.map fun c => (c.w, c.q)
structure Raw.Ok (r : Raw) : Prop where
  l1 : 1 ≤ r.cs.length
  l2 : r.cs.length ≤ 6
  ok : ∀ c ∈ r.cs, c.Ok
def cellT (p : Int × Rat) : D := .tup [.int p.1, .frac p.2]
theorem zipIdx_get {α : Type} {xs : List α} {j : Nat} {p : α × Nat} (h : xs.zipIdx[j]? = some p) : xs[j]? = some p.1 ∧ p.2 = j := by
  rw [List.getElem?_zipIdx] at h
  cases hx : xs[j]? with
  | none => rw [hx] at h; cases h
  | some x =>
    rw [hx] at h
    simp at h
    subst h
    exact ⟨rfl, rfl⟩
theorem atV {g : Nat → Rat} {n i : Nat} {z : Int} (hz : z = (i : Nat)) (h : i < n) : atI (vec g n) z = some (.frac (g i)) := by rw [hz]; exact atI_nat (vec_at h)
theorem rng2 {i j : Int} {n : Nat} (hj : j = i + (n : Nat)) : rangeD i (j - i).toNat = (List.range n).map fun (k : Nat) => .int (i + (k : Int)) := by
  rw [show (j - i).toNat = n by omega]; rfl
theorem rng1 {n : Nat} : rangeD 0 ((n : Nat) : Int).toNat = (List.range n).map fun (k : Nat) => .int (k : Int) := by
  rw [show ((n : Nat) : Int).toNat = n by omega]
  unfold rangeD; congr 1; funext k; rw [Int.zero_add]
theorem rng_get {n j x : Nat} (h : (List.range n)[j]? = some x) : x = j ∧ j < n := by
  have h1 := List.getElem?_eq_some_iff.mp h
  obtain ⟨h1, h2⟩ := h1
  rw [List.length_range] at h1
  rw [List.getElem_range] at h2
  exact ⟨h2.symm, h1⟩
theorem foldl_two {p q : Rat} : [p, q].foldl rmax p = rmax p q := by
  show rmax (rmax p p) q = rmax p q
  rw [show rmax p p = p by unfold rmax; split <;> rfl]
section
local macro_rules | `(tactic| walk_at "e") => `(tactic| first
  | ((with_reducible refine' ek_var ?h1 ?_); (case h1 => exact rfl))
  | (with_reducible refine ek_int ?_)
  | (with_reducible refine ek_bl ?_)
  | (with_reducible refine ek_non ?_)
  | (with_reducible refine ek_str ?_)
  | (with_reducible refine ek_ty ?_)
  | (with_reducible refine ek_cls ?_)
  | (with_reducible refine ek_ix ?_)
  | (with_reducible refine ek_un ?_)
  | (with_reducible refine ek_tup ?_)
  | (with_reducible refine k_call ?_)
  | (with_reducible refine ek_len ?_)
  | (with_reducible refine ek_tuple ?_)
  | (with_reducible refine ek_sum ?_)
  | (with_reducible refine ek_all ?_)
  | (with_reducible refine ek_any ?_)
  | (with_reducible refine ek_chain ?_)
  | (with_reducible refine ek_andV ?_)
  | (with_reducible refine ek_orV ?_)
  | (with_reducible refine ek_notV ?_)
  | (with_reducible refine ek_if ?_)
  | (with_reducible refine ek_ef (ef_lst ?_))
  | (with_reducible refine ek_ef (ef_list ?_))
  | (with_reducible refine ek_ef (ef_cat ?_))
  | (with_reducible refine ek_ef (ef_rep ?_))
  | (with_reducible refine ek_ef (ef_slice ?_))
  | (with_reducible refine ek_ef (ef_rev ?_))
  | (with_reducible refine ek_ef (ef_lstRev ?_))
  | (with_reducible refine ek_ef (ef_map ?_))
  | (with_reducible refine ek_ef (ef_filt ?_))
  | (with_reducible refine ef_lst ?_)
  | (with_reducible refine ef_list ?_)
  | (with_reducible refine ef_cat ?_)
  | (with_reducible refine ef_rep ?_)
  | (with_reducible refine ef_slice ?_)
  | (with_reducible refine ef_rev ?_)
  | (with_reducible refine ef_lstRev ?_)
  | (with_reducible refine ef_map ?_)
  | (with_reducible refine ef_filt ?_)
  | ((with_reducible refine' el_var ?h1 ?_); (case h1 => exact rfl))
  | ((with_reducible refine' el_own ?h1 ?_); (case h1 => exact rfl))
  | (with_reducible refine el_ef (ef_lst ?_))
  | (with_reducible refine el_ef (ef_list ?_))
  | (with_reducible refine el_ef (ef_cat ?_))
  | (with_reducible refine el_ef (ef_rep ?_))
  | (with_reducible refine el_ef (ef_slice ?_))
  | (with_reducible refine el_ef (ef_rev ?_))
  | (with_reducible refine el_ef (ef_lstRev ?_))
  | (with_reducible refine el_ef (ef_map ?_))
  | (with_reducible refine el_ef (ef_filt ?_))
  | (with_reducible refine ek_op ?_)
  | (with_reducible refine ek_cb ?_)
  | (with_reducible refine el_ek ?_)
  | (with_reducible refine tk_test ?_)
  | (with_reducible refine tk_B ?_)
  | (with_reducible refine tk_and ?_)
  | (with_reducible refine tk_or ?_)
  | (with_reducible refine tk_not ?_)
  | (with_reducible refine tk_yes ?_)
  | (with_reducible refine ak_nil ?_)
  | (with_reducible refine ak_cons ?_)
  | (with_reducible refine k_num (‹Tx _ _›) ?_)
  | (with_reducible refine k_den (‹Tx _ _›) ?_)
  | (with_reducible refine k_mk2 ?_)
  | (with_reducible refine k_mkO ?_)
  | (with_reducible refine k_rows (‹Tx _ _›) ?_)
  | (with_reducible refine k_mk1 ?_)
  | (with_reducible refine k_bel ?_)
  | (with_reducible refine k_own ?_)
  | (with_reducible refine rk_U2 (k_own ?_))
  | (with_reducible refine rk_mul (Sz.mul (by assumption) (by assumption)) ?_)
  | (with_reducible refine rk_U1 (rk_mul (Sz.mul (by assumption) (by assumption)) ?_))
  | (with_reducible refine ek_dget ?_)
  | (with_reducible refine uk_neg ?_)
  | (with_reducible refine ek_disp ?_)
  | (with_reducible refine pk_cons ?_)
  | (with_reducible refine pk_nil ?_)
  | (with_reducible refine rk_mod (by assumption) ?_)
  | (with_reducible refine rk_add ?_)
  | (with_reducible refine rk_sub ?_)
  | (with_reducible refine rk_lt ?_)
  | (with_reducible refine rk_le ?_)
  | (with_reducible refine rk_gt ?_)
  | (with_reducible refine rk_ge ?_)
  | (with_reducible refine rk_eqI ?_)
  | (with_reducible refine rk_neI ?_)
  | (with_reducible refine rk_isN ?_)
  | (with_reducible refine rk_notN ?_)
  | (with_reducible refine rk_U1 (rk_add ?_))
  | (with_reducible refine rk_U1 (rk_sub ?_))
  | (with_reducible refine ck_gcd ?_)
  | (with_reducible refine ck_abs ?_)
  | (with_reducible refine ck_int ?_)
  | (with_reducible refine ik_seq ?_)
  | (with_reducible refine ik_range1 ?_)
  | (with_reducible refine ik_range2 ?_)
  | (with_reducible refine ik_enumA ?_)
  | (with_reducible refine ik_zip ?_)
  | (with_reducible refine ik_rev ?_)
  | ((with_reducible refine' cg_name ?_ ?h1 ?h2); (case h1 => exact rfl); (case h2 => decide))
  | ((with_reducible refine' cg_anyT ?h1 ?_); (case h1 => exact rfl))
  | ((with_reducible refine' cg_anyL ?h1 ?_); (case h1 => exact rfl))
  | ((with_reducible refine' cg_anyK ?h1 ?_); (case h1 => exact rfl))
  | ((with_reducible refine' cgs_cons ?_ ?h1 ?h2); (case h1 => exact rfl); (case h2 => decide))
  | (with_reducible refine cgs_nil ?_)
  | ((with_reducible refine' gk_name ?_ ?h1); (case h1 => exact rfl))
  | ((with_reducible refine' gk_anyT ?h1 ?_); (case h1 => exact rfl))
  | ((with_reducible refine' gk_anyL ?h1 ?_); (case h1 => exact rfl))
  | ((with_reducible refine' gk_anyK ?h1 ?_); (case h1 => exact rfl))
  | ((with_reducible refine' gks_cons ?_ ?h1); (case h1 => exact rfl))
  | ((with_reducible refine' gks_consA (n := 0) ?_ ?h1 ?h2); (case h1 => exact rfl); (case h2 => exact rfl))
  | ((with_reducible refine' gks_consB ?h0 ?_ ?h1 ?h2); (case h0 => exact rfl); (case h1 => exact rfl); (case h2 => exact rfl))
  | (with_reducible refine gks_nil ?_)
  | (with_reducible refine ok_none ?_)
  | (with_reducible refine ok_some ?_))
local macro_rules | `(tactic| walk_at "s") => `(tactic| first
  | (with_reducible refine sx_guard ?_ ?_)
  | (with_reducible refine sx_seq ?_)
  | (with_reducible refine sx_ret ?_)
  | (with_reducible refine sx_if ?_)
  | (with_reducible refine sx_next ?_)
  | (with_reducible refine sx_break ?_)
  | (with_reducible refine sx_cont ?_)
  | ((with_reducible refine' sx_append ?h1 ?_); (case h1 => exact rfl))
  | ((with_reducible refine' sx_setI ?h1 ?_); (case h1 => exact rfl))
  | ((with_reducible refine' sx_set ?h1 ?_); (case h1 => exact rfl))
  | (with_reducible refine sx_asg ?_)
  | ((with_reducible refine' sx_par ?h1 ?h2 ?_); (case h1 => exact rfl); (case h2 => exact rfl))
  | (with_reducible refine sx_drop ?_)
  | ((with_reducible refine' k_fldS (‹Tx _ _›) ?h1 ?h2 ?h3 ?_); (case h1 => exact rfl); (case h2 => decide); (case h3 => exact rfl))
  | ((with_reducible refine' k_fldO (‹Tx _ _›) ?h1 ?h3 ?_); (case h1 => exact rfl); (case h3 => exact rfl)))
/-! plain existentials that the rules leave -/
local macro_rules | `(tactic| walk_at "x") => `(tactic| first
  | (with_reducible refine x_bl ?_)
  | (with_reducible refine x_int ?_)
  | (with_reducible refine x_frac ?_)
  | (with_reducible refine x_lst ?_)
  | (with_reducible refine x_off ?_)
  | (with_reducible refine x_low ?_)
  | (with_reducible refine x_ownR ?_)
  | (with_reducible refine x_ownA ?_)
  | (with_reducible refine x_tup ?_)
  | (with_reducible refine x_kd ?_)
  | (with_reducible refine x_oneL ?_)
  | (with_reducible refine x_oneT ?_)
  | (with_reducible refine x_one ?_)
  | ((with_reducible refine' x_at ?h1 ?_); (case h1 => exact rfl))
  | ((with_reducible refine' x_dic ?h1 ?_); (case h1 => exact rfl))
  | (with_reducible refine (⟨rfl, ?_⟩ : Kd.l = Kd.l ∧ _))
  | ((with_reducible refine' x_len ?h1 ?_); (case h1 => exact rfl))
  | ((with_reducible refine' br_t ?h1 ?_); (case h1 => exact rfl))
  | ((with_reducible refine' br_f ?h1 ?_); (case h1 => exact rfl)))
local macro_rules | `(tactic| walk_at "f") => `(tactic| first
  | ((with_reducible refine' sx_forW ?h1 ?_); (case h1 => exact rfl))
  | (with_reducible refine sx_forGW ?_))
local macro_rules | `(tactic| walk_at "g") => `(tactic| repeat (first | walk_at "s" | walk_at "f" | walk_at "e" | walk_at "x"))
local macro_rules | `(tactic| walk_at "v") => `(tactic| repeat (first | walk_at "e" | walk_at "x"))
local macro_rules | `(tactic| walk_at "h") => `(tactic| repeat (first | walk_at "s" | walk_at "e" | walk_at "x"))
variable {P : Program} {w : World} {K : PySem.W.Frag} {mg : Str → Option Value} {base : Heap}

def S_OffersD_initD : List D → (List (Str × D) → Prop) → Prop := fun l K => ∃ (k : Kd) (rws : List Raw), l = [Kd.d k (rws.map Raw.d)] ∧ 1 ≤ rws.length ∧ rws.length ≤ 8 ∧ (∀ r ∈ rws, r.Ok) ∧ K [("rows", .tup ((rws.map Raw.row).map rowD))]
theorem ok_OffersD_initD (T : Tx K mg) (c_is_sequence : Cal P w K mg base 1 "is_sequence" ["value"] (SpFam (CL K) S_is_sequence)) (c_is_offer : Cal P w K mg base 7 "is_offer" ["value"] (SpFam (CL K) S_is_offer)) (c_as_frac : Cal P w K mg base 4 "as_frac" ["value"] (SpFam (CL K) S_as_frac)) {fd : FuncData} (F : FunD K "__init__" "Offers.__init__" (defArgs s_OffersD_initD) (defBody s_OffersD_initD) (defScope s_OffersD_initD) [] [] (He.ma K (He.ga K "Offers") "__init__") fd) : FnOk P w K mg base (L2.CX P w) 8 (He.ma K (He.ga K "Offers") "__init__") fd ["self", "rows"] (SpFamI (CL K) (He.ga K "Offers") S_OffersD_initD) := by
  refine init_mkF (N := ["rows", "kept", "at", "row", "weight", "worth"]) F sc_OffersD_initD (by intro l Q h; first | (obtain ⟨rfl, _⟩ := h; rfl) | (obtain ⟨_, rfl, _⟩ := h; rfl) | (obtain ⟨_, _, rfl, _⟩ := h; rfl) | (obtain ⟨_, _, _, rfl, _⟩ := h; rfl) | (obtain ⟨_, _, _, _, rfl, _⟩ := h; rfl) | (obtain ⟨_, _, _, _, _, rfl, _⟩ := h; rfl) | (obtain ⟨_, _, _, _, _, _, rfl, _⟩ := h; rfl) | (obtain ⟨_, _, _, _, _, _, _, rfl, _⟩ := h; rfl) | (obtain ⟨_, _, _, _, _, _, _, _, rfl, _⟩ := h; rfl)) (fun f cdv A outer s H E hr => ⟨_, (pss_cons (ps_if (pt_not (pt_val (pe_calC c_is_sequence hr (by decide) (by rfl) (pa_cons (pv 1) pa_nil)))) (pss_one ps_never) pss_nil) (pss_cons (ps_if (pt_not (pt_chain op_leI op_leI pe_int (pe_callB (cr_lenK K rfl) (by rfl) T.b_len PySem.boot_len (pa_cons (pv 1) pa_nil)) (pe_gint T.i_MOST_OFFERS (by rfl)))) (pss_one ps_never) pss_nil) (pss_cons (ps_set (i := 2) sc_OffersD_initD.nd rfl (by first | exact Or.inl rfl | exact Or.inr rfl) (pe_lst pa_nil)) (pss_cons (ps_for PassesOwn.never rfl (GEn.pi_enumA K rfl (by rfl) T.b_enumerate (pa_cons (pv 1) pa_nil)) (pg_anyK K rfl rfl (pgs_cons (pg_name (i := 3) sc_OffersD_initD.nd rfl (by first | exact Or.inl rfl | exact Or.inr rfl)) (pgs_cons (pg_name (i := 4) sc_OffersD_initD.nd rfl (by first | exact Or.inl rfl | exact Or.inr rfl)) pgs_nil))) (pss_cons (ps_if (pt_not (pt_val (pe_calC c_is_offer hr (by decide) (by rfl) (pa_cons (pv 4) pa_nil)))) (pss_one ps_never) pss_nil) (pss_one (ps_expr (pe_bm PySem.F.plainAttrs_list PySem.F.slot_list_append PySem.F.type_list_append mt_append (pv 2) (pa_cons (pe_callTy (cr_tupK K rfl) (by rfl) T.b_tuple (by decide +kernel) (pa_cons (pe_lc (own := [("weight", 5), ("worth", 6)]) (g := gAny K 2 (gCons (gName 5) (gCons (gName 6) gNil))) (tt := tYes) rfl sc_OffersD_initD.nd (pi_seqK K rfl (pv 4)) (blkOk_by (own := [("weight", 5), ("worth", 6)]) (N := ["self", "rows", "kept", "at", "row", "weight", "worth"]) (sc := defScope s_OffersD_initD) (by decide +kernel)) (fun _ _ _ _ _ => (pg_anyK K rfl rfl (pgs_cons (pg_name (i := 5) sc_OffersD_initD.nd rfl (by first | exact Or.inl rfl | exact Or.inr rfl)) (pgs_cons (pg_name (i := 6) sc_OffersD_initD.nd rfl (by first | exact Or.inl rfl | exact Or.inr rfl)) pgs_nil)))) (fun _ _ _ _ _ => pts_nil) (fun _ _ _ _ _ => (pe_tup (pa_cons (pv 5) (pa_cons (pe_calC c_as_frac hr (by decide) (by rfl) (pa_cons (pv 6) pa_nil)) pa_nil))))) pa_nil)) pa_nil)))))) (pss_one (ps_fldK K rfl (pv 0) (pe_callTy (cr_tupK K rfl) (by rfl) T.b_tuple (by decide +kernel) (pa_cons (pv 2) pa_nil)) rfl)))))), ?_⟩)
  intro nn B l Q h
  obtain ⟨k, rws, rfl, h1, h2, hs, h⟩ := h
  refine sx_guard ?_ ?_
  · walk_at "g"
    refine ⟨_, rfl, kn_kd, ?_⟩
    walk_at "g"
    rw [isSeq_kd]
    walk_at "g"
    rfl
  refine sx_guard ?_ ?_
  · walk_at "g"
    refine br_p (fun _ => ?_) (fun z => absurd (by rw [List.length_map]; omega) z)
    walk_at "g"
    rw [decide_eq_true (show ((rws.map Raw.d).length : Int) ≤ 8 by rw [List.length_map]; omega)]
    rfl
  refine sx_seq ?_
  refine' sx_setO ?h1 ?_
  case h1 => exact rfl
  walk_at "g"
  refine ⟨Raw × Nat, rws.zipIdx, fun p => .tup [.int (p.2 : Nat), p.1.d], fun j => [.ins (He.ga K "Offers") [], .d (Kd.d k (rws.map Raw.d)), .own (((rws.take j).map Raw.row).map rowD), .no, .no, .no, .no], by rw [enumD_map], Wk.refl, fun B' j x hx => ?_, fun Γ' w => sx_weak w ?_⟩
  · obtain ⟨hx, hj⟩ := zipIdx_get hx
    have ok := hs x.1 (List.mem_of_getElem? hx)
    walk_at "g"
    · exact ⟨_, _, rfl, ok.l1, ok.l2, ok.ok, _, rfl, rfl⟩
    · walk_at "g"
      refine ⟨Cell, x.1.cs, Cell.d, fun c => cellT (c.w, c.q), rfl, Nat.le_of_lt (small1000 (by have := ok.l2; omega)), fun W1 c hc => ?_, ?_⟩
      · walk_at "g"
        refine ⟨_, _, rfl, (ok.ok c hc).a, ?_⟩
        walk_at "g"
        rfl
      · have hlt : j < rws.length := (List.getElem?_eq_some_iff.mp hx).1
        refine ⟨small1000 (by simp; omega), ?_⟩
        walk_at "g"
        show Wk _ [_, _, .own (((rws.take (j + 1)).map Raw.row).map rowD), .no, .no, .no, .no]
        rw [List.take_succ, hx]
        simp only [List.map_append, Option.toList, List.map_cons, List.map_nil]
        have e : rowD x.1.row = .tup (x.1.cs.map fun c => cellT (c.w, c.q)) := by unfold rowD Raw.row; rw [List.map_map]; rfl
        rw [e]
        exact .same (.same (.same (.no (.no (.no (.no .nil))))))
  · rw [List.length_zipIdx]
    dsimp only
    rw [List.take_length]
    walk_at "g"
    exact ⟨_, rfl, h⟩

def S_shown_shares : List D → (D → Prop) → Prop := fun l K => ∃ r : ORow, l = [rowD r] ∧ RowOk r ∧ K (.lst (r.map fun p => .tup [.frac (share r p.1), .frac p.2]))
theorem ok_shown_shares (T : Tx K mg) (m_Frac2 : CalM P w K mg base 2 "Frac" [] (SpFamI (CL K) (He.ga K "Frac") S_FracD_initD)) : Cal P w K mg base 4 "shown_shares" ["row"] (SpFam (CL K) S_shown_shares) := by
  refine cal_mkF (N := ["row", "whole", "weight", "worth", "_"]) T.g_shown_shares T.d_shown_shares sc_shown_shares (fun _ _ _ _ _ _ us hl => match us, hl with | [_], _ => rfl) (by intro l Q h; first | (obtain ⟨rfl, _⟩ := h; rfl) | (obtain ⟨_, rfl, _⟩ := h; rfl) | (obtain ⟨_, _, rfl, _⟩ := h; rfl) | (obtain ⟨_, _, _, rfl, _⟩ := h; rfl) | (obtain ⟨_, _, _, _, rfl, _⟩ := h; rfl) | (obtain ⟨_, _, _, _, _, rfl, _⟩ := h; rfl) | (obtain ⟨_, _, _, _, _, _, rfl, _⟩ := h; rfl) | (obtain ⟨_, _, _, _, _, _, _, rfl, _⟩ := h; rfl) | (obtain ⟨_, _, _, _, _, _, _, _, rfl, _⟩ := h; rfl)) (fun f cdv A outer s H E hr => ⟨_, (pss_cons (ps_set (i := 1) sc_shown_shares.nd rfl (by first | exact Or.inl rfl | exact Or.inr rfl) (pe_callB (cr_sumK K rfl rfl) (by rfl) T.b_sum (by decide +kernel) (pa_cons (pe_lc (own := [("weight", 2), ("_", 4)]) (g := gAny K 2 (gCons (gName 2) (gCons (gName 4) gNil))) (tt := tYes) rfl sc_shown_shares.nd (pi_seqK K rfl (pv 0)) (blkOk_by (own := [("weight", 2), ("_", 4)]) (N := ["row", "whole", "weight", "worth", "_"]) (sc := defScope s_shown_shares) (by decide +kernel)) (fun _ _ _ _ _ => (pg_anyK K rfl rfl (pgs_cons (pg_name (i := 2) sc_shown_shares.nd rfl (by first | exact Or.inl rfl | exact Or.inr rfl)) (pgs_cons (pg_name (i := 4) sc_shown_shares.nd rfl (by first | exact Or.inl rfl | exact Or.inr rfl)) pgs_nil)))) (fun _ _ _ _ _ => pts_nil) (fun _ _ _ _ _ => (pv 2))) pa_nil))) (pss_one (ps_ret (pe_lc (own := [("weight", 2), ("worth", 3)]) (g := gAny K 2 (gCons (gName 2) (gCons (gName 3) gNil))) (tt := tYes) rfl sc_shown_shares.nd (pi_seqK K rfl (pv 0)) (blkOk_by (own := [("weight", 2), ("worth", 3)]) (N := ["row", "whole", "weight", "worth", "_"]) (sc := defScope s_shown_shares) (by decide +kernel)) (fun _ _ _ _ _ => (pg_anyK K rfl rfl (pgs_cons (pg_name (i := 2) sc_shown_shares.nd rfl (by first | exact Or.inl rfl | exact Or.inr rfl)) (pgs_cons (pg_name (i := 3) sc_shown_shares.nd rfl (by first | exact Or.inl rfl | exact Or.inr rfl)) pgs_nil)))) (fun _ _ _ _ _ => pts_nil) (fun _ _ _ _ _ => (pe_tup (pa_cons (pe_mkK K rfl m_Frac2 hr (by decide) (by rfl) (pa_cons (pv 2) (pa_cons (pv 1) pa_nil))) (pa_cons (pv 3) pa_nil)))))))), ?_⟩)
  intro nn B l Q h
  obtain ⟨r, rfl, ok, h⟩ := h
  unfold rowD
  walk_at "g"
  refine ⟨Int × Rat, r, cellT, fun p => .int p.1, rfl, Nat.le_of_lt (small1000 (by have := ok.len; omega)), fun W1 c hc => ?_, ?_⟩
  · unfold cellT
    walk_at "g"
    rfl
  · refine ⟨rfl, r.map (·.1), by rw [List.map_map]; rfl, ?_⟩
    walk_at "g"
    refine ⟨Int × Rat, r, cellT, fun p => .tup [.frac (share r p.1), .frac p.2], rfl, Nat.le_of_lt (small1000 (by have := ok.len; omega)), fun W1 c hc => ?_, h⟩
    unfold cellT
    walk_at "g"
    have h1 := ok.whole_pos
    have h2 := ok.whole_le
    refine ⟨_, _, rfl, h1, Nat.lt_of_le_of_lt (show (whole r).natAbs ≤ 594 by omega) (Nat.lt_of_lt_of_le (by decide : 594 < 2 ^ 10) (Nat.pow_le_pow_right (by decide) (by decide))), _, rfl, ?_⟩
    walk_at "g"
    rfl

def S_row_before : List D → (D → Prop) → Prop := fun l K => ∃ (r : ORow) (g : Nat → Rat) (n k : Nat), l = [rowD r, .lst (vec g (n + 1)), .int (n : Nat)] ∧ RowOk r ∧ n ≤ 31 ∧ 1 ≤ k ∧ k ≤ 100 ∧ NiceF k g ∧ K (.lst (vec (rowB r g) (n + 1)))
theorem ok_row_before (T : Tx K mg) (m_Frac1 : CalM P w K mg base 2 "Frac" [.int 1] (SpFamI (CL K) (He.ga K "Frac") S_FracD_initD)) (o_add : CalO P w K mg base 4 (He.ga K "Frac") .Add (SpFam (CL K) S_FracD_addD)) (c_shown_shares : Cal P w K mg base 4 "shown_shares" ["row"] (SpFam (CL K) S_shown_shares)) (o_mul : CalO P w K mg base 4 (He.ga K "Frac") .Mult (SpFam (CL K) S_FracD_mulD)) (c_greatest_of : Cal P w K mg base 2 "greatest_of" ["fracs"] (SpFam (CL K) S_greatest_of)) (c_total : Cal P w K mg base 5 "total" ["fracs"] (SpFam (CL K) S_total)) : Cal P w K mg base 6 "row_before" ["row", "later", "many"] (SpFam (CL K) S_row_before) := by
  refine cal_mkF (N := ["row", "later", "many", "found", "left", "parts", "share", "worth"]) T.g_row_before T.d_row_before sc_row_before (fun _ _ _ _ _ _ us hl => match us, hl with | [_, _, _], _ => rfl) (by intro l Q h; first | (obtain ⟨rfl, _⟩ := h; rfl) | (obtain ⟨_, rfl, _⟩ := h; rfl) | (obtain ⟨_, _, rfl, _⟩ := h; rfl) | (obtain ⟨_, _, _, rfl, _⟩ := h; rfl) | (obtain ⟨_, _, _, _, rfl, _⟩ := h; rfl) | (obtain ⟨_, _, _, _, _, rfl, _⟩ := h; rfl) | (obtain ⟨_, _, _, _, _, _, rfl, _⟩ := h; rfl) | (obtain ⟨_, _, _, _, _, _, _, rfl, _⟩ := h; rfl) | (obtain ⟨_, _, _, _, _, _, _, _, rfl, _⟩ := h; rfl)) (fun f cdv A outer s H E hr => ⟨_, (pss_cons (ps_set (i := 3) sc_row_before.nd rfl (by first | exact Or.inl rfl | exact Or.inr rfl) (pe_lst (pa_cons (pe_mkK K rfl m_Frac1 hr (by decide) (by rfl) (pa_cons pe_int pa_nil)) pa_nil))) (pss_cons (ps_for PassesOwn.never rfl (pi_range2 (by rfl) T.b_range (pa_cons pe_int (pa_cons (pe_op (op_U op_addI (o_add.op hr (by decide))) (pv 2) pe_int) pa_nil))) (pg_name (i := 4) sc_row_before.nd rfl (by first | exact Or.inl rfl | exact Or.inr rfl)) (pss_cons (ps_set (i := 5) sc_row_before.nd rfl (by first | exact Or.inl rfl | exact Or.inr rfl) (pe_lst pa_nil)) (pss_cons (ps_for PassesOwn.never rfl (pi_seqK K rfl (pe_calC c_shown_shares hr (by decide) (by rfl) (pa_cons (pv 0) pa_nil))) (pg_anyK K rfl rfl (pgs_cons (pg_name (i := 6) sc_row_before.nd rfl (by first | exact Or.inl rfl | exact Or.inr rfl)) (pgs_cons (pg_name (i := 7) sc_row_before.nd rfl (by first | exact Or.inl rfl | exact Or.inr rfl)) pgs_nil))) (pss_one (ps_expr (pe_bm PySem.F.plainAttrs_list PySem.F.slot_list_append PySem.F.type_list_append mt_append (pv 5) (pa_cons (pe_op (op_U op_mulI (o_mul.op hr (by decide))) (pv 6) (pe_calC c_greatest_of hr (by decide) (by rfl) (pa_cons (pe_lst (pa_cons (pe_op (op_U op_addI (o_add.op hr (by decide))) (pv 7) (pe_ix (ix_seqK K rfl) (pv 1) (pe_op op_subI (pv 4) pe_int) (fun _ _ => rfl))) (pa_cons (pe_ix (ix_seqK K rfl) (pv 1) (pv 4) (fun _ _ => rfl)) pa_nil))) pa_nil))) pa_nil))))) (pss_one (ps_expr (pe_bm PySem.F.plainAttrs_list PySem.F.slot_list_append PySem.F.type_list_append mt_append (pv 3) (pa_cons (pe_calC c_total hr (by decide) (by rfl) (pa_cons (pv 5) pa_nil)) pa_nil))))))) (pss_one (ps_ret (pv 3))))), ?_⟩)
  intro nn B l Q h
  obtain ⟨r, g, n, k, rfl, ok, hn, hk1, hk, hg, h⟩ := h
  refine sx_seq ?_
  refine' sx_setO ?h1 ?_
  case h1 => exact rfl
  walk_at "g"
  refine ⟨_, _, rfl, by decide, by decide, 0, rfl, ?_⟩
  walk_at "g"
  refine ⟨1, (n : Int) + 1, rfl, ⟨by decide, by decide, by omega, by omega⟩, ?_⟩
  refine ⟨Nat, List.range n, _, fun j => [.d (rowD r), .d (.lst (vec g (n + 1))), .d (.int (n : Nat)), .own (vec (rowB r g) (j + 1)), .no, .no, .no, .no], rng2 (by omega), Wk.refl, fun j => rfl, fun B' j x hx => ?_, fun Γ' w => sx_weak w ?_⟩
  · obtain ⟨rfl, hj⟩ := rng_get hx
    refine sx_seq ?_
    refine' sx_setO ?h1 ?_
    case h1 => exact rfl
    walk_at "g"
    refine ⟨r, rfl, ok, ?_⟩
    walk_at "g"
    refine ⟨Int × Rat, r, _, fun j => [.d (rowD r), .d (.lst (vec g (n + 1))), .d (.int (n : Nat)), .own (vec (rowB r g) (x + 1)), .d (.int (1 + (x : Int))), .own ((r.take j).map fun p => .frac (share r p.1 * rmax (p.2 + g x) (g (x + 1)))), .no, .no], rfl, Wk.refl, fun B' j p hp => ?_, fun Γ' w => sx_weak w ?_⟩
    · have hp' := List.mem_of_getElem? hp
      have n1 := hg x
      have n2 := hg (x + 1)
      have n3 := (ok.n p hp').mono hk1
      walk_at "g"
      refine x_at (atV (i := x) (by omega) (by omega)) ?_
      walk_at "g"
      refine ⟨_, _, rfl, n3.sz (by omega), n1.sz (by omega), ?_⟩
      walk_at "g"
      refine x_at (atV (i := x + 1) (by omega) (by omega)) ?_
      walk_at "g"
      refine ⟨_, [_], rfl, ?_, ?_⟩
      · intro q hq
        rcases List.mem_cons.mp hq with rfl | hq
        · exact (n3.add n1).sz (by omega)
        · rcases List.mem_cons.mp hq with rfl | hq
          · exact n2.sz (by omega)
          · cases hq
      walk_at "g"
      rw [foldl_two]
      refine ⟨_, _, rfl, (ok.sh p hp').sz (by omega), ((n3.add n1).rmax n2.up).sz (by omega), ?_⟩
      refine ⟨small1000 (by rw [List.length_map, List.length_take]; have := ok.len; omega), ?_⟩
      show Wk _ [_, _, _, _, _, .own ((r.take (j + 1)).map fun p => .frac (share r p.1 * rmax (p.2 + g x) (g (x + 1)))), .no, .no]
      rw [List.take_succ, hp]
      simp only [List.map_append, Option.toList, List.map_cons, List.map_nil]
      exact .same (.same (.same (.same (.same (.same (.no (.no .nil)))))))
    · dsimp only
      rw [List.take_length]
      refine sx_freeze 5 rfl ?_
      walk_at "g"
      refine ⟨r.map fun p => share r p.1 * rmax (p.2 + g x) (g (x + 1)), k + 2, by rw [List.map_map]; rfl, ?_, by omega, by rw [List.length_map]; have := ok.len; omega, ?_⟩
      · intro y hy
        obtain ⟨p, hp, rfl⟩ := List.mem_map.mp hy
        exact nice_part ok hk1 hg hp x
      · refine ⟨small1000 (by rw [vec_len]; omega), ?_⟩
        show Wk _ [_, _, _, .own (vec (rowB r g) (x + 1 + 1)), .no, .no, .no, .no]
        rw [vec_succ (n := x + 1)]
        exact .same (.same (.same (.same (.no (.no (.no (.no .nil)))))))
  · dsimp only
    rw [List.length_range]
    refine sx_freeze 3 rfl ?_
    walk_at "g"
    exact h

end

end K
end

section
set_option maxRecDepth 100000
set_option maxHeartbeats 4000000
namespace K
open PySem PySem.Spec PyProof.Rows L2 G

def aboveW (r : ORow) : Int := ((r.filter fun p => decide (0 < p.2.num)).map (·.1)).sum
def lS (rs : List ORow) (n i : Nat) : Rat := dS (rowAt rs i) (barAt rs i) (lch rs n i) n
def lM (rs : List ORow) (n i : Nat) : Rat := dM (rowAt rs i) (barAt rs i) (lch rs n i) n
theorem own_at {rs : List ORow} {i : Nat} (h : i < rs.length) : atI (rs.map ownD) (i : Int) = some (ownD (rowAt rs i)) := by
  refine atI_nat ?_
  have e : rs[i]? = some rs[i] := by simp [h]
  rw [List.getElem?_map, e, rowAt_of e]; rfl
section
local macro_rules | `(tactic| walk_at "e") => `(tactic| first
  | ((with_reducible refine' ek_var ?h1 ?_); (case h1 => exact rfl))
  | (with_reducible refine ek_int ?_)
  | (with_reducible refine ek_bl ?_)
  | (with_reducible refine ek_non ?_)
  | (with_reducible refine ek_str ?_)
  | (with_reducible refine ek_ty ?_)
  | (with_reducible refine ek_cls ?_)
  | (with_reducible refine ek_ix ?_)
  | (with_reducible refine ek_un ?_)
  | (with_reducible refine ek_tup ?_)
  | (with_reducible refine k_call ?_)
  | (with_reducible refine ek_len ?_)
  | (with_reducible refine ek_tuple ?_)
  | (with_reducible refine ek_sum ?_)
  | (with_reducible refine ek_all ?_)
  | (with_reducible refine ek_any ?_)
  | (with_reducible refine ek_chain ?_)
  | (with_reducible refine ek_andV ?_)
  | (with_reducible refine ek_orV ?_)
  | (with_reducible refine ek_notV ?_)
  | (with_reducible refine ek_if ?_)
  | (with_reducible refine ek_ef (ef_lst ?_))
  | (with_reducible refine ek_ef (ef_list ?_))
  | (with_reducible refine ek_ef (ef_cat ?_))
  | (with_reducible refine ek_ef (ef_rep ?_))
  | (with_reducible refine ek_ef (ef_slice ?_))
  | (with_reducible refine ek_ef (ef_rev ?_))
  | (with_reducible refine ek_ef (ef_lstRev ?_))
  | (with_reducible refine ek_ef (ef_map ?_))
  | (with_reducible refine ek_ef (ef_filt ?_))
  | (with_reducible refine ef_lst ?_)
  | (with_reducible refine ef_list ?_)
  | (with_reducible refine ef_cat ?_)
  | (with_reducible refine ef_rep ?_)
  | (with_reducible refine ef_slice ?_)
  | (with_reducible refine ef_rev ?_)
  | (with_reducible refine ef_lstRev ?_)
  | (with_reducible refine ef_map ?_)
  | (with_reducible refine ef_filt ?_)
  | ((with_reducible refine' el_var ?h1 ?_); (case h1 => exact rfl))
  | ((with_reducible refine' el_own ?h1 ?_); (case h1 => exact rfl))
  | (with_reducible refine el_ef (ef_lst ?_))
  | (with_reducible refine el_ef (ef_list ?_))
  | (with_reducible refine el_ef (ef_cat ?_))
  | (with_reducible refine el_ef (ef_rep ?_))
  | (with_reducible refine el_ef (ef_slice ?_))
  | (with_reducible refine el_ef (ef_rev ?_))
  | (with_reducible refine el_ef (ef_lstRev ?_))
  | (with_reducible refine el_ef (ef_map ?_))
  | (with_reducible refine el_ef (ef_filt ?_))
  | (with_reducible refine ek_op ?_)
  | (with_reducible refine ek_cb ?_)
  | (with_reducible refine el_ek ?_)
  | (with_reducible refine tk_test ?_)
  | (with_reducible refine tk_B ?_)
  | (with_reducible refine tk_and ?_)
  | (with_reducible refine tk_or ?_)
  | (with_reducible refine tk_not ?_)
  | (with_reducible refine tk_yes ?_)
  | (with_reducible refine ak_nil ?_)
  | (with_reducible refine ak_cons ?_)
  | (with_reducible refine k_num (‹Tx _ _›) ?_)
  | (with_reducible refine k_den (‹Tx _ _›) ?_)
  | (with_reducible refine k_mk2 ?_)
  | (with_reducible refine k_mkO ?_)
  | (with_reducible refine k_rows (‹Tx _ _›) ?_)
  | (with_reducible refine k_mk1 ?_)
  | (with_reducible refine k_bel ?_)
  | (with_reducible refine k_own ?_)
  | (with_reducible refine rk_U2 (k_own ?_))
  | (with_reducible refine rk_mul (Sz.mul (by assumption) (by assumption)) ?_)
  | (with_reducible refine rk_U1 (rk_mul (Sz.mul (by assumption) (by assumption)) ?_))
  | (with_reducible refine ek_dget ?_)
  | (with_reducible refine uk_neg ?_)
  | (with_reducible refine ek_disp ?_)
  | (with_reducible refine pk_cons ?_)
  | (with_reducible refine pk_nil ?_)
  | (with_reducible refine rk_mod (by assumption) ?_)
  | (with_reducible refine rk_add ?_)
  | (with_reducible refine rk_sub ?_)
  | (with_reducible refine rk_lt ?_)
  | (with_reducible refine rk_le ?_)
  | (with_reducible refine rk_gt ?_)
  | (with_reducible refine rk_ge ?_)
  | (with_reducible refine rk_eqI ?_)
  | (with_reducible refine rk_neI ?_)
  | (with_reducible refine rk_isN ?_)
  | (with_reducible refine rk_notN ?_)
  | (with_reducible refine rk_U1 (rk_add ?_))
  | (with_reducible refine rk_U1 (rk_sub ?_))
  | (with_reducible refine ck_gcd ?_)
  | (with_reducible refine ck_abs ?_)
  | (with_reducible refine ck_int ?_)
  | (with_reducible refine ik_seq ?_)
  | (with_reducible refine ik_range1 ?_)
  | (with_reducible refine ik_range2 ?_)
  | (with_reducible refine ik_enumA ?_)
  | (with_reducible refine ik_zip ?_)
  | (with_reducible refine ik_rev ?_)
  | ((with_reducible refine' cg_name ?_ ?h1 ?h2); (case h1 => exact rfl); (case h2 => decide))
  | ((with_reducible refine' cg_anyT ?h1 ?_); (case h1 => exact rfl))
  | ((with_reducible refine' cg_anyL ?h1 ?_); (case h1 => exact rfl))
  | ((with_reducible refine' cg_anyK ?h1 ?_); (case h1 => exact rfl))
  | ((with_reducible refine' cgs_cons ?_ ?h1 ?h2); (case h1 => exact rfl); (case h2 => decide))
  | (with_reducible refine cgs_nil ?_)
  | ((with_reducible refine' gk_name ?_ ?h1); (case h1 => exact rfl))
  | ((with_reducible refine' gk_anyT ?h1 ?_); (case h1 => exact rfl))
  | ((with_reducible refine' gk_anyL ?h1 ?_); (case h1 => exact rfl))
  | ((with_reducible refine' gk_anyK ?h1 ?_); (case h1 => exact rfl))
  | ((with_reducible refine' gks_cons ?_ ?h1); (case h1 => exact rfl))
  | ((with_reducible refine' gks_consA (n := 0) ?_ ?h1 ?h2); (case h1 => exact rfl); (case h2 => exact rfl))
  | ((with_reducible refine' gks_consB ?h0 ?_ ?h1 ?h2); (case h0 => exact rfl); (case h1 => exact rfl); (case h2 => exact rfl))
  | (with_reducible refine gks_nil ?_)
  | (with_reducible refine ok_none ?_)
  | (with_reducible refine ok_some ?_))
local macro_rules | `(tactic| walk_at "s") => `(tactic| first
  | (with_reducible refine sx_guard ?_ ?_)
  | (with_reducible refine sx_seq ?_)
  | (with_reducible refine sx_ret ?_)
  | (with_reducible refine sx_if ?_)
  | (with_reducible refine sx_next ?_)
  | (with_reducible refine sx_break ?_)
  | (with_reducible refine sx_cont ?_)
  | ((with_reducible refine' sx_append ?h1 ?_); (case h1 => exact rfl))
  | ((with_reducible refine' sx_setI ?h1 ?_); (case h1 => exact rfl))
  | ((with_reducible refine' sx_set ?h1 ?_); (case h1 => exact rfl))
  | (with_reducible refine sx_asg ?_)
  | ((with_reducible refine' sx_par ?h1 ?h2 ?_); (case h1 => exact rfl); (case h2 => exact rfl))
  | (with_reducible refine sx_drop ?_)
  | ((with_reducible refine' k_fldS (‹Tx _ _›) ?h1 ?h2 ?h3 ?_); (case h1 => exact rfl); (case h2 => decide); (case h3 => exact rfl))
  | ((with_reducible refine' k_fldO (‹Tx _ _›) ?h1 ?h3 ?_); (case h1 => exact rfl); (case h3 => exact rfl)))
/-! plain existentials that the rules leave -/
local macro_rules | `(tactic| walk_at "x") => `(tactic| first
  | (with_reducible refine x_bl ?_)
  | (with_reducible refine x_int ?_)
  | (with_reducible refine x_frac ?_)
  | (with_reducible refine x_lst ?_)
  | (with_reducible refine x_off ?_)
  | (with_reducible refine x_low ?_)
  | (with_reducible refine x_ownR ?_)
  | (with_reducible refine x_ownA ?_)
  | (with_reducible refine x_tup ?_)
  | (with_reducible refine x_kd ?_)
  | (with_reducible refine x_oneL ?_)
  | (with_reducible refine x_oneT ?_)
  | (with_reducible refine x_one ?_)
  | ((with_reducible refine' x_at ?h1 ?_); (case h1 => exact rfl))
  | ((with_reducible refine' x_dic ?h1 ?_); (case h1 => exact rfl))
  | (with_reducible refine (⟨rfl, ?_⟩ : Kd.l = Kd.l ∧ _))
  | ((with_reducible refine' x_len ?h1 ?_); (case h1 => exact rfl))
  | ((with_reducible refine' br_t ?h1 ?_); (case h1 => exact rfl))
  | ((with_reducible refine' br_f ?h1 ?_); (case h1 => exact rfl)))
local macro_rules | `(tactic| walk_at "f") => `(tactic| first
  | ((with_reducible refine' sx_forW ?h1 ?_); (case h1 => exact rfl))
  | (with_reducible refine sx_forGW ?_))
local macro_rules | `(tactic| walk_at "g") => `(tactic| repeat (first | walk_at "s" | walk_at "f" | walk_at "e" | walk_at "x"))
local macro_rules | `(tactic| walk_at "v") => `(tactic| repeat (first | walk_at "e" | walk_at "x"))
local macro_rules | `(tactic| walk_at "h") => `(tactic| repeat (first | walk_at "s" | walk_at "e" | walk_at "x"))
variable {P : Program} {w : World} {K : PySem.W.Frag} {mg : Str → Option Value} {base : Heap}

def S__law_above : List D → (D → Prop) → Prop := fun l K => ∃ r : ORow, l = [ownD r] ∧ r.length ≤ 6 ∧ K (.tup [.int (aboveW r), .int (whole r)])
theorem ok__law_above (T : Tx K mg)  : Cal P w K mg base 1 "_law_above" ["offer"] (SpFam (CL K) S__law_above) := by
  refine cal_mkF (N := ["offer", "weight", "worth"]) T.g__law_above T.d__law_above sc__law_above (fun _ _ _ _ _ _ us hl => match us, hl with | [_], _ => rfl) (by intro l Q h; first | (obtain ⟨rfl, _⟩ := h; rfl) | (obtain ⟨_, rfl, _⟩ := h; rfl) | (obtain ⟨_, _, rfl, _⟩ := h; rfl) | (obtain ⟨_, _, _, rfl, _⟩ := h; rfl) | (obtain ⟨_, _, _, _, rfl, _⟩ := h; rfl) | (obtain ⟨_, _, _, _, _, rfl, _⟩ := h; rfl) | (obtain ⟨_, _, _, _, _, _, rfl, _⟩ := h; rfl) | (obtain ⟨_, _, _, _, _, _, _, rfl, _⟩ := h; rfl) | (obtain ⟨_, _, _, _, _, _, _, _, rfl, _⟩ := h; rfl)) (fun f cdv A outer s H E hr => ⟨_, (pss_one (ps_ret (pe_tup (pa_cons (pe_callB (cr_sumK K rfl rfl) (by rfl) T.b_sum (by decide +kernel) (pa_cons (pe_lc (own := [("weight", 1), ("worth", 2)]) (g := gAny K 2 (gCons (gName 1) (gCons (gName 2) gNil)))  rfl sc__law_above.nd (pi_seqK K rfl (pe_dget (hu_of hr) (pv 0) pe_str (fun _ _ => rfl))) (blkOk_by (own := [("weight", 1), ("worth", 2)]) (N := ["offer", "weight", "worth"]) (sc := defScope s__law_above) (by decide +kernel)) (fun _ _ _ _ _ => (pg_anyK K rfl rfl (pgs_cons (pg_name (i := 1) sc__law_above.nd rfl (by first | exact Or.inl rfl | exact Or.inr rfl)) (pgs_cons (pg_name (i := 2) sc__law_above.nd rfl (by first | exact Or.inl rfl | exact Or.inr rfl)) pgs_nil)))) (fun _ _ _ _ _ => pts_one (pt_cmpR op_gtI (pe_ix (ix_seqK K rfl) (pv 2) pe_int (fun _ _ => rfl)) pe_int (nomark _))) (fun _ _ _ _ _ => (pv 1))) pa_nil)) (pa_cons (pe_dget (hu_of hr) (pv 0) pe_str (fun _ _ => rfl)) pa_nil))))), ?_⟩)
  intro nn B l Q h
  obtain ⟨r, rfl, hl, h⟩ := h
  walk_at "g"
  refine ⟨Int × Rat, r, _, fun p => .int p.1, fun p => decide (0 < p.2.num), rfl, Nat.le_of_lt (small1000 (by omega)), fun W1 p hp => ?_, ?_⟩
  · walk_at "g"
    refine ⟨rfl, fun _ => ?_⟩
    walk_at "g"
    rfl
  refine ⟨rfl, (r.filter fun p => decide (0 < p.2.num)).map (·.1), by rw [List.map_map]; rfl, ?_⟩
  walk_at "g"
  exact h

def S__law_due : List D → (D → Prop) → Prop := fun l K => ∃ (rs : List ORow) (n : Nat), l = [.lst (rs.map ownD), tabL rs n, .int (n : Nat)] ∧ (∀ r ∈ rs, RowOk r ∧ r.length ≤ 3) ∧ rs.length ≤ 6 ∧ n ≤ 4 ∧ K (.tup [.lst ((List.range rs.length).map fun i => lowD (lS rs n i)), .lst ((List.range rs.length).map fun i => lowD (lM rs n i))])
theorem ok__law_due (T : Tx K mg) (c__law_minus : Cal P w K mg base 1 "_law_minus" ["x", "y"] (SpFam (CL K) S__law_minus)) (c__law_low : Cal P w K mg base 2 "_law_low" ["x"] (SpFam (CL K) S__law_low)) (c__law_times : Cal P w K mg base 1 "_law_times" ["x", "y"] (SpFam (CL K) S__law_times)) (c__law_below : Cal P w K mg base 1 "_law_below" ["x", "y"] (SpFam (CL K) S__law_below)) (c__law_plus : Cal P w K mg base 1 "_law_plus" ["x", "y"] (SpFam (CL K) S__law_plus)) : Cal P w K mg base 3 "_law_due" ["offers", "table", "many"] (SpFam (CL K) S__law_due) := by
  refine cal_mkF (N := ["offers", "table", "many", "lefts", "shares", "means", "at", "offer", "fresh", "share", "mean", "left", "bar", "weight", "worth", "part"]) T.g__law_due T.d__law_due sc__law_due (fun _ _ _ _ _ _ us hl => match us, hl with | [_, _, _], _ => rfl) (by intro l Q h; first | (obtain ⟨rfl, _⟩ := h; rfl) | (obtain ⟨_, rfl, _⟩ := h; rfl) | (obtain ⟨_, _, rfl, _⟩ := h; rfl) | (obtain ⟨_, _, _, rfl, _⟩ := h; rfl) | (obtain ⟨_, _, _, _, rfl, _⟩ := h; rfl) | (obtain ⟨_, _, _, _, _, rfl, _⟩ := h; rfl) | (obtain ⟨_, _, _, _, _, _, rfl, _⟩ := h; rfl) | (obtain ⟨_, _, _, _, _, _, _, rfl, _⟩ := h; rfl) | (obtain ⟨_, _, _, _, _, _, _, _, rfl, _⟩ := h; rfl)) (fun f cdv A outer s H E hr => ⟨_, (pss_cons (ps_set (i := 3) sc__law_due.nd rfl (by first | exact Or.inl rfl | exact Or.inr rfl) (pe_op op_cat (pe_op op_rep (pe_lst (pa_cons (pe_tup (pa_cons pe_int (pa_cons pe_int pa_nil))) pa_nil)) (pv 2)) (pe_lst (pa_cons (pe_tup (pa_cons pe_int (pa_cons pe_int pa_nil))) pa_nil)))) (pss_cons (ps_set (i := 4) sc__law_due.nd rfl (by first | exact Or.inl rfl | exact Or.inr rfl) (pe_lst pa_nil)) (pss_cons (ps_set (i := 5) sc__law_due.nd rfl (by first | exact Or.inl rfl | exact Or.inr rfl) (pe_lst pa_nil)) (pss_cons (ps_for PassesOwn.never rfl (pi_range1 (by rfl) T.b_range (pa_cons (pe_callB (cr_lenK K rfl) (by rfl) T.b_len PySem.boot_len (pa_cons (pv 0) pa_nil)) pa_nil)) (pg_name (i := 6) sc__law_due.nd rfl (by first | exact Or.inl rfl | exact Or.inr rfl)) (pss_cons (ps_set (i := 7) sc__law_due.nd rfl (by first | exact Or.inl rfl | exact Or.inr rfl) (pe_ix (ix_seqK K rfl) (pv 0) (pv 6) (fun _ _ => rfl))) (pss_cons (ps_set (i := 8) sc__law_due.nd rfl (by first | exact Or.inl rfl | exact Or.inr rfl) (pe_op op_rep (pe_lst (pa_cons (pe_tup (pa_cons pe_int (pa_cons pe_int pa_nil))) pa_nil)) (pe_op op_addI (pv 2) pe_int))) (pss_cons (ps_asg (pe_ix (ix_seqK K rfl) (pv 3) pe_int (fun _ _ => rfl)) (pg_sub (pv 8) pe_int set_list)) (pss_cons (ps_set (i := 9) sc__law_due.nd rfl (by first | exact Or.inl rfl | exact Or.inr rfl) (pe_tup (pa_cons pe_int (pa_cons pe_int pa_nil)))) (pss_cons (ps_set (i := 10) sc__law_due.nd rfl (by first | exact Or.inl rfl | exact Or.inr rfl) (pe_tup (pa_cons pe_int (pa_cons pe_int pa_nil)))) (pss_cons (ps_for PassesOwn.never rfl (pi_range2 (by rfl) T.b_range (pa_cons pe_int (pa_cons (pe_op op_addI (pv 2) pe_int) pa_nil))) (pg_name (i := 11) sc__law_due.nd rfl (by first | exact Or.inl rfl | exact Or.inr rfl)) (pss_cons (ps_set (i := 12) sc__law_due.nd rfl (by first | exact Or.inl rfl | exact Or.inr rfl) (pe_calC c__law_minus hr (by decide) (by rfl) (pa_cons (pe_ix (ix_seqK K rfl) (pe_ix (ix_seqK K rfl) (pv 1) (pe_op op_addI (pv 6) pe_int) (fun _ _ => rfl)) (pv 11) (fun _ _ => rfl)) (pa_cons (pe_ix (ix_seqK K rfl) (pe_ix (ix_seqK K rfl) (pv 1) (pe_op op_addI (pv 6) pe_int) (fun _ _ => rfl)) (pe_op op_subI (pv 11) pe_int) (fun _ _ => rfl)) pa_nil)))) (pss_one (ps_for PassesOwn.never rfl (pi_seqK K rfl (pe_dget (hu_of hr) (pv 7) pe_str (fun _ _ => rfl))) (pg_anyK K rfl rfl (pgs_cons (pg_name (i := 13) sc__law_due.nd rfl (by first | exact Or.inl rfl | exact Or.inr rfl)) (pgs_cons (pg_name (i := 14) sc__law_due.nd rfl (by first | exact Or.inl rfl | exact Or.inr rfl)) pgs_nil))) (pss_cons (ps_set (i := 15) sc__law_due.nd rfl (by first | exact Or.inl rfl | exact Or.inr rfl) (pe_calC c__law_low hr (by decide) (by rfl) (pa_cons (pe_calC c__law_times hr (by decide) (by rfl) (pa_cons (pe_ix (ix_seqK K rfl) (pv 3) (pv 11) (fun _ _ => rfl)) (pa_cons (pe_tup (pa_cons (pv 13) (pa_cons (pe_dget (hu_of hr) (pv 7) pe_str (fun _ _ => rfl)) pa_nil))) pa_nil))) pa_nil))) (pss_one (ps_if (PW.pt (pw_and (pt_cmpR op_gtI (pe_ix (ix_seqK K rfl) (pv 14) pe_int (fun _ _ => rfl)) pe_int (nomark _)) (pw_and1 (pt_not (pt_val (pe_calC c__law_below hr (by decide) (by rfl) (pa_cons (pv 14) (pa_cons (pv 12) pa_nil)))))))) (pss_cons (ps_set (i := 9) sc__law_due.nd rfl (by first | exact Or.inl rfl | exact Or.inr rfl) (pe_calC c__law_low hr (by decide) (by rfl) (pa_cons (pe_calC c__law_plus hr (by decide) (by rfl) (pa_cons (pv 9) (pa_cons (pv 15) pa_nil))) pa_nil))) (pss_cons (ps_set (i := 10) sc__law_due.nd rfl (by first | exact Or.inl rfl | exact Or.inr rfl) (pe_calC c__law_low hr (by decide) (by rfl) (pa_cons (pe_calC c__law_plus hr (by decide) (by rfl) (pa_cons (pv 10) (pa_cons (pe_calC c__law_times hr (by decide) (by rfl) (pa_cons (pv 15) (pa_cons (pv 14) pa_nil))) pa_nil))) pa_nil))) (pss_one (ps_asg (pe_calC c__law_low hr (by decide) (by rfl) (pa_cons (pe_calC c__law_plus hr (by decide) (by rfl) (pa_cons (pe_ix (ix_seqK K rfl) (pv 8) (pe_op op_subI (pv 11) pe_int) (fun _ _ => rfl)) (pa_cons (pv 15) pa_nil))) pa_nil)) (pg_sub (pv 8) (pe_op op_subI (pv 11) pe_int) set_list))))) (pss_one (ps_asg (pe_calC c__law_low hr (by decide) (by rfl) (pa_cons (pe_calC c__law_plus hr (by decide) (by rfl) (pa_cons (pe_ix (ix_seqK K rfl) (pv 8) (pv 11) (fun _ _ => rfl)) (pa_cons (pv 15) pa_nil))) pa_nil)) (pg_sub (pv 8) (pv 11) set_list)))))))))) (pss_cons (ps_expr (pe_bm PySem.F.plainAttrs_list PySem.F.slot_list_append PySem.F.type_list_append mt_append (pv 4) (pa_cons (pv 9) pa_nil))) (pss_cons (ps_expr (pe_bm PySem.F.plainAttrs_list PySem.F.slot_list_append PySem.F.type_list_append mt_append (pv 5) (pa_cons (pv 10) pa_nil))) (pss_one (ps_set (i := 3) sc__law_due.nd rfl (by first | exact Or.inl rfl | exact Or.inr rfl) (pe_callTy (cr_listK K rfl) (by rfl) T.b_list (by decide +kernel) (pa_cons (pv 8) pa_nil))))))))))))) (pss_one (ps_ret (pe_tup (pa_cons (pv 4) (pa_cons (pv 5) pa_nil))))))))), ?_⟩)
  intro nn B l Q h
  obtain ⟨rs, n, rfl, ok, hr, hn, h⟩ := h
  walk_at "h"
  refine ⟨by omega, by omega, Nat.le_of_lt (small1000 (by simp; omega)), ?_⟩
  rw [rep_zero]
  walk_at "h"
  refine ⟨Nat.le_of_lt (small1000 (by simp [vecL_len]; omega)), ?_⟩
  have e1 : vecL (fun _ => 0) n ++ [D.tup [.int 1, .int 1]] = vecL (c0 n) (n + 1) := by
    rw [vecL_succ, show c0 n n = 1 by simp [c0]]
    congr 1
    unfold vecL
    apply List.map_congr_left
    intro i hi
    have := List.mem_range.mp hi
    rw [show c0 n i = 0 by unfold c0; rw [if_neg (by omega)]]
  rw [e1]
  refine sx_seq ?_
  refine' sx_setO ?h1 ?_
  case h1 => exact rfl
  walk_at "e"
  walk_at "e"
  refine ⟨by decide, ?_⟩
  refine sx_seq ?_
  refine' sx_setO ?h1 ?_
  case h1 => exact rfl
  walk_at "g"
  refine ⟨(rs.length : Nat), by rw [List.length_map], by omega, by omega, ?_⟩
  refine ⟨Nat, List.range rs.length, _, fun j => [.d (.lst (rs.map ownD)), .d (tabL rs n), .d (.int (n : Nat)), .d (.lst (vecL (lch rs n j) (n + 1))), .own ((List.range j).map fun i => lowD (lS rs n i)), .own ((List.range j).map fun i => lowD (lM rs n i)), .no, .no, .no, .no, .no, .no, .no, .no, .no, .no], rng1', Wk.refl, fun j => rfl, fun B' j x hx => ?_, fun Γ' w => sx_weak w ?_⟩
  · obtain ⟨rfl, hj⟩ := rng_get' hx
    have ok1 : ∀ r ∈ rs, RowOk r := fun r hr => (ok r hr).1
    have er : rs[x]? = some (rowAt rs x) := by
      have e : rs[x]? = some rs[x] := by simp [hj]
      rw [rowAt_of e]; exact e
    have okr := ok _ (List.mem_of_getElem? er)
    have hl := okr.2
    have nc := lch_nice (n := n) ok (i := x) (by omega)
    have hk : (1 + 3 * n) * x ≤ 13 * 5 := Nat.mul_le_mul (by omega) (by omega)
    have nt := TT_nice ok1 (x + 1)
    walk_at "h"
    refine x_at (own_at hj) ?_
    refine sx_seq ?_
    refine' sx_setO ?h1 ?_
    case h1 => exact rfl
    walk_at "h"
    refine ⟨by omega, by omega, Nat.le_of_lt (small1000 (by simp; omega)), ?_⟩
    rw [show ((n : Int) + 1).toNat = (((n + 1 : Nat) : Int)).toNat by omega, rep_zero]
    walk_at "h"
    refine x_at (atL (i := 0) rfl (by omega)) ?_
    walk_at "h"
    refine ⟨_, 0, rfl, by rw [vecL_len]; exact ixN_eq' rfl (by omega), ?_⟩
    rw [vecL_set]
    walk_at "h"
    walk_at "f"
    walk_at "h"
    refine ⟨1, (n : Int) + 1, rfl, ⟨by decide, by decide, by omega, by omega⟩, ?_⟩
    refine ⟨Nat, List.range n, _, fun l => [.d (.lst (rs.map ownD)), .d (tabL rs n), .d (.int (n : Nat)), .d (.lst (vecL (lch rs n x) (n + 1))), .own ((List.range x).map fun i => lowD (lS rs n i)), .own ((List.range x).map fun i => lowD (lM rs n i)), .d (.int (x : Int)), .d (ownD (rowAt rs x)),
      .own (vecL (dF (rowAt rs x) (barAt rs x) (lch rs n x) l) (n + 1)), .d (lowD (dS (rowAt rs x) (barAt rs x) (lch rs n x) l)), .d (lowD (dM (rowAt rs x) (barAt rs x) (lch rs n x) l)), .no, .no, .no, .no, .no], rng2' (by omega), ?_, fun j => rfl, fun B' l y hy => ?_, fun Γ' w => sx_weak w ?_⟩
    · exact .same (.same (.same (.same (.same (.same (.same (.same (.same (.same (.same (.same (.same (.same (.same (.same .nil)))))))))))))))
    · obtain ⟨rfl, hyn⟩ := rng_get' hy
      have n1 := nt y
      have n2 := nt (y + 1)
      have n3 := nc (y + 1)
      have nF := dF_nice okr.1 okr.2 (b := barAt rs x) nc y
      have nS := dS_nice okr.1 okr.2 (b := barAt rs x) nc y
      have nM := dM_nice okr.1 okr.2 (b := barAt rs x) nc y
      unfold tabL
      walk_at "h"
      refine x_at (tabL_at (f := fun i => vecL (TT (rs.drop i)) (n + 1)) (i := x + 1) (by omega) (by omega)) ?_
      walk_at "h"
      refine x_at (atL (i := y + 1) (by omega) (by omega)) ?_
      walk_at "h"
      refine x_at (tabL_at (f := fun i => vecL (TT (rs.drop i)) (n + 1)) (i := x + 1) (by omega) (by omega)) ?_
      walk_at "h"
      refine x_at (atL (i := y) (by omega) (by omega)) ?_
      walk_at "h"
      refine ⟨_, _, _, _, _, _, rfl, LR.low n2, LR.low n1, by omega, by omega, fun zb hzb => ?_⟩
      walk_at "h"
      walk_at "f"
      walk_at "h"
      refine ⟨Int × Rat, rowAt rs x, _, fun i => [.d (.lst (rs.map ownD)), .d (tabL rs n), .d (.int (n : Nat)), .d (.lst (vecL (lch rs n x) (n + 1))), .own ((List.range x).map fun i => lowD (lS rs n i)), .own ((List.range x).map fun i => lowD (lM rs n i)), .d (.int (x : Int)), .d (ownD (rowAt rs x)), .own (vecL (((rowAt rs x).take i).foldl (stepF (rowAt rs x) (barAt rs x y) (lch rs n x) y) (dF (rowAt rs x) (barAt rs x) (lch rs n x) y)) (n + 1)), .d (lowD (((rowAt rs x).take i).foldl (stepS (rowAt rs x) (barAt rs x y) (lch rs n x) y) (dS (rowAt rs x) (barAt rs x) (lch rs n x) y))), .d (lowD (((rowAt rs x).take i).foldl (stepM (rowAt rs x) (barAt rs x y) (lch rs n x) y) (dM (rowAt rs x) (barAt rs x) (lch rs n x) y))), .d (.int (1 + (y : Int))), .d zb, .no, .no, .no], rfl, Wk.refl, fun B'' i p hp => ?_, fun Γ' w => ?_⟩
      · have hp' := List.mem_of_getElem? hp
        have hi := (List.getElem?_eq_some_iff.mp hp).1
        have n4 := okr.1.n p hp'
        have hy3 : 3 * y ≤ 9 := by omega
        have hti : ((rowAt rs x).take i).length ≤ 3 := by rw [List.length_take]; omega
        have mF := stepF_nice okr.1 (b := barAt rs x y) (l := y) nc (by omega) (take_sub (j := i)) nF
        have mS := stepS_nice okr.1 (b := barAt rs x y) (l := y) nc (by omega) (take_sub (j := i)) nS
        have mM := stepM_nice okr.1 (b := barAt rs x y) (l := y) nc (by omega) (take_sub (j := i)) nM
        have np : Nice ((1 + 3 * n) * x + 1 + 1) (lch rs n x (y + 1) * share (rowAt rs x) p.1) := n3.mul (okr.1.sh p hp')
        walk_at "h"
        refine x_at (atL (i := y + 1) (by omega) (by omega)) ?_
        walk_at "h"
        refine ⟨_, _, _, _, _, _, rfl, LR.low n3, LR.share okr.1 hp', by omega, by omega, fun z1 hz1 => ?_⟩
        walk_at "h"
        refine ⟨_, _, _, rfl, hz1, by omega, ?_⟩
        walk_at "h"
        refine br_p (fun t1 => ?_) (fun t1 => ?_)
        · walk_at "h"
          refine ⟨_, _, _, _, _, _, rfl, LR.low n4, hzb, by omega, by omega, ?_⟩
          walk_at "h"
          refine br_n (fun (t2 : ¬ p.2 < barAt rs x y) => ?_) (fun (t2 : p.2 < barAt rs x y) => ?_)
          · have ht : takes (barAt rs x y) p = true := by
              unfold takes; rw [decide_eq_true t1, decide_eq_false t2]; rfl
            walk_at "h"
            refine ⟨_, _, _, _, _, _, rfl, LR.low mS, LR.low np, by omega, by omega, fun z3 hz3 => ?_⟩
            walk_at "h"
            refine ⟨_, _, _, rfl, hz3, by omega, ?_⟩
            walk_at "h"
            refine ⟨_, _, _, _, _, _, rfl, LR.low np, LR.low n4, by omega, by omega, fun z4 hz4 => ?_⟩
            walk_at "h"
            refine ⟨_, _, _, _, _, _, rfl, LR.low mM, hz4, by omega, by omega, fun z5 hz5 => ?_⟩
            walk_at "h"
            refine ⟨_, _, _, rfl, hz5, by omega, ?_⟩
            walk_at "h"
            refine x_at (atL (i := y) (by omega) (by omega)) ?_
            walk_at "h"
            refine ⟨_, _, _, _, _, _, rfl, LR.low (mF y), LR.low np, by omega, by omega, fun z6 hz6 => ?_⟩
            walk_at "h"
            refine ⟨_, _, _, rfl, hz6, by omega, ?_⟩
            walk_at "h"
            refine ⟨_, y, rfl, by rw [vecL_len]; exact ixN_eq' (by omega) (by omega), ?_⟩
            rw [vecL_set]
            show Wk _ [_, _, _, _, _, _, _, _, .own (vecL (((rowAt rs x).take (i + 1)).foldl (stepF (rowAt rs x) (barAt rs x y) (lch rs n x) y) (dF (rowAt rs x) (barAt rs x) (lch rs n x) y)) (n + 1)), .d (lowD (((rowAt rs x).take (i + 1)).foldl (stepS (rowAt rs x) (barAt rs x y) (lch rs n x) y) (dS (rowAt rs x) (barAt rs x) (lch rs n x) y))), .d (lowD (((rowAt rs x).take (i + 1)).foldl (stepM (rowAt rs x) (barAt rs x y) (lch rs n x) y) (dM (rowAt rs x) (barAt rs x) (lch rs n x) y))), _, _, .no, .no, .no]
            rw [foldl_take hp, foldl_take hp, foldl_take hp]
            unfold stepF stepS stepM
            rw [if_pos ht, if_pos ht, if_pos ht]
            exact .same (.same (.same (.same (.same (.same (.same (.same (.same (.same (.same (.same (.same (.no (.no (.no .nil)))))))))))))))
          · have ht : takes (barAt rs x y) p = false := by
              unfold takes; rw [decide_eq_true t1, decide_eq_true t2]; rfl
            walk_at "h"
            refine x_at (atL (i := y + 1) (by omega) (by omega)) ?_
            walk_at "h"
            refine ⟨_, _, _, _, _, _, rfl, LR.low (mF (y + 1)), LR.low np, by omega, by omega, fun z3 hz3 => ?_⟩
            walk_at "h"
            refine ⟨_, _, _, rfl, hz3, by omega, ?_⟩
            walk_at "h"
            refine ⟨_, y + 1, rfl, by rw [vecL_len]; exact ixN_eq' (by omega) (by omega), ?_⟩
            rw [vecL_set]
            show Wk _ [_, _, _, _, _, _, _, _, .own (vecL (((rowAt rs x).take (i + 1)).foldl (stepF (rowAt rs x) (barAt rs x y) (lch rs n x) y) (dF (rowAt rs x) (barAt rs x) (lch rs n x) y)) (n + 1)), .d (lowD (((rowAt rs x).take (i + 1)).foldl (stepS (rowAt rs x) (barAt rs x y) (lch rs n x) y) (dS (rowAt rs x) (barAt rs x) (lch rs n x) y))), .d (lowD (((rowAt rs x).take (i + 1)).foldl (stepM (rowAt rs x) (barAt rs x y) (lch rs n x) y) (dM (rowAt rs x) (barAt rs x) (lch rs n x) y))), _, _, .no, .no, .no]
            rw [foldl_take hp, foldl_take hp, foldl_take hp]
            unfold stepF stepS stepM
            rw [if_neg (by rw [ht]; decide), if_neg (by rw [ht]; decide), if_neg (by rw [ht]; decide)]
            exact .same (.same (.same (.same (.same (.same (.same (.same (.same (.same (.same (.same (.same (.no (.no (.no .nil)))))))))))))))
        · have ht : takes (barAt rs x y) p = false := by
            unfold takes; rw [decide_eq_false t1]; rfl
          walk_at "h"
          refine x_at (atL (i := y + 1) (by omega) (by omega)) ?_
          walk_at "h"
          refine ⟨_, _, _, _, _, _, rfl, LR.low (mF (y + 1)), LR.low np, by omega, by omega, fun z3 hz3 => ?_⟩
          walk_at "h"
          refine ⟨_, _, _, rfl, hz3, by omega, ?_⟩
          walk_at "h"
          refine ⟨_, y + 1, rfl, by rw [vecL_len]; exact ixN_eq' (by omega) (by omega), ?_⟩
          rw [vecL_set]
          show Wk _ [_, _, _, _, _, _, _, _, .own (vecL (((rowAt rs x).take (i + 1)).foldl (stepF (rowAt rs x) (barAt rs x y) (lch rs n x) y) (dF (rowAt rs x) (barAt rs x) (lch rs n x) y)) (n + 1)), .d (lowD (((rowAt rs x).take (i + 1)).foldl (stepS (rowAt rs x) (barAt rs x y) (lch rs n x) y) (dS (rowAt rs x) (barAt rs x) (lch rs n x) y))), .d (lowD (((rowAt rs x).take (i + 1)).foldl (stepM (rowAt rs x) (barAt rs x y) (lch rs n x) y) (dM (rowAt rs x) (barAt rs x) (lch rs n x) y))), _, _, .no, .no, .no]
          rw [foldl_take hp, foldl_take hp, foldl_take hp]
          unfold stepF stepS stepM
          rw [if_neg (by rw [ht]; decide), if_neg (by rw [ht]; decide), if_neg (by rw [ht]; decide)]
          exact .same (.same (.same (.same (.same (.same (.same (.same (.same (.same (.same (.same (.same (.no (.no (.no .nil)))))))))))))))
      · dsimp only at w
        rw [List.take_of_length_le (Nat.le_refl _)] at w
        exact w.trans (.same (.same (.same (.same (.same (.same (.same (.same (.same (.same (.same (.no (.no (.no (.no (.no .nil))))))))))))))))
    · dsimp only
      rw [List.length_range]
      walk_at "h"
      refine ⟨small1000 (by simp; omega), ?_⟩
      walk_at "h"
      refine ⟨small1000 (by simp; omega), ?_⟩
      walk_at "h"
      show Wk _ [_, _, _, .d (.lst (vecL (lch rs n (x + 1)) (n + 1))), .own ((List.range (x + 1)).map fun i => lowD (lS rs n i)), .own ((List.range (x + 1)).map fun i => lowD (lM rs n i)), .no, .no, .no, .no, .no, .no, .no, .no, .no, .no]
      rw [List.range_succ, List.map_append, List.map_append]
      exact .same (.same (.same (.same (.same (.same (.no (.no (.no (.no (.no (.no (.no (.no (.no (.no .nil)))))))))))))))
  · dsimp only
    rw [List.length_range]
    refine sx_freeze 4 rfl ?_
    refine sx_freeze 5 rfl ?_
    walk_at "g"
    exact h

end

end K
end

section
set_option maxRecDepth 100000
set_option maxHeartbeats 4000000
namespace K
open PySem PySem.Spec PyProof.Rows L2 G

theorem rng1s {n : Nat} : rangeD 0 ((n : Int) + 1).toNat = (List.range (n + 1)).map fun (k : Nat) => .int (k : Int) := rng1 (n := n + 1)
theorem cut1 {l : List D} {x : D} {xs : List D} (h : l = x :: xs) (hl : l.length ≤ 1000) : G.cutD l (some 1) none = xs := by
  subst h
  unfold G.cutD
  simp [HT.sIx]
def tabD (rs : List ORow) (n : Nat) : D := .lst ((List.range (rs.length + 1)).map fun i => .lst (vec (TT (rs.drop i)) (n + 1)))
section
local macro_rules | `(tactic| walk_at "e") => `(tactic| first
  | ((with_reducible refine' ek_var ?h1 ?_); (case h1 => exact rfl))
  | (with_reducible refine ek_int ?_)
  | (with_reducible refine ek_bl ?_)
  | (with_reducible refine ek_non ?_)
  | (with_reducible refine ek_str ?_)
  | (with_reducible refine ek_ty ?_)
  | (with_reducible refine ek_cls ?_)
  | (with_reducible refine ek_ix ?_)
  | (with_reducible refine ek_un ?_)
  | (with_reducible refine ek_tup ?_)
  | (with_reducible refine k_call ?_)
  | (with_reducible refine ek_len ?_)
  | (with_reducible refine ek_tuple ?_)
  | (with_reducible refine ek_sum ?_)
  | (with_reducible refine ek_all ?_)
  | (with_reducible refine ek_any ?_)
  | (with_reducible refine ek_chain ?_)
  | (with_reducible refine ek_andV ?_)
  | (with_reducible refine ek_orV ?_)
  | (with_reducible refine ek_notV ?_)
  | (with_reducible refine ek_if ?_)
  | (with_reducible refine ek_ef (ef_lst ?_))
  | (with_reducible refine ek_ef (ef_list ?_))
  | (with_reducible refine ek_ef (ef_cat ?_))
  | (with_reducible refine ek_ef (ef_rep ?_))
  | (with_reducible refine ek_ef (ef_slice ?_))
  | (with_reducible refine ek_ef (ef_rev ?_))
  | (with_reducible refine ek_ef (ef_lstRev ?_))
  | (with_reducible refine ek_ef (ef_map ?_))
  | (with_reducible refine ek_ef (ef_filt ?_))
  | (with_reducible refine ef_lst ?_)
  | (with_reducible refine ef_list ?_)
  | (with_reducible refine ef_cat ?_)
  | (with_reducible refine ef_rep ?_)
  | (with_reducible refine ef_slice ?_)
  | (with_reducible refine ef_rev ?_)
  | (with_reducible refine ef_lstRev ?_)
  | (with_reducible refine ef_map ?_)
  | (with_reducible refine ef_filt ?_)
  | ((with_reducible refine' el_var ?h1 ?_); (case h1 => exact rfl))
  | ((with_reducible refine' el_own ?h1 ?_); (case h1 => exact rfl))
  | (with_reducible refine el_ef (ef_lst ?_))
  | (with_reducible refine el_ef (ef_list ?_))
  | (with_reducible refine el_ef (ef_cat ?_))
  | (with_reducible refine el_ef (ef_rep ?_))
  | (with_reducible refine el_ef (ef_slice ?_))
  | (with_reducible refine el_ef (ef_rev ?_))
  | (with_reducible refine el_ef (ef_lstRev ?_))
  | (with_reducible refine el_ef (ef_map ?_))
  | (with_reducible refine el_ef (ef_filt ?_))
  | (with_reducible refine ek_op ?_)
  | (with_reducible refine ek_cb ?_)
  | (with_reducible refine el_ek ?_)
  | (with_reducible refine tk_test ?_)
  | (with_reducible refine tk_B ?_)
  | (with_reducible refine tk_and ?_)
  | (with_reducible refine tk_or ?_)
  | (with_reducible refine tk_not ?_)
  | (with_reducible refine tk_yes ?_)
  | (with_reducible refine ak_nil ?_)
  | (with_reducible refine ak_cons ?_)
  | (with_reducible refine k_num (‹Tx _ _›) ?_)
  | (with_reducible refine k_den (‹Tx _ _›) ?_)
  | (with_reducible refine k_mk2 ?_)
  | (with_reducible refine k_mkO ?_)
  | (with_reducible refine k_rows (‹Tx _ _›) ?_)
  | (with_reducible refine k_mk1 ?_)
  | (with_reducible refine k_bel ?_)
  | (with_reducible refine k_own ?_)
  | (with_reducible refine rk_U2 (k_own ?_))
  | (with_reducible refine rk_mul (Sz.mul (by assumption) (by assumption)) ?_)
  | (with_reducible refine rk_U1 (rk_mul (Sz.mul (by assumption) (by assumption)) ?_))
  | (with_reducible refine ek_dget ?_)
  | (with_reducible refine uk_neg ?_)
  | (with_reducible refine ek_disp ?_)
  | (with_reducible refine pk_cons ?_)
  | (with_reducible refine pk_nil ?_)
  | (with_reducible refine rk_mod (by assumption) ?_)
  | (with_reducible refine rk_add ?_)
  | (with_reducible refine rk_sub ?_)
  | (with_reducible refine rk_lt ?_)
  | (with_reducible refine rk_le ?_)
  | (with_reducible refine rk_gt ?_)
  | (with_reducible refine rk_ge ?_)
  | (with_reducible refine rk_eqI ?_)
  | (with_reducible refine rk_neI ?_)
  | (with_reducible refine rk_isN ?_)
  | (with_reducible refine rk_notN ?_)
  | (with_reducible refine rk_U1 (rk_add ?_))
  | (with_reducible refine rk_U1 (rk_sub ?_))
  | (with_reducible refine ck_gcd ?_)
  | (with_reducible refine ck_abs ?_)
  | (with_reducible refine ck_int ?_)
  | (with_reducible refine ik_seq ?_)
  | (with_reducible refine ik_range1 ?_)
  | (with_reducible refine ik_range2 ?_)
  | (with_reducible refine ik_enumA ?_)
  | (with_reducible refine ik_zip ?_)
  | (with_reducible refine ik_rev ?_)
  | ((with_reducible refine' cg_name ?_ ?h1 ?h2); (case h1 => exact rfl); (case h2 => decide))
  | ((with_reducible refine' cg_anyT ?h1 ?_); (case h1 => exact rfl))
  | ((with_reducible refine' cg_anyL ?h1 ?_); (case h1 => exact rfl))
  | ((with_reducible refine' cg_anyK ?h1 ?_); (case h1 => exact rfl))
  | ((with_reducible refine' cgs_cons ?_ ?h1 ?h2); (case h1 => exact rfl); (case h2 => decide))
  | (with_reducible refine cgs_nil ?_)
  | ((with_reducible refine' gk_name ?_ ?h1); (case h1 => exact rfl))
  | ((with_reducible refine' gk_anyT ?h1 ?_); (case h1 => exact rfl))
  | ((with_reducible refine' gk_anyL ?h1 ?_); (case h1 => exact rfl))
  | ((with_reducible refine' gk_anyK ?h1 ?_); (case h1 => exact rfl))
  | ((with_reducible refine' gks_cons ?_ ?h1); (case h1 => exact rfl))
  | ((with_reducible refine' gks_consA (n := 0) ?_ ?h1 ?h2); (case h1 => exact rfl); (case h2 => exact rfl))
  | ((with_reducible refine' gks_consB ?h0 ?_ ?h1 ?h2); (case h0 => exact rfl); (case h1 => exact rfl); (case h2 => exact rfl))
  | (with_reducible refine gks_nil ?_)
  | (with_reducible refine ok_none ?_)
  | (with_reducible refine ok_some ?_))
local macro_rules | `(tactic| walk_at "s") => `(tactic| first
  | (with_reducible refine sx_guard ?_ ?_)
  | (with_reducible refine sx_seq ?_)
  | (with_reducible refine sx_ret ?_)
  | (with_reducible refine sx_if ?_)
  | (with_reducible refine sx_next ?_)
  | (with_reducible refine sx_break ?_)
  | (with_reducible refine sx_cont ?_)
  | ((with_reducible refine' sx_append ?h1 ?_); (case h1 => exact rfl))
  | ((with_reducible refine' sx_setI ?h1 ?_); (case h1 => exact rfl))
  | ((with_reducible refine' sx_set ?h1 ?_); (case h1 => exact rfl))
  | (with_reducible refine sx_asg ?_)
  | ((with_reducible refine' sx_par ?h1 ?h2 ?_); (case h1 => exact rfl); (case h2 => exact rfl))
  | (with_reducible refine sx_drop ?_)
  | ((with_reducible refine' k_fldS (‹Tx _ _›) ?h1 ?h2 ?h3 ?_); (case h1 => exact rfl); (case h2 => decide); (case h3 => exact rfl))
  | ((with_reducible refine' k_fldO (‹Tx _ _›) ?h1 ?h3 ?_); (case h1 => exact rfl); (case h3 => exact rfl)))
/-! plain existentials that the rules leave -/
local macro_rules | `(tactic| walk_at "x") => `(tactic| first
  | (with_reducible refine x_bl ?_)
  | (with_reducible refine x_int ?_)
  | (with_reducible refine x_frac ?_)
  | (with_reducible refine x_lst ?_)
  | (with_reducible refine x_off ?_)
  | (with_reducible refine x_low ?_)
  | (with_reducible refine x_ownR ?_)
  | (with_reducible refine x_ownA ?_)
  | (with_reducible refine x_tup ?_)
  | (with_reducible refine x_kd ?_)
  | (with_reducible refine x_oneL ?_)
  | (with_reducible refine x_oneT ?_)
  | (with_reducible refine x_one ?_)
  | ((with_reducible refine' x_at ?h1 ?_); (case h1 => exact rfl))
  | ((with_reducible refine' x_dic ?h1 ?_); (case h1 => exact rfl))
  | (with_reducible refine (⟨rfl, ?_⟩ : Kd.l = Kd.l ∧ _))
  | ((with_reducible refine' x_len ?h1 ?_); (case h1 => exact rfl))
  | ((with_reducible refine' br_t ?h1 ?_); (case h1 => exact rfl))
  | ((with_reducible refine' br_f ?h1 ?_); (case h1 => exact rfl)))
local macro_rules | `(tactic| walk_at "f") => `(tactic| first
  | ((with_reducible refine' sx_forW ?h1 ?_); (case h1 => exact rfl))
  | (with_reducible refine sx_forGW ?_))
local macro_rules | `(tactic| walk_at "g") => `(tactic| repeat (first | walk_at "s" | walk_at "f" | walk_at "e" | walk_at "x"))
local macro_rules | `(tactic| walk_at "v") => `(tactic| repeat (first | walk_at "e" | walk_at "x"))
local macro_rules | `(tactic| walk_at "h") => `(tactic| repeat (first | walk_at "s" | walk_at "e" | walk_at "x"))
variable {P : Program} {w : World} {K : PySem.W.Frag} {mg : Str → Option Value} {base : Heap}

def S_turn_rows : List D → (D → Prop) → Prop := fun l K => ∃ (rs : List ORow) (n : Nat), l = [offD rs, .int (n : Nat)] ∧ (∀ r ∈ rs, RowOk r) ∧ rs.length ≤ 8 ∧ n ≤ 31 ∧ K (tabD rs n)
theorem ok_turn_rows (T : Tx K mg) (m_Frac1 : CalM P w K mg base 2 "Frac" [.int 1] (SpFamI (CL K) (He.ga K "Frac") S_FracD_initD)) (c_row_before : Cal P w K mg base 6 "row_before" ["row", "later", "many"] (SpFam (CL K) S_row_before)) : Cal P w K mg base 7 "turn_rows" ["offers", "many"] (SpFam (CL K) S_turn_rows) := by
  refine cal_mkF (N := ["offers", "many", "rows", "row", "_"]) T.g_turn_rows T.d_turn_rows sc_turn_rows (fun _ _ _ _ _ _ us hl => match us, hl with | [_, _], _ => rfl) (by intro l Q h; first | (obtain ⟨rfl, _⟩ := h; rfl) | (obtain ⟨_, rfl, _⟩ := h; rfl) | (obtain ⟨_, _, rfl, _⟩ := h; rfl) | (obtain ⟨_, _, _, rfl, _⟩ := h; rfl) | (obtain ⟨_, _, _, _, rfl, _⟩ := h; rfl) | (obtain ⟨_, _, _, _, _, rfl, _⟩ := h; rfl) | (obtain ⟨_, _, _, _, _, _, rfl, _⟩ := h; rfl) | (obtain ⟨_, _, _, _, _, _, _, rfl, _⟩ := h; rfl) | (obtain ⟨_, _, _, _, _, _, _, _, rfl, _⟩ := h; rfl)) (fun f cdv A outer s H E hr => ⟨_, (pss_cons (ps_set (i := 2) sc_turn_rows.nd rfl (by first | exact Or.inl rfl | exact Or.inr rfl) (pe_lst (pa_cons (pe_lc (own := [("_", 4)]) (g := gName 4) (tt := tYes) rfl sc_turn_rows.nd (pi_range1 (by rfl) T.b_range (pa_cons (pe_op op_addI (pv 1) pe_int) pa_nil)) (blkOk_by (own := [("_", 4)]) (N := ["offers", "many", "rows", "row", "_"]) (sc := defScope s_turn_rows) (by decide +kernel)) (fun _ _ _ _ _ => (pg_name (i := 4) sc_turn_rows.nd rfl (by first | exact Or.inl rfl | exact Or.inr rfl))) (fun _ _ _ _ _ => pts_nil) (fun _ _ _ _ _ => (pe_mkK K rfl m_Frac1 hr (by decide) (by rfl) (pa_cons pe_int pa_nil)))) pa_nil))) (pss_cons (ps_for PassesOwn.never rfl (pi_revK K rfl (by rfl) T.b_reversed (pe_fldK K rfl (pv 0) rfl)) (pg_name (i := 3) sc_turn_rows.nd rfl (by first | exact Or.inl rfl | exact Or.inr rfl)) (pss_one (ps_expr (pe_bm PySem.F.plainAttrs_list PySem.F.slot_list_append PySem.F.type_list_append mt_append (pv 2) (pa_cons (pe_calC c_row_before hr (by decide) (by rfl) (pa_cons (pv 3) (pa_cons (pe_ix (ix_seqK K rfl) (pv 2) (pe_op op_subI (pe_callB (cr_lenK K rfl) (by rfl) T.b_len PySem.boot_len (pa_cons (pv 2) pa_nil)) pe_int) (fun _ _ => rfl)) (pa_cons (pv 1) pa_nil)))) pa_nil))))) (pss_one (ps_ret (pe_lstRevK K rfl rfl (by rfl) T.b_list (by rfl) T.b_reversed (pv 2)))))), ?_⟩)
  intro nn B l Q h
  obtain ⟨rs, n, rfl, ok, hr, hn, h⟩ := h
  refine sx_seq ?_
  refine' sx_setO ?h1 ?_
  case h1 => exact rfl
  walk_at "g"
  refine ⟨(n : Int) + 1, rfl, by omega, by omega, ?_⟩
  refine ⟨Nat, List.range (n + 1), _, fun _ => .frac 0, rng1s, Nat.le_of_lt (small1000 (by rw [List.length_range]; omega)), fun W1 x hx => ?_, ?_⟩
  · walk_at "g"
    refine ⟨_, _, rfl, by decide, by decide, 0, rfl, ?_⟩
    rfl
  walk_at "g"
  have e0 : (rs.map rowD).reverse = rs.reverse.map rowD := by rw [List.map_reverse]
  rw [e0]
  refine ⟨ORow, rs.reverse, rowD, fun j => [.d (offD rs), .d (.int (n : Nat)), .own ((List.range (j + 1)).map fun i => .lst (vec (TT (rs.drop (rs.length - i))) (n + 1))), .no, .no], rfl, ?_, fun j => rfl, fun B' j x hx => ?_, fun Γ' w => sx_weak w ?_⟩
  · have e1 : (List.range (n + 1)).map (fun _ => D.frac 0) = vec (TT (rs.drop rs.length)) (n + 1) := by
      rw [List.drop_length]; rfl
    rw [e1]
    exact Wk.refl
  · have hj : j < rs.length := by
      have := (List.getElem?_eq_some_iff.mp hx).1
      rwa [List.length_reverse] at this
    have hx' : rs[rs.length - 1 - j]? = some x := by rw [← hx, List.getElem?_reverse hj]
    walk_at "g"
    refine x_at (x := .lst (vec (TT (rs.drop (rs.length - j))) (n + 1))) ?_ ?_
    · rw [List.length_map, List.length_range, show ((j + 1 : Nat) : Int) - 1 = (j : Nat) by omega]
      exact atI_nat (by simp)
    walk_at "g"
    refine ⟨x, _, n, 3 * rs.length + 1, rfl, ok x (by have := List.mem_of_getElem? hx; simpa using this), hn, by omega, by omega, TT_nice ok _, ?_⟩
    refine ⟨small1000 (by simp; omega), ?_⟩
    show Wk _ [_, _, .own ((List.range (j + 1 + 1)).map fun i => .lst (vec (TT (rs.drop (rs.length - i))) (n + 1))), .no, .no]
    rw [List.range_succ (n := j + 1), List.map_append, List.map_cons, List.map_nil]
    have e2 : TT (rs.drop (rs.length - (j + 1))) = rowB x (TT (rs.drop (rs.length - j))) := by
      rw [TT_drop (by omega), rowAt_of (by rw [← hx']; congr 1; omega), show rs.length - (j + 1) + 1 = rs.length - j by omega]
    rw [e2]
    exact .same (.same (.same (.no (.no .nil))))
  · rw [List.length_reverse]
    walk_at "g"
    rw [range_rev (fun i => D.lst (vec (TT (rs.drop i)) (n + 1)))]
    exact h

def S_turn_worth : List D → (D → Prop) → Prop := fun l K => ∃ (rs : List ORow) (n : Nat), l = [offD rs, .int (n : Nat)] ∧ (∀ r ∈ rs, RowOk r) ∧ rs.length ≤ 8 ∧ n ≤ 31 ∧ K (.frac (TT rs n))
theorem ok_turn_worth (T : Tx K mg) (c_turn_rows : Cal P w K mg base 7 "turn_rows" ["offers", "many"] (SpFam (CL K) S_turn_rows)) : Cal P w K mg base 8 "turn_worth" ["offers", "many"] (SpFam (CL K) S_turn_worth) := by
  refine cal_mkF (N := ["offers", "many"]) T.g_turn_worth T.d_turn_worth sc_turn_worth (fun _ _ _ _ _ _ us hl => match us, hl with | [_, _], _ => rfl) (by intro l Q h; first | (obtain ⟨rfl, _⟩ := h; rfl) | (obtain ⟨_, rfl, _⟩ := h; rfl) | (obtain ⟨_, _, rfl, _⟩ := h; rfl) | (obtain ⟨_, _, _, rfl, _⟩ := h; rfl) | (obtain ⟨_, _, _, _, rfl, _⟩ := h; rfl) | (obtain ⟨_, _, _, _, _, rfl, _⟩ := h; rfl) | (obtain ⟨_, _, _, _, _, _, rfl, _⟩ := h; rfl) | (obtain ⟨_, _, _, _, _, _, _, rfl, _⟩ := h; rfl) | (obtain ⟨_, _, _, _, _, _, _, _, rfl, _⟩ := h; rfl)) (fun f cdv A outer s H E hr => ⟨_, (pss_one (ps_ret (pe_ix (ix_seqK K rfl) (pe_ix (ix_seqK K rfl) (pe_calC c_turn_rows hr (by decide) (by rfl) (pa_cons (pv 0) (pa_cons (pv 1) pa_nil))) pe_int (fun _ _ => rfl)) (pv 1) (fun _ _ => rfl)))), ?_⟩)
  intro nn B l Q h
  obtain ⟨rs, n, rfl, ok, hr, hn, h⟩ := h
  walk_at "g"
  refine ⟨rs, n, rfl, ok, hr, hn, ?_⟩
  unfold tabD
  walk_at "g"
  refine x_at (x := .lst (vec (TT rs) (n + 1))) (atI_nat (i := 0) (by simp)) ?_
  walk_at "g"
  refine x_at (atV rfl (by omega)) h

def S_thresholds : List D → (D → Prop) → Prop := fun l K => ∃ (rs : List ORow) (n : Nat), l = [offD rs, .int (n : Nat)] ∧ (∀ r ∈ rs, RowOk r) ∧ rs.length ≤ 8 ∧ n ≤ 31 ∧ K (.tup ((List.range rs.length).map fun i => .tup (vec (barAt rs i) n)))
theorem ok_thresholds (T : Tx K mg) (c_turn_rows : Cal P w K mg base 7 "turn_rows" ["offers", "many"] (SpFam (CL K) S_turn_rows)) (o_sub : CalO P w K mg base 4 (He.ga K "Frac") .Sub (SpFam (CL K) S_FracD_subD)) : Cal P w K mg base 8 "thresholds" ["offers", "many"] (SpFam (CL K) S_thresholds) := by
  refine cal_mkF (N := ["offers", "many", "rows", "found", "later", "left"]) T.g_thresholds T.d_thresholds sc_thresholds (fun _ _ _ _ _ _ us hl => match us, hl with | [_, _], _ => rfl) (by intro l Q h; first | (obtain ⟨rfl, _⟩ := h; rfl) | (obtain ⟨_, rfl, _⟩ := h; rfl) | (obtain ⟨_, _, rfl, _⟩ := h; rfl) | (obtain ⟨_, _, _, rfl, _⟩ := h; rfl) | (obtain ⟨_, _, _, _, rfl, _⟩ := h; rfl) | (obtain ⟨_, _, _, _, _, rfl, _⟩ := h; rfl) | (obtain ⟨_, _, _, _, _, _, rfl, _⟩ := h; rfl) | (obtain ⟨_, _, _, _, _, _, _, rfl, _⟩ := h; rfl) | (obtain ⟨_, _, _, _, _, _, _, _, rfl, _⟩ := h; rfl)) (fun f cdv A outer s H E hr => ⟨_, (pss_cons (ps_set (i := 2) sc_thresholds.nd rfl (by first | exact Or.inl rfl | exact Or.inr rfl) (pe_calC c_turn_rows hr (by decide) (by rfl) (pa_cons (pv 0) (pa_cons (pv 1) pa_nil)))) (pss_cons (ps_set (i := 3) sc_thresholds.nd rfl (by first | exact Or.inl rfl | exact Or.inr rfl) (pe_lst pa_nil)) (pss_cons (ps_for PassesOwn.never rfl (pi_seqK K rfl (pe_slice (sl_listK K rfl) (pv 2) (po_some pe_int) po_none)) (pg_name (i := 4) sc_thresholds.nd rfl (by first | exact Or.inl rfl | exact Or.inr rfl)) (pss_one (ps_expr (pe_bm PySem.F.plainAttrs_list PySem.F.slot_list_append PySem.F.type_list_append mt_append (pv 3) (pa_cons (pe_callTy (cr_tupK K rfl) (by rfl) T.b_tuple (by decide +kernel) (pa_cons (pe_lc (own := [("left", 5)]) (g := gName 5) (tt := tYes) rfl sc_thresholds.nd (pi_range2 (by rfl) T.b_range (pa_cons pe_int (pa_cons (pe_op op_addI (pv 1) pe_int) pa_nil))) (blkOk_by (own := [("left", 5)]) (N := ["offers", "many", "rows", "found", "later", "left"]) (sc := defScope s_thresholds) (by decide +kernel)) (fun _ _ _ _ _ => (pg_name (i := 5) sc_thresholds.nd rfl (by first | exact Or.inl rfl | exact Or.inr rfl))) (fun _ _ _ _ _ => pts_nil) (fun _ _ _ _ _ => (pe_op (op_U op_subI (o_sub.op hr (by decide))) (pe_ix (ix_seqK K rfl) (pv 4) (pv 5) (fun _ _ => rfl)) (pe_ix (ix_seqK K rfl) (pv 4) (pe_op (op_U op_subI (o_sub.op hr (by decide))) (pv 5) pe_int) (fun _ _ => rfl))))) pa_nil)) pa_nil))))) (pss_one (ps_ret (pe_callTy (cr_tupK K rfl) (by rfl) T.b_tuple (by decide +kernel) (pa_cons (pv 3) pa_nil))))))), ?_⟩)
  intro nn B l Q h
  obtain ⟨rs, n, rfl, ok, hr, hn, h⟩ := h
  walk_at "g"
  refine ⟨rs, n, rfl, ok, hr, hn, ?_⟩
  refine sx_seq ?_
  refine' sx_setO ?h1 ?_
  case h1 => exact rfl
  unfold tabD
  walk_at "g"
  rw [cut1 (x := .lst (vec (TT rs) (n + 1))) (xs := (List.range rs.length).map fun i => .lst (vec (TT (rs.drop (i + 1))) (n + 1))) (by rw [List.range_succ_eq_map, List.map_cons, List.map_map]; rfl) (by simp; omega)]
  refine ⟨Nat, List.range rs.length, _, fun j => [.d (offD rs), .d (.int (n : Nat)), .no, .own ((List.range j).map fun i => .tup (vec (barAt rs i) n)), .no, .no], rfl, ?_, fun j => rfl, fun B' j x hx => ?_, fun Γ' w => sx_weak w ?_⟩
  · exact .same (.same (.no (.same (.same (.same .nil)))))
  · obtain ⟨rfl, hj⟩ := rng_get hx
    walk_at "g"
    refine ⟨1, (n : Int) + 1, rfl, ⟨by decide, by decide, by omega, by omega⟩, ?_⟩
    refine ⟨Nat, List.range n, _, fun l => .frac (barAt rs x l), rng2 (by omega), Nat.le_of_lt (small1000 (by rw [List.length_range]; omega)), fun W1 l hl => ?_, ?_⟩
    · have hl := List.mem_range.mp hl
      have n1 := TT_nice ok (x + 1)
      walk_at "g"
      refine x_at (atV (i := l + 1) (by omega) (by omega)) ?_
      walk_at "g"
      refine x_at (atV (i := l) (by omega) (by omega)) ?_
      walk_at "g"
      refine ⟨_, _, rfl, (n1 _).sz (by omega), (n1 _).sz (by omega), ?_⟩
      rfl
    · refine ⟨small1000 (by simp; omega), ?_⟩
      show Wk _ [_, _, .no, .own ((List.range (x + 1)).map fun i => .tup (vec (barAt rs i) n)), .no, .no]
      rw [List.range_succ, List.map_append]
      exact .same (.same (.no (.same (.no (.no .nil)))))
  · dsimp only
    rw [List.length_range]
    walk_at "g"
    exact h

end

end K
end

section
set_option maxRecDepth 100000
set_option maxHeartbeats 4000000
namespace K
open PySem PySem.Spec PyProof.Rows L2 G

theorem ixN_nat {n i : Nat} (h : i < n) : ixN n (i : Int) = some i := by
  unfold ixN
  rw [if_pos (by omega), if_pos (by omega)]; simp
theorem ixN_eq {n i : Nat} {z : Int} (hz : z = (i : Nat)) (h : i < n) : ixN n z = some i := hz ▸ ixN_nat h
theorem zip_get {α β : Type} {xs : List α} {ys : List β} {j : Nat} {p : α × β} (h : (xs.zip ys)[j]? = some p) : xs[j]? = some p.1 ∧ ys[j]? = some p.2 := by
  rw [List.getElem?_zip_eq_some] at h; exact h
theorem gks_consB {C : Cl} {B : Bs} {Γ : List Sl} {KK : PySem.W.Frag} {m i j : Nat} {gs : TGs} {x y : D} {l : List D} {Q : List Sl → Prop} (hm : m = 2) (h : GKs C B ((Γ.set i (.d x)).set j (.d y)) gs l Q) (hi : Nat.blt i Γ.length = true) (hj : Nat.blt j Γ.length = true) :
    GKs C B Γ (gCons (gAny KK m (gCons (gName i) (gCons (gName j) gNil))) gs) (.tup [x, y] :: l) Q := hm ▸ gks_consA (n := 0) h hi hj
section
local macro_rules | `(tactic| walk_at "e") => `(tactic| first
  | ((with_reducible refine' ek_var ?h1 ?_); (case h1 => exact rfl))
  | (with_reducible refine ek_int ?_)
  | (with_reducible refine ek_bl ?_)
  | (with_reducible refine ek_non ?_)
  | (with_reducible refine ek_str ?_)
  | (with_reducible refine ek_ty ?_)
  | (with_reducible refine ek_cls ?_)
  | (with_reducible refine ek_ix ?_)
  | (with_reducible refine ek_un ?_)
  | (with_reducible refine ek_tup ?_)
  | (with_reducible refine k_call ?_)
  | (with_reducible refine ek_len ?_)
  | (with_reducible refine ek_tuple ?_)
  | (with_reducible refine ek_sum ?_)
  | (with_reducible refine ek_all ?_)
  | (with_reducible refine ek_any ?_)
  | (with_reducible refine ek_chain ?_)
  | (with_reducible refine ek_andV ?_)
  | (with_reducible refine ek_orV ?_)
  | (with_reducible refine ek_notV ?_)
  | (with_reducible refine ek_if ?_)
  | (with_reducible refine ek_ef (ef_lst ?_))
  | (with_reducible refine ek_ef (ef_list ?_))
  | (with_reducible refine ek_ef (ef_cat ?_))
  | (with_reducible refine ek_ef (ef_rep ?_))
  | (with_reducible refine ek_ef (ef_slice ?_))
  | (with_reducible refine ek_ef (ef_rev ?_))
  | (with_reducible refine ek_ef (ef_lstRev ?_))
  | (with_reducible refine ek_ef (ef_map ?_))
  | (with_reducible refine ek_ef (ef_filt ?_))
  | (with_reducible refine ef_lst ?_)
  | (with_reducible refine ef_list ?_)
  | (with_reducible refine ef_cat ?_)
  | (with_reducible refine ef_rep ?_)
  | (with_reducible refine ef_slice ?_)
  | (with_reducible refine ef_rev ?_)
  | (with_reducible refine ef_lstRev ?_)
  | (with_reducible refine ef_map ?_)
  | (with_reducible refine ef_filt ?_)
  | ((with_reducible refine' el_var ?h1 ?_); (case h1 => exact rfl))
  | ((with_reducible refine' el_own ?h1 ?_); (case h1 => exact rfl))
  | (with_reducible refine el_ef (ef_lst ?_))
  | (with_reducible refine el_ef (ef_list ?_))
  | (with_reducible refine el_ef (ef_cat ?_))
  | (with_reducible refine el_ef (ef_rep ?_))
  | (with_reducible refine el_ef (ef_slice ?_))
  | (with_reducible refine el_ef (ef_rev ?_))
  | (with_reducible refine el_ef (ef_lstRev ?_))
  | (with_reducible refine el_ef (ef_map ?_))
  | (with_reducible refine el_ef (ef_filt ?_))
  | (with_reducible refine ek_op ?_)
  | (with_reducible refine ek_cb ?_)
  | (with_reducible refine el_ek ?_)
  | (with_reducible refine tk_test ?_)
  | (with_reducible refine tk_B ?_)
  | (with_reducible refine tk_and ?_)
  | (with_reducible refine tk_or ?_)
  | (with_reducible refine tk_not ?_)
  | (with_reducible refine tk_yes ?_)
  | (with_reducible refine ak_nil ?_)
  | (with_reducible refine ak_cons ?_)
  | (with_reducible refine k_num (‹Tx _ _›) ?_)
  | (with_reducible refine k_den (‹Tx _ _›) ?_)
  | (with_reducible refine k_mk2 ?_)
  | (with_reducible refine k_mkO ?_)
  | (with_reducible refine k_rows (‹Tx _ _›) ?_)
  | (with_reducible refine k_mk1 ?_)
  | (with_reducible refine k_bel ?_)
  | (with_reducible refine k_own ?_)
  | (with_reducible refine rk_U2 (k_own ?_))
  | (with_reducible refine rk_mul (Sz.mul (by assumption) (by assumption)) ?_)
  | (with_reducible refine rk_U1 (rk_mul (Sz.mul (by assumption) (by assumption)) ?_))
  | (with_reducible refine ek_dget ?_)
  | (with_reducible refine uk_neg ?_)
  | (with_reducible refine ek_disp ?_)
  | (with_reducible refine pk_cons ?_)
  | (with_reducible refine pk_nil ?_)
  | (with_reducible refine rk_mod (by assumption) ?_)
  | (with_reducible refine rk_add ?_)
  | (with_reducible refine rk_sub ?_)
  | (with_reducible refine rk_lt ?_)
  | (with_reducible refine rk_le ?_)
  | (with_reducible refine rk_gt ?_)
  | (with_reducible refine rk_ge ?_)
  | (with_reducible refine rk_eqI ?_)
  | (with_reducible refine rk_neI ?_)
  | (with_reducible refine rk_isN ?_)
  | (with_reducible refine rk_notN ?_)
  | (with_reducible refine rk_U1 (rk_add ?_))
  | (with_reducible refine rk_U1 (rk_sub ?_))
  | (with_reducible refine ck_gcd ?_)
  | (with_reducible refine ck_abs ?_)
  | (with_reducible refine ck_int ?_)
  | (with_reducible refine ik_seq ?_)
  | (with_reducible refine ik_range1 ?_)
  | (with_reducible refine ik_range2 ?_)
  | (with_reducible refine ik_enumA ?_)
  | (with_reducible refine ik_zip ?_)
  | (with_reducible refine ik_rev ?_)
  | ((with_reducible refine' cg_name ?_ ?h1 ?h2); (case h1 => exact rfl); (case h2 => decide))
  | ((with_reducible refine' cg_anyT ?h1 ?_); (case h1 => exact rfl))
  | ((with_reducible refine' cg_anyL ?h1 ?_); (case h1 => exact rfl))
  | ((with_reducible refine' cg_anyK ?h1 ?_); (case h1 => exact rfl))
  | ((with_reducible refine' cgs_cons ?_ ?h1 ?h2); (case h1 => exact rfl); (case h2 => decide))
  | (with_reducible refine cgs_nil ?_)
  | ((with_reducible refine' gk_name ?_ ?h1); (case h1 => exact rfl))
  | ((with_reducible refine' gk_anyT ?h1 ?_); (case h1 => exact rfl))
  | ((with_reducible refine' gk_anyL ?h1 ?_); (case h1 => exact rfl))
  | ((with_reducible refine' gk_anyK ?h1 ?_); (case h1 => exact rfl))
  | ((with_reducible refine' gks_cons ?_ ?h1); (case h1 => exact rfl))
  | ((with_reducible refine' gks_consA (n := 0) ?_ ?h1 ?h2); (case h1 => exact rfl); (case h2 => exact rfl))
  | ((with_reducible refine' gks_consB ?h0 ?_ ?h1 ?h2); (case h0 => exact rfl); (case h1 => exact rfl); (case h2 => exact rfl))
  | (with_reducible refine gks_nil ?_)
  | (with_reducible refine ok_none ?_)
  | (with_reducible refine ok_some ?_))
local macro_rules | `(tactic| walk_at "s") => `(tactic| first
  | (with_reducible refine sx_guard ?_ ?_)
  | (with_reducible refine sx_seq ?_)
  | (with_reducible refine sx_ret ?_)
  | (with_reducible refine sx_if ?_)
  | (with_reducible refine sx_next ?_)
  | (with_reducible refine sx_break ?_)
  | (with_reducible refine sx_cont ?_)
  | ((with_reducible refine' sx_append ?h1 ?_); (case h1 => exact rfl))
  | ((with_reducible refine' sx_setI ?h1 ?_); (case h1 => exact rfl))
  | ((with_reducible refine' sx_set ?h1 ?_); (case h1 => exact rfl))
  | (with_reducible refine sx_asg ?_)
  | ((with_reducible refine' sx_par ?h1 ?h2 ?_); (case h1 => exact rfl); (case h2 => exact rfl))
  | (with_reducible refine sx_drop ?_)
  | ((with_reducible refine' k_fldS (‹Tx _ _›) ?h1 ?h2 ?h3 ?_); (case h1 => exact rfl); (case h2 => decide); (case h3 => exact rfl))
  | ((with_reducible refine' k_fldO (‹Tx _ _›) ?h1 ?h3 ?_); (case h1 => exact rfl); (case h3 => exact rfl)))
/-! plain existentials that the rules leave -/
local macro_rules | `(tactic| walk_at "x") => `(tactic| first
  | (with_reducible refine x_bl ?_)
  | (with_reducible refine x_int ?_)
  | (with_reducible refine x_frac ?_)
  | (with_reducible refine x_lst ?_)
  | (with_reducible refine x_off ?_)
  | (with_reducible refine x_low ?_)
  | (with_reducible refine x_ownR ?_)
  | (with_reducible refine x_ownA ?_)
  | (with_reducible refine x_tup ?_)
  | (with_reducible refine x_kd ?_)
  | (with_reducible refine x_oneL ?_)
  | (with_reducible refine x_oneT ?_)
  | (with_reducible refine x_one ?_)
  | ((with_reducible refine' x_at ?h1 ?_); (case h1 => exact rfl))
  | ((with_reducible refine' x_dic ?h1 ?_); (case h1 => exact rfl))
  | (with_reducible refine (⟨rfl, ?_⟩ : Kd.l = Kd.l ∧ _))
  | ((with_reducible refine' x_len ?h1 ?_); (case h1 => exact rfl))
  | ((with_reducible refine' br_t ?h1 ?_); (case h1 => exact rfl))
  | ((with_reducible refine' br_f ?h1 ?_); (case h1 => exact rfl)))
local macro_rules | `(tactic| walk_at "f") => `(tactic| first
  | ((with_reducible refine' sx_forW ?h1 ?_); (case h1 => exact rfl))
  | (with_reducible refine sx_forGW ?_))
local macro_rules | `(tactic| walk_at "g") => `(tactic| repeat (first | walk_at "s" | walk_at "f" | walk_at "e" | walk_at "x"))
local macro_rules | `(tactic| walk_at "v") => `(tactic| repeat (first | walk_at "e" | walk_at "x"))
local macro_rules | `(tactic| walk_at "h") => `(tactic| repeat (first | walk_at "s" | walk_at "e" | walk_at "x"))
variable {P : Program} {w : World} {K : PySem.W.Frag} {mg : Str → Option Value} {base : Heap}

def S_takings : List D → (D → Prop) → Prop := fun l K => ∃ (r : ORow) (b : Nat → Rat) (n : Nat), l = [rowD r, .tup (vec b n)] ∧ RowOk r ∧ NiceF 100 b ∧ n ≤ 31 ∧ K (.lst ((List.range n).map fun l => .tup [.frac (part r (b l)), .frac (gain r (b l))]))
theorem ok_takings (T : Tx K mg) (c_shown_shares : Cal P w K mg base 4 "shown_shares" ["row"] (SpFam (CL K) S_shown_shares)) (c_Frac_is_below : CalT P w K mg base 1 (He.ga K "Frac") "is_below" (SpFam (CL K) S_Frac_is_below)) (c_total : Cal P w K mg base 5 "total" ["fracs"] (SpFam (CL K) S_total)) (o_mul : CalO P w K mg base 4 (He.ga K "Frac") .Mult (SpFam (CL K) S_FracD_mulD)) : Cal P w K mg base 6 "takings" ["row", "levels"] (SpFam (CL K) S_takings) := by
  refine cal_mkF (N := ["row", "levels", "found", "level", "taken", "share", "worth", "_"]) T.g_takings T.d_takings sc_takings (fun _ _ _ _ _ _ us hl => match us, hl with | [_, _], _ => rfl) (by intro l Q h; first | (obtain ⟨rfl, _⟩ := h; rfl) | (obtain ⟨_, rfl, _⟩ := h; rfl) | (obtain ⟨_, _, rfl, _⟩ := h; rfl) | (obtain ⟨_, _, _, rfl, _⟩ := h; rfl) | (obtain ⟨_, _, _, _, rfl, _⟩ := h; rfl) | (obtain ⟨_, _, _, _, _, rfl, _⟩ := h; rfl) | (obtain ⟨_, _, _, _, _, _, rfl, _⟩ := h; rfl) | (obtain ⟨_, _, _, _, _, _, _, rfl, _⟩ := h; rfl) | (obtain ⟨_, _, _, _, _, _, _, _, rfl, _⟩ := h; rfl)) (fun f cdv A outer s H E hr => ⟨_, (pss_cons (ps_set (i := 2) sc_takings.nd rfl (by first | exact Or.inl rfl | exact Or.inr rfl) (pe_lst pa_nil)) (pss_cons (ps_for PassesOwn.never rfl (pi_seqK K rfl (pv 1)) (pg_name (i := 3) sc_takings.nd rfl (by first | exact Or.inl rfl | exact Or.inr rfl)) (pss_cons (ps_setLc (i := 4) (own := [("share", 5), ("worth", 6)]) (g := gAny K 2 (gCons (gName 5) (gCons (gName 6) gNil)))  rfl sc_takings.nd rfl rfl (sw_true rfl rfl rfl (by decide +kernel)) (pi_seqK K rfl (pe_calC c_shown_shares hr (by decide) (by rfl) (pa_cons (pv 0) pa_nil))) (blkOk_by (own := [("share", 5), ("worth", 6)]) (N := ["row", "levels", "found", "level", "taken", "share", "worth", "_"]) (sc := defScope s_takings) (by decide +kernel)) (fun _ _ _ _ _ => (pg_anyK K rfl rfl (pgs_cons (pg_name (i := 5) sc_takings.nd rfl (by first | exact Or.inl rfl | exact Or.inr rfl)) (pgs_cons (pg_name (i := 6) sc_takings.nd rfl (by first | exact Or.inl rfl | exact Or.inr rfl)) pgs_nil)))) (fun _ _ _ _ _ => pts_one (PW.pt (pw_and (pt_cmpR op_gtI (pe_fldK K rfl (pv 6) rfl) pe_int (nomark _)) (pw_and1 (pt_not (pt_val (pe_mtC c_Frac_is_below hr (by decide) (pv 6) (pa_cons (pv 3) pa_nil)))))))) (fun _ _ _ _ _ => (pe_tup (pa_cons (pv 5) (pa_cons (pv 6) pa_nil))))) (pss_one (ps_expr (pe_bm PySem.F.plainAttrs_list PySem.F.slot_list_append PySem.F.type_list_append mt_append (pv 2) (pa_cons (pe_tup (pa_cons (pe_calC c_total hr (by decide) (by rfl) (pa_cons (pe_lc (own := [("share", 5), ("_", 7)]) (g := gAny K 2 (gCons (gName 5) (gCons (gName 7) gNil))) (tt := tYes) rfl sc_takings.nd (pi_seqK K rfl (pv 4)) (blkOk_by (own := [("share", 5), ("_", 7)]) (N := ["row", "levels", "found", "level", "taken", "share", "worth", "_"]) (sc := defScope s_takings) (by decide +kernel)) (fun _ _ _ _ _ => (pg_anyK K rfl rfl (pgs_cons (pg_name (i := 5) sc_takings.nd rfl (by first | exact Or.inl rfl | exact Or.inr rfl)) (pgs_cons (pg_name (i := 7) sc_takings.nd rfl (by first | exact Or.inl rfl | exact Or.inr rfl)) pgs_nil)))) (fun _ _ _ _ _ => pts_nil) (fun _ _ _ _ _ => (pv 5))) pa_nil)) (pa_cons (pe_calC c_total hr (by decide) (by rfl) (pa_cons (pe_lc (own := [("share", 5), ("worth", 6)]) (g := gAny K 2 (gCons (gName 5) (gCons (gName 6) gNil))) (tt := tYes) rfl sc_takings.nd (pi_seqK K rfl (pv 4)) (blkOk_by (own := [("share", 5), ("worth", 6)]) (N := ["row", "levels", "found", "level", "taken", "share", "worth", "_"]) (sc := defScope s_takings) (by decide +kernel)) (fun _ _ _ _ _ => (pg_anyK K rfl rfl (pgs_cons (pg_name (i := 5) sc_takings.nd rfl (by first | exact Or.inl rfl | exact Or.inr rfl)) (pgs_cons (pg_name (i := 6) sc_takings.nd rfl (by first | exact Or.inl rfl | exact Or.inr rfl)) pgs_nil)))) (fun _ _ _ _ _ => pts_nil) (fun _ _ _ _ _ => (pe_op (op_U op_mulI (o_mul.op hr (by decide))) (pv 5) (pv 6)))) pa_nil)) pa_nil))) pa_nil)))))) (pss_one (ps_ret (pv 2))))), ?_⟩)
  intro nn B l Q h
  obtain ⟨r, b, n, rfl, ok, hb, hn, h⟩ := h
  refine sx_seq ?_
  refine' sx_setO ?h1 ?_
  case h1 => exact rfl
  walk_at "g"
  have hl := ok.len
  refine ⟨Nat, List.range n, _, fun j => [.d (rowD r), .d (.tup (vec b n)), .own ((List.range j).map fun l => .tup [.frac (part r (b l)), .frac (gain r (b l))]), .no, .no, .no, .no, .no], rfl, Wk.refl, fun j => rfl, fun B' j x hx => ?_, fun Γ' w => sx_weak w ?_⟩
  · obtain ⟨rfl, hj⟩ := rng_get hx
    walk_at "g"
    refine ⟨r, rfl, ok, ?_⟩
    walk_at "g"
    refine ⟨Int × Rat, r, _, fun p => .tup [.frac (share r p.1), .frac p.2], takes (b x), rfl, Nat.le_of_lt (small1000 (by omega)), fun W1 p hp => ?_, ?_⟩
    · have n1 := ok.n p hp
      walk_at "g"
      refine br_p (fun z1 => ?_) (fun z1 => ?_)
      · walk_at "g"
        refine ⟨_, _, rfl, n1.sz (by omega), (hb x).sz (by omega), ?_⟩
        walk_at "g"
        refine ⟨by unfold takes; rw [decide_eq_true z1]; rfl, fun _ => ?_⟩
        walk_at "g"
        rfl
      · refine ⟨by unfold takes; rw [decide_eq_false z1]; rfl, fun z => nomatch z⟩
    · have hf : (r.filter (takes (b x))).length ≤ 6 := Nat.le_trans (List.length_filter_le _ _) hl
      walk_at "g"
      refine ⟨Int × Rat, r.filter (takes (b x)), _, fun p => .frac (share r p.1), rfl, Nat.le_of_lt (small1000 (by omega)), fun W1 p hp => ?_, ?_⟩
      · walk_at "g"
        rfl
      walk_at "g"
      refine ⟨(r.filter (takes (b x))).map fun p => share r p.1, 1, by rw [List.map_map]; rfl, ?_, by decide, by rw [List.length_map]; omega, ?_⟩
      · intro y hy
        obtain ⟨p, hp, rfl⟩ := List.mem_map.mp hy
        exact ok.sh p (List.mem_filter.mp hp).1
      walk_at "g"
      refine ⟨Int × Rat, r.filter (takes (b x)), _, fun p => .frac (share r p.1 * p.2), rfl, Nat.le_of_lt (small1000 (by omega)), fun W1 p hp => ?_, ?_⟩
      · have hp' := (List.mem_filter.mp hp).1
        walk_at "g"
        refine ⟨_, _, rfl, (ok.sh p hp').sz (by omega), (ok.n p hp').sz (by omega), ?_⟩
        rfl
      walk_at "g"
      refine ⟨(r.filter (takes (b x))).map fun p => share r p.1 * p.2, 2, by rw [List.map_map]; rfl, ?_, by decide, by rw [List.length_map]; omega, ?_⟩
      · intro y hy
        obtain ⟨p, hp, rfl⟩ := List.mem_map.mp hy
        exact (ok.sh p (List.mem_filter.mp hp).1).mul (ok.n p (List.mem_filter.mp hp).1)
      walk_at "g"
      refine ⟨small1000 (by simp; omega), ?_⟩
      show Wk _ [_, _, .own ((List.range (x + 1)).map fun l => .tup [.frac (part r (b l)), .frac (gain r (b l))]), .no, .no, .no, .no, .no]
      rw [List.range_succ, List.map_append]
      exact .same (.same (.same (.no (.no (.no (.no (.no .nil)))))))
  · dsimp only
    rw [List.length_range]
    refine sx_freeze 2 rfl ?_
    walk_at "g"
    exact h

def S_turns_taken : List D → (D → Prop) → Prop := fun l K => ∃ (rs : List ORow) (n : Nat), l = [offD rs, .int (n : Nat)] ∧ (∀ r ∈ rs, RowOk r) ∧ rs.length ≤ 8 ∧ n ≤ 31 ∧ K (.lst ((List.range rs.length).map fun i => .tup [.frac (told rs n i), .frac (meanT rs n i)]))
theorem ok_turns_taken (T : Tx K mg) (m_Frac1 : CalM P w K mg base 2 "Frac" [.int 1] (SpFamI (CL K) (He.ga K "Frac") S_FracD_initD)) (c_thresholds : Cal P w K mg base 8 "thresholds" ["offers", "many"] (SpFam (CL K) S_thresholds)) (c_takings : Cal P w K mg base 6 "takings" ["row", "levels"] (SpFam (CL K) S_takings)) (o_mul : CalO P w K mg base 4 (He.ga K "Frac") .Mult (SpFam (CL K) S_FracD_mulD)) (o_add : CalO P w K mg base 4 (He.ga K "Frac") .Add (SpFam (CL K) S_FracD_addD)) (o_sub : CalO P w K mg base 4 (He.ga K "Frac") .Sub (SpFam (CL K) S_FracD_subD)) : Cal P w K mg base 9 "turns_taken" ["offers", "many"] (SpFam (CL K) S_turns_taken) := by
  refine cal_mkF (N := ["offers", "many", "chances", "found", "row", "levels", "share", "mean", "later", "left", "part", "worth", "moved", "_"]) T.g_turns_taken T.d_turns_taken sc_turns_taken (fun _ _ _ _ _ _ us hl => match us, hl with | [_, _], _ => rfl) (by intro l Q h; first | (obtain ⟨rfl, _⟩ := h; rfl) | (obtain ⟨_, rfl, _⟩ := h; rfl) | (obtain ⟨_, _, rfl, _⟩ := h; rfl) | (obtain ⟨_, _, _, rfl, _⟩ := h; rfl) | (obtain ⟨_, _, _, _, rfl, _⟩ := h; rfl) | (obtain ⟨_, _, _, _, _, rfl, _⟩ := h; rfl) | (obtain ⟨_, _, _, _, _, _, rfl, _⟩ := h; rfl) | (obtain ⟨_, _, _, _, _, _, _, rfl, _⟩ := h; rfl) | (obtain ⟨_, _, _, _, _, _, _, _, rfl, _⟩ := h; rfl)) (fun f cdv A outer s H E hr => ⟨_, (pss_cons (ps_set (i := 2) sc_turns_taken.nd rfl (by first | exact Or.inl rfl | exact Or.inr rfl) (pe_op op_cat (pe_lc (own := [("_", 13)]) (g := gName 13) (tt := tYes) rfl sc_turns_taken.nd (pi_range1 (by rfl) T.b_range (pa_cons (pv 1) pa_nil)) (blkOk_by (own := [("_", 13)]) (N := ["offers", "many", "chances", "found", "row", "levels", "share", "mean", "later", "left", "part", "worth", "moved", "_"]) (sc := defScope s_turns_taken) (by decide +kernel)) (fun _ _ _ _ _ => (pg_name (i := 13) sc_turns_taken.nd rfl (by first | exact Or.inl rfl | exact Or.inr rfl))) (fun _ _ _ _ _ => pts_nil) (fun _ _ _ _ _ => (pe_mkK K rfl m_Frac1 hr (by decide) (by rfl) (pa_cons pe_int pa_nil)))) (pe_lst (pa_cons (pe_mkK K rfl m_Frac1 hr (by decide) (by rfl) (pa_cons pe_int pa_nil)) pa_nil)))) (pss_cons (ps_set (i := 3) sc_turns_taken.nd rfl (by first | exact Or.inl rfl | exact Or.inr rfl) (pe_lst pa_nil)) (pss_cons (ps_for PassesOwn.never rfl (pi_zipK K rfl (by rfl) T.b_zip (pa_cons (pe_fldK K rfl (pv 0) rfl) (pa_cons (pe_calC c_thresholds hr (by decide) (by rfl) (pa_cons (pv 0) (pa_cons (pv 1) pa_nil))) pa_nil))) (pg_anyK K rfl rfl (pgs_cons (pg_name (i := 4) sc_turns_taken.nd rfl (by first | exact Or.inl rfl | exact Or.inr rfl)) (pgs_cons (pg_name (i := 5) sc_turns_taken.nd rfl (by first | exact Or.inl rfl | exact Or.inr rfl)) pgs_nil))) (pss_cons (ps_par (i := 6) (j := 7) rfl sc_turns_taken.nd rfl rfl (by decide) rfl rfl (pa_cons (pe_mkK K rfl m_Frac1 hr (by decide) (by rfl) (pa_cons pe_int pa_nil)) (pa_cons (pe_mkK K rfl m_Frac1 hr (by decide) (by rfl) (pa_cons pe_int pa_nil)) pa_nil)) rfl) (pss_cons (ps_set (i := 8) sc_turns_taken.nd rfl (by first | exact Or.inl rfl | exact Or.inr rfl) (pe_callTy (cr_listK K rfl) (by rfl) T.b_list (by decide +kernel) (pa_cons (pv 2) pa_nil))) (pss_cons (ps_for PassesOwn.never rfl (GEn.pi_enumA K rfl (by rfl) T.b_enumerate (pa_cons (pe_calC c_takings hr (by decide) (by rfl) (pa_cons (pv 4) (pa_cons (pv 5) pa_nil))) pa_nil)) (pg_anyK K rfl rfl (pgs_cons (pg_name (i := 9) sc_turns_taken.nd rfl (by first | exact Or.inl rfl | exact Or.inr rfl)) (pgs_cons (pg_anyK K rfl rfl (pgs_cons (pg_name (i := 10) sc_turns_taken.nd rfl (by first | exact Or.inl rfl | exact Or.inr rfl)) (pgs_cons (pg_name (i := 11) sc_turns_taken.nd rfl (by first | exact Or.inl rfl | exact Or.inr rfl)) pgs_nil))) pgs_nil))) (pss_cons (ps_set (i := 12) sc_turns_taken.nd rfl (by first | exact Or.inl rfl | exact Or.inr rfl) (pe_op (op_U op_mulI (o_mul.op hr (by decide))) (pe_ix (ix_seqK K rfl) (pv 2) (pe_op (op_U op_addI (o_add.op hr (by decide))) (pv 9) pe_int) (fun _ _ => rfl)) (pv 10))) (pss_cons (ps_set (i := 6) sc_turns_taken.nd rfl (by first | exact Or.inl rfl | exact Or.inr rfl) (pe_op (op_U op_addI (o_add.op hr (by decide))) (pv 6) (pv 12))) (pss_cons (ps_set (i := 7) sc_turns_taken.nd rfl (by first | exact Or.inl rfl | exact Or.inr rfl) (pe_op (op_U op_addI (o_add.op hr (by decide))) (pv 7) (pe_op (op_U op_mulI (o_mul.op hr (by decide))) (pe_ix (ix_seqK K rfl) (pv 2) (pe_op (op_U op_addI (o_add.op hr (by decide))) (pv 9) pe_int) (fun _ _ => rfl)) (pv 11)))) (pss_cons (ps_asg (pe_op (op_U op_subI (o_sub.op hr (by decide))) (pe_ix (ix_seqK K rfl) (pv 8) (pe_op (op_U op_addI (o_add.op hr (by decide))) (pv 9) pe_int) (fun _ _ => rfl)) (pv 12)) (pg_sub (pv 8) (pe_op (op_U op_addI (o_add.op hr (by decide))) (pv 9) pe_int) set_list)) (pss_one (ps_asg (pe_op (op_U op_addI (o_add.op hr (by decide))) (pe_ix (ix_seqK K rfl) (pv 8) (pv 9) (fun _ _ => rfl)) (pv 12)) (pg_sub (pv 8) (pv 9) set_list)))))))) (pss_cons (ps_set (i := 2) sc_turns_taken.nd rfl (by first | exact Or.inl rfl | exact Or.inr rfl) (pv 8)) (pss_one (ps_expr (pe_bm PySem.F.plainAttrs_list PySem.F.slot_list_append PySem.F.type_list_append mt_append (pv 3) (pa_cons (pe_tup (pa_cons (pv 6) (pa_cons (pv 7) pa_nil))) pa_nil))))))))) (pss_one (ps_ret (pv 3)))))), ?_⟩)
  intro nn B l Q h
  obtain ⟨rs, n, rfl, ok, hr, hn, h⟩ := h
  walk_at "g"
  refine ⟨(n : Int), rfl, by omega, by omega, ?_⟩
  refine ⟨Nat, List.range n, _, fun _ => .frac 0, rng1, Nat.le_of_lt (small1000 (by rw [List.length_range]; omega)), fun W1 x hx => ?_, ?_⟩
  · walk_at "g"
    refine ⟨_, _, rfl, by decide, by decide, 0, rfl, ?_⟩
    rfl
  walk_at "g"
  refine ⟨_, _, rfl, by decide, by decide, 1, rfl, ?_⟩
  walk_at "g"
  refine ⟨Nat.le_of_lt (small1000 (by simp; omega)), ?_⟩
  have e1 : (List.range n).map (fun _ => D.frac 0) ++ [D.frac 1] = vec (c0 n) (n + 1) := by
    rw [vec_succ, show c0 n n = 1 by simp [c0]]
    congr 1
    unfold vec
    apply List.map_congr_left
    intro i hi
    have := List.mem_range.mp hi
    rw [show c0 n i = 0 by unfold c0; rw [if_neg (by omega)]]
  rw [e1]
  refine sx_seq ?_
  refine' sx_setO ?h1 ?_
  case h1 => exact rfl
  walk_at "g"
  refine ⟨rs, n, rfl, ok, hr, hn, ?_⟩
  walk_at "g"
  refine ⟨.t, _, _, rfl, ?_⟩
  refine ⟨ORow × Nat, rs.zip (List.range rs.length), _, fun j => [.d (offD rs), .d (.int (n : Nat)), .d (.lst (vec (ch rs n j) (n + 1))), .own ((List.range j).map fun i => .tup [.frac (told rs n i), .frac (meanT rs n i)]), .no, .no, .no, .no, .no, .no, .no, .no, .no, .no], zipD_map _ _ _ _, Wk.refl, fun B' j p hp => ?_, fun Γ' w => sx_weak w ?_⟩
  · obtain ⟨r, i⟩ := p
    obtain ⟨hp1, hp2⟩ := zip_get hp
    obtain ⟨hi, hj⟩ := rng_get hp2
    have hi : i = j := hi
    subst hi
    have er : rowAt rs i = r := rowAt_of hp1
    have okr : RowOk r := ok r (List.mem_of_getElem? hp1)
    have nb : NiceF 100 (barAt rs i) := fun l => ((TT_nice ok (i + 1) (l + 1)).sub (TT_nice ok (i + 1) l)).mono (by omega)
    have nc := ch_nice (n := n) ok (i := i) (by omega)
    walk_at "g"
    refine ⟨_, _, rfl, by decide, by decide, 0, rfl, ?_⟩
    walk_at "g"
    refine ⟨_, _, rfl, by decide, by decide, 0, rfl, ?_⟩
    walk_at "g"
    refine ⟨_, _, rfl, ?_⟩
    refine sx_seq ?_
    refine' sx_setO ?h1 ?_
    case h1 => exact rfl
    walk_at "g"
    refine ⟨r, barAt rs i, n, rfl, okr, nb, hn, ?_⟩
    walk_at "g"
    refine ⟨Nat × Nat, (List.range n).zipIdx, _, fun l => [.d (offD rs), .d (.int (n : Nat)), .d (.lst (vec (ch rs n i) (n + 1))), .own ((List.range i).map fun i => .tup [.frac (told rs n i), .frac (meanT rs n i)]), .d (rowD r), .d (.tup (vec (barAt rs i) n)), .d (.frac (sumN (mv r (barAt rs i) (ch rs n i)) l)), .d (.frac (sumN (gv r (barAt rs i) (ch rs n i)) l)), .own (vec (lat r (barAt rs i) (ch rs n i) l) (n + 1)), .no, .no, .no, .no, .no], enumD_map _ _, Wk.refl, fun B' l x hx => ?_, fun Γ' w => sx_weak w ?_⟩
    · obtain ⟨x1, x2⟩ := x
      obtain ⟨hx1, hx2⟩ := zipIdx_get hx
      have hx2 : x2 = l := hx2
      subst hx2
      obtain ⟨hx3, hl⟩ := rng_get hx1
      have hx3 : x1 = x2 := hx3
      subst hx3
      have n1 := nc (x1 + 1)
      have n2 := Nice.partR okr (barAt rs i x1)
      have n3 := Nice.gainR okr (barAt rs i x1)
      have n4 := Nice.mv okr (b := barAt rs i) nc x1
      have n5 := Nice.gv okr (b := barAt rs i) nc x1
      have n6 := NiceF.sumN (fun l _ => Nice.mv okr (b := barAt rs i) nc l) (n := x1) (by omega)
      have n7 := NiceF.sumN (fun l _ => Nice.gv okr (b := barAt rs i) nc l) (n := x1) (by omega)
      have n8 := (lat_nice okr (b := barAt rs i) nc x1).2
      walk_at "g"
      refine x_at (atV (i := x1 + 1) (by omega) (by omega)) ?_
      walk_at "g"
      refine ⟨_, _, rfl, n1.sz (by omega), n2.sz (by omega), ?_⟩
      walk_at "g"
      refine ⟨_, _, rfl, n6.sz (by omega), n4.sz (by omega), ?_⟩
      walk_at "g"
      refine x_at (atV (i := x1 + 1) (by omega) (by omega)) ?_
      walk_at "g"
      refine ⟨_, _, rfl, n1.sz (by omega), n3.sz (by omega), ?_⟩
      walk_at "g"
      refine ⟨_, _, rfl, n7.sz (by omega), n5.sz (by omega), ?_⟩
      walk_at "g"
      refine x_at (atV (i := x1 + 1) (by omega) (by omega)) ?_
      walk_at "g"
      refine ⟨_, _, rfl, (n8 _).sz (by omega), n4.sz (by omega), ?_⟩
      walk_at "g"
      refine ⟨_, x1 + 1, rfl, by rw [vec_len]; exact ixN_eq (by dsimp only; omega) (by omega), ?_⟩
      rw [vec_set]
      walk_at "g"
      refine x_at (atV (i := x1) rfl (by omega)) ?_
      walk_at "g"
      refine ⟨_, _, rfl, by unfold updF; rw [if_neg (by omega)]; exact (n8 _).sz (by omega), n4.sz (by omega), ?_⟩
      walk_at "g"
      refine ⟨_, x1, rfl, by rw [vec_len]; exact ixN_eq rfl (by omega), ?_⟩
      rw [vec_set]
      show Wk _ [_, _, _, _, _, _, .d (.frac (sumN (mv r (barAt rs i) (ch rs n i)) (x1 + 1))), .d (.frac (sumN (gv r (barAt rs i) (ch rs n i)) (x1 + 1))), .own (vec (lat r (barAt rs i) (ch rs n i) (x1 + 1)) (n + 1)), .no, .no, .no, .no, .no]
      rw [sumN_succ, sumN_succ]
      exact .same (.same (.same (.same (.same (.same (.same (.same (.same (.no (.no (.no (.no (.no .nil)))))))))))))
    · dsimp only
      rw [List.length_zipIdx, List.length_range]
      refine sx_freeze 8 rfl ?_
      walk_at "g"
      refine ⟨small1000 (by simp; omega), ?_⟩
      show Wk _ [_, _, .d (.lst (vec (ch rs n (i + 1)) (n + 1))), .own ((List.range (i + 1)).map fun i => .tup [.frac (told rs n i), .frac (meanT rs n i)]), .no, .no, .no, .no, .no, .no, .no, .no, .no, .no]
      rw [List.range_succ, List.map_append, List.map_cons, List.map_nil, show told rs n i = sumN (mv r (barAt rs i) (ch rs n i)) n by unfold told; rw [er], show meanT rs n i = sumN (gv r (barAt rs i) (ch rs n i)) n by unfold meanT; rw [er],
        show ch rs n (i + 1) = lat r (barAt rs i) (ch rs n i) n by show lat (rowAt rs i) _ _ _ = _; rw [er]]
      exact .same (.same (.same (.same (.no (.no (.no (.no (.no (.no (.no (.no (.no (.no .nil)))))))))))))
  · dsimp only
    rw [List.length_zip, List.length_range, Nat.min_self]
    refine sx_freeze 3 rfl ?_
    walk_at "g"
    exact h

def S_taken_in_turn : List D → (D → Prop) → Prop := fun l K => ∃ (rs : List ORow) (n : Nat), l = [offD rs, .int (n : Nat)] ∧ (∀ r ∈ rs, RowOk r) ∧ rs.length ≤ 8 ∧ n ≤ 31 ∧ K (.tup (((List.range rs.length).map (told rs n)).map .frac))
theorem ok_taken_in_turn (T : Tx K mg) (c_turns_taken : Cal P w K mg base 9 "turns_taken" ["offers", "many"] (SpFam (CL K) S_turns_taken)) : Cal P w K mg base 10 "taken_in_turn" ["offers", "many"] (SpFam (CL K) S_taken_in_turn) := by
  refine cal_mkF (N := ["offers", "many", "share", "_"]) T.g_taken_in_turn T.d_taken_in_turn sc_taken_in_turn (fun _ _ _ _ _ _ us hl => match us, hl with | [_, _], _ => rfl) (by intro l Q h; first | (obtain ⟨rfl, _⟩ := h; rfl) | (obtain ⟨_, rfl, _⟩ := h; rfl) | (obtain ⟨_, _, rfl, _⟩ := h; rfl) | (obtain ⟨_, _, _, rfl, _⟩ := h; rfl) | (obtain ⟨_, _, _, _, rfl, _⟩ := h; rfl) | (obtain ⟨_, _, _, _, _, rfl, _⟩ := h; rfl) | (obtain ⟨_, _, _, _, _, _, rfl, _⟩ := h; rfl) | (obtain ⟨_, _, _, _, _, _, _, rfl, _⟩ := h; rfl) | (obtain ⟨_, _, _, _, _, _, _, _, rfl, _⟩ := h; rfl)) (fun f cdv A outer s H E hr => ⟨_, (pss_one (ps_ret (pe_callTy (cr_tupK K rfl) (by rfl) T.b_tuple (by decide +kernel) (pa_cons (pe_lc (own := [("share", 2), ("_", 3)]) (g := gAny K 2 (gCons (gName 2) (gCons (gName 3) gNil))) (tt := tYes) rfl sc_taken_in_turn.nd (pi_seqK K rfl (pe_calC c_turns_taken hr (by decide) (by rfl) (pa_cons (pv 0) (pa_cons (pv 1) pa_nil)))) (blkOk_by (own := [("share", 2), ("_", 3)]) (N := ["offers", "many", "share", "_"]) (sc := defScope s_taken_in_turn) (by decide +kernel)) (fun _ _ _ _ _ => (pg_anyK K rfl rfl (pgs_cons (pg_name (i := 2) sc_taken_in_turn.nd rfl (by first | exact Or.inl rfl | exact Or.inr rfl)) (pgs_cons (pg_name (i := 3) sc_taken_in_turn.nd rfl (by first | exact Or.inl rfl | exact Or.inr rfl)) pgs_nil)))) (fun _ _ _ _ _ => pts_nil) (fun _ _ _ _ _ => (pv 2))) pa_nil)))), ?_⟩)
  intro nn B l Q h
  obtain ⟨rs, n, rfl, ok, hr, hn, h⟩ := h
  walk_at "g"
  refine ⟨rs, n, rfl, ok, hr, hn, ?_⟩
  walk_at "g"
  refine ⟨Nat, List.range rs.length, _, fun i => .frac (told rs n i), rfl, Nat.le_of_lt (small1000 (by simp; omega)), fun W1 x hx => ?_, ?_⟩
  · walk_at "g"
    rfl
  · rw [List.map_map] at h
    exact h

def S_mean_taken : List D → (D → Prop) → Prop := fun l K => ∃ (rs : List ORow) (n : Nat), l = [offD rs, .int (n : Nat)] ∧ (∀ r ∈ rs, RowOk r) ∧ rs.length ≤ 8 ∧ n ≤ 31 ∧ K (.tup (((List.range rs.length).map (meanT rs n)).map .frac))
theorem ok_mean_taken (T : Tx K mg) (c_turns_taken : Cal P w K mg base 9 "turns_taken" ["offers", "many"] (SpFam (CL K) S_turns_taken)) : Cal P w K mg base 10 "mean_taken" ["offers", "many"] (SpFam (CL K) S_mean_taken) := by
  refine cal_mkF (N := ["offers", "many", "_", "mean"]) T.g_mean_taken T.d_mean_taken sc_mean_taken (fun _ _ _ _ _ _ us hl => match us, hl with | [_, _], _ => rfl) (by intro l Q h; first | (obtain ⟨rfl, _⟩ := h; rfl) | (obtain ⟨_, rfl, _⟩ := h; rfl) | (obtain ⟨_, _, rfl, _⟩ := h; rfl) | (obtain ⟨_, _, _, rfl, _⟩ := h; rfl) | (obtain ⟨_, _, _, _, rfl, _⟩ := h; rfl) | (obtain ⟨_, _, _, _, _, rfl, _⟩ := h; rfl) | (obtain ⟨_, _, _, _, _, _, rfl, _⟩ := h; rfl) | (obtain ⟨_, _, _, _, _, _, _, rfl, _⟩ := h; rfl) | (obtain ⟨_, _, _, _, _, _, _, _, rfl, _⟩ := h; rfl)) (fun f cdv A outer s H E hr => ⟨_, (pss_one (ps_ret (pe_callTy (cr_tupK K rfl) (by rfl) T.b_tuple (by decide +kernel) (pa_cons (pe_lc (own := [("_", 2), ("mean", 3)]) (g := gAny K 2 (gCons (gName 2) (gCons (gName 3) gNil))) (tt := tYes) rfl sc_mean_taken.nd (pi_seqK K rfl (pe_calC c_turns_taken hr (by decide) (by rfl) (pa_cons (pv 0) (pa_cons (pv 1) pa_nil)))) (blkOk_by (own := [("_", 2), ("mean", 3)]) (N := ["offers", "many", "_", "mean"]) (sc := defScope s_mean_taken) (by decide +kernel)) (fun _ _ _ _ _ => (pg_anyK K rfl rfl (pgs_cons (pg_name (i := 2) sc_mean_taken.nd rfl (by first | exact Or.inl rfl | exact Or.inr rfl)) (pgs_cons (pg_name (i := 3) sc_mean_taken.nd rfl (by first | exact Or.inl rfl | exact Or.inr rfl)) pgs_nil)))) (fun _ _ _ _ _ => pts_nil) (fun _ _ _ _ _ => (pv 3))) pa_nil)))), ?_⟩)
  intro nn B l Q h
  obtain ⟨rs, n, rfl, ok, hr, hn, h⟩ := h
  walk_at "g"
  refine ⟨rs, n, rfl, ok, hr, hn, ?_⟩
  walk_at "g"
  refine ⟨Nat, List.range rs.length, _, fun i => .frac (meanT rs n i), rfl, Nat.le_of_lt (small1000 (by simp; omega)), fun W1 x hx => ?_, ?_⟩
  · walk_at "g"
    rfl
  · rw [List.map_map] at h
    exact h

end

end K
end

section
set_option maxRecDepth 100000
set_option maxHeartbeats 4000000
namespace K
open PySem PySem.Spec PyProof.Rows L2 G

/-! values with the heap as it stands -/
def VB (σ : L2.St) (H : Hp) (te : TE) (v : V) : Prop := ∀ Q : VK, Q v H → te σ H Q
def TB (σ : L2.St) (H : Hp) (tt : TT) (b : Bool) : Prop := ∀ Q : Bool → Hp → Prop, Q b H → tt σ H Q
section
variable {σ : L2.St} {H : Hp} {te ta tb td tv : TE} {tt tu : TT} {t u : TS} {D' : Ends} {K : PySem.W.Frag}
theorem vb_var {i : Nat} {v : V} (h : σ[i]? = some (some v)) : VB σ H (tVar i) v := fun Q q => ⟨v, h, q⟩
theorem vb_c {v : V} : VB σ H (tC v) v := fun Q q => q
theorem vb_get {a : Addr} {kvs : List (Key × V)} {x : Str} {v : V} (h : VB σ H td (.ref a)) (hk : H a = some (.dK kvs)) (hv : valV kvs (.inr x) = some v) : VB σ H (tDGet td (tC (.str x))) v := fun Q q => h _ ⟨a, v, rfl, by rw [← hv]; exact DGet.k (k := .inr x) hk, q⟩
theorem vb_add {i j : Int} (h : VB σ H ta (.int i)) (h' : VB σ H tb (.int j)) : VB σ H (tOp rAddI ta tb) (.int (i + j)) := fun Q q => h _ (h' _ ⟨i, j, rfl, rfl, q⟩)
theorem vb_mul {i j : Int} (c : CMul i j) (h : VB σ H ta (.int i)) (h' : VB σ H tb (.int j)) : VB σ H (tOp (rI CMul fun i j => V.int (i * j)) ta tb) (.int (i * j)) := fun Q q => h _ (h' _ ⟨i, j, rfl, rfl, c, q⟩)
theorem vb_pow {i j : Int} (c : CPow i j) (h : VB σ H ta (.int i)) (h' : VB σ H tb (.int j)) : VB σ H (tOp (rI CPow fun i j => V.int (i ^ j.toNat)) ta tb) (.int (i ^ j.toNat)) := fun Q q => h _ (h' _ ⟨i, j, rfl, rfl, c, q⟩)
theorem vb_mod {i j : Int} (c : 0 < j) (h : VB σ H ta (.int i)) (h' : VB σ H tb (.int j)) : VB σ H (tOp rModI ta tb) (.int (i % j)) := fun Q q => h _ (h' _ ⟨i, j, rfl, rfl, c, q⟩)
theorem vb_div {i j : Int} (c : CDivW i j) (h : VB σ H ta (.int i)) (h' : VB σ H tb (.int j)) : VB σ H (tOp rDivI ta tb) (.int (i / j)) := fun Q q => h _ (h' _ ⟨i, j, rfl, rfl, c, q⟩)
theorem vb_ge {i j : Int} (h : VB σ H ta (.int i)) (h' : VB σ H tb (.int j)) : VB σ H (tOp rGeI ta tb) (.bl (decide (j ≤ i))) := fun Q q => h _ (h' _ ⟨i, j, rfl, rfl, q⟩)
theorem vb_gt {i j : Int} (h : VB σ H ta (.int i)) (h' : VB σ H tb (.int j)) : VB σ H (tOp rGtI ta tb) (.bl (decide (j < i))) := fun Q q => h _ (h' _ ⟨i, j, rfl, rfl, q⟩)
theorem vb_lt {i j : Int} (h : VB σ H ta (.int i)) (h' : VB σ H tb (.int j)) : VB σ H (tOp rLtI ta tb) (.bl (decide (i < j))) := fun Q q => h _ (h' _ ⟨i, j, rfl, rfl, q⟩)
theorem vb_eq {i j : Int} (h : VB σ H ta (.int i)) (h' : VB σ H tb (.int j)) : VB σ H (tOp rEq ta tb) (.bl (decide (i = j))) := fun Q q => h _ (h' _ ⟨rfl, by
  rw [show decide (V.int i = V.int j) = decide (i = j) from decide_eq_decide.mpr ⟨fun h => by injection h, fun h => by rw [h]⟩]
  exact q⟩)
theorem vb_int {i : Int} (h : VB σ H ta (.int i)) : VB σ H (tCB rInt1 (tCons ta tNil)) (.int i) := fun Q q => h _ (.inl ⟨i, rfl, q⟩)
theorem vb_len {c : Addr} {vs : List V} (h : VB σ H ta (.ref c)) (hc : H c = some (.lst vs)) : VB σ H (tCB (rLenU K) (tCons ta tNil)) (.int (vs.length : Nat)) := fun Q q => h _ ⟨_, vs.length, rfl, .inl ⟨vs, SqL.of hc, rfl⟩, q⟩
theorem vb_ix {c : Addr} {vs : List V} {i : Int} {v : V} (h : VB σ H ta (.ref c)) (h' : VB σ H tb (.int i)) (hc : H c = some (.lst vs)) (hv : atI vs i = some v) : VB σ H (tOp (rIx K) ta tb) v := fun Q q => h _ (h' _ (.inl ⟨c, vs, i, v, rfl, rfl, SqL.of hc, hv, q⟩))
theorem tb_test {b : Bool} (h : VB σ H te (.bl b)) : TB σ H (tTest te) b := fun Q q => h _ ⟨b, rfl, q⟩
theorem tb_and {b c : Bool} (h : TB σ H tt b) (h' : TB σ H tu c) : TB σ H (tAnd tt tu) (b && c) := fun Q q => h _ (by
  cases b with
  | true => rw [if_pos rfl]; exact h' _ q
  | false => rw [if_neg Bool.false_ne_true]; exact q)
theorem rs_if {b : Bool} (h : TB σ H tt b) (k1 : b = true → t D' σ H) (k2 : b = false → u D' σ H) : tIfS tt t u D' σ H := h _ (by
  cases b with
  | true => rw [if_pos rfl]; exact k1 rfl
  | false => rw [if_neg Bool.false_ne_true]; exact k2 rfl)
theorem rs_cut (M : L2.St → Hp → Prop) (h1 : ∀ D1 : Ends, (∀ σ H, M σ H → D1.nx σ H) → D1.rt = D'.rt → t D1 σ H) (h2 : ∀ σ H, M σ H → u D' σ H) : tSeq t u D' σ H := h1 { D' with nx := u D' } h2 rfl
theorem rs_seq (h : t { D' with nx := u D' } σ H) : tSeq t u D' σ H := h
theorem rs_next (h : D'.nx σ H) : tNext D' σ H := h
theorem rs_asg {i : Nat} {v : V} (h : VB σ H te v) (k : D'.nx (σ.set i (some v)) H) : tAsg te (gName i) D' σ H := h _ k
theorem rs_ret {v : V} (h : VB σ H te v) (k : D'.rt v H) : tRet te D' σ H := h _ k
theorem rs_put {a : Addr} {kvs kvs' : List (Key × V)} {x : Str} {v : V} (hd : VB σ H td (.ref a)) (hv : VB σ H tv v) (hk : H a = some (.dK kvs)) (hl : kvs.length < sizeLine) (he : putK kvs (.inr x) v = kvs') (k : D'.nx σ (upd H a (.dK kvs'))) : sDPut td (tC (.str x)) tv D' σ H :=
  hv _ (hd _ ⟨a, _, rfl, .inl ⟨kvs, .inr x, hk, rfl, hl, rfl⟩, he ▸ k⟩)
end
def bagL (c : Addr) (at_ big mixed count : Int) : List (Key × V) := [(.inr "cells", .ref c), (.inr "at", .int at_), (.inr "big", .int big), (.inr "mixed", .int mixed), (.inr "count", .int count)]
theorem keys5 {a b c d e : D} : ([((.inr "cells" : Key), a), (.inr "at", b), (.inr "big", c), (.inr "mixed", d), (.inr "count", e)].map (·.1)).Nodup := by
  show [(.inr "cells" : Key), .inr "at", .inr "big", .inr "mixed", .inr "count"].Nodup
  decide +kernel
section
local macro_rules | `(tactic| walk_at "e") => `(tactic| first
  | ((with_reducible refine' ek_var ?h1 ?_); (case h1 => exact rfl))
  | (with_reducible refine ek_int ?_)
  | (with_reducible refine ek_bl ?_)
  | (with_reducible refine ek_non ?_)
  | (with_reducible refine ek_str ?_)
  | (with_reducible refine ek_ty ?_)
  | (with_reducible refine ek_cls ?_)
  | (with_reducible refine ek_ix ?_)
  | (with_reducible refine ek_un ?_)
  | (with_reducible refine ek_tup ?_)
  | (with_reducible refine k_call ?_)
  | (with_reducible refine ek_len ?_)
  | (with_reducible refine ek_tuple ?_)
  | (with_reducible refine ek_sum ?_)
  | (with_reducible refine ek_all ?_)
  | (with_reducible refine ek_any ?_)
  | (with_reducible refine ek_chain ?_)
  | (with_reducible refine ek_andV ?_)
  | (with_reducible refine ek_orV ?_)
  | (with_reducible refine ek_notV ?_)
  | (with_reducible refine ek_if ?_)
  | (with_reducible refine ek_ef (ef_lst ?_))
  | (with_reducible refine ek_ef (ef_list ?_))
  | (with_reducible refine ek_ef (ef_cat ?_))
  | (with_reducible refine ek_ef (ef_rep ?_))
  | (with_reducible refine ek_ef (ef_slice ?_))
  | (with_reducible refine ek_ef (ef_rev ?_))
  | (with_reducible refine ek_ef (ef_lstRev ?_))
  | (with_reducible refine ek_ef (ef_map ?_))
  | (with_reducible refine ek_ef (ef_filt ?_))
  | (with_reducible refine ef_lst ?_)
  | (with_reducible refine ef_list ?_)
  | (with_reducible refine ef_cat ?_)
  | (with_reducible refine ef_rep ?_)
  | (with_reducible refine ef_slice ?_)
  | (with_reducible refine ef_rev ?_)
  | (with_reducible refine ef_lstRev ?_)
  | (with_reducible refine ef_map ?_)
  | (with_reducible refine ef_filt ?_)
  | ((with_reducible refine' el_var ?h1 ?_); (case h1 => exact rfl))
  | ((with_reducible refine' el_own ?h1 ?_); (case h1 => exact rfl))
  | (with_reducible refine el_ef (ef_lst ?_))
  | (with_reducible refine el_ef (ef_list ?_))
  | (with_reducible refine el_ef (ef_cat ?_))
  | (with_reducible refine el_ef (ef_rep ?_))
  | (with_reducible refine el_ef (ef_slice ?_))
  | (with_reducible refine el_ef (ef_rev ?_))
  | (with_reducible refine el_ef (ef_lstRev ?_))
  | (with_reducible refine el_ef (ef_map ?_))
  | (with_reducible refine el_ef (ef_filt ?_))
  | (with_reducible refine ek_op ?_)
  | (with_reducible refine ek_cb ?_)
  | (with_reducible refine el_ek ?_)
  | (with_reducible refine tk_test ?_)
  | (with_reducible refine tk_B ?_)
  | (with_reducible refine tk_and ?_)
  | (with_reducible refine tk_or ?_)
  | (with_reducible refine tk_not ?_)
  | (with_reducible refine tk_yes ?_)
  | (with_reducible refine ak_nil ?_)
  | (with_reducible refine ak_cons ?_)
  | (with_reducible refine k_num (‹Tx _ _›) ?_)
  | (with_reducible refine k_den (‹Tx _ _›) ?_)
  | (with_reducible refine k_mk2 ?_)
  | (with_reducible refine k_mkO ?_)
  | (with_reducible refine k_rows (‹Tx _ _›) ?_)
  | (with_reducible refine k_mk1 ?_)
  | (with_reducible refine k_bel ?_)
  | (with_reducible refine k_own ?_)
  | (with_reducible refine rk_U2 (k_own ?_))
  | (with_reducible refine rk_mul (Sz.mul (by assumption) (by assumption)) ?_)
  | (with_reducible refine rk_U1 (rk_mul (Sz.mul (by assumption) (by assumption)) ?_))
  | (with_reducible refine ek_dget ?_)
  | (with_reducible refine uk_neg ?_)
  | (with_reducible refine ek_disp ?_)
  | (with_reducible refine pk_cons ?_)
  | (with_reducible refine pk_nil ?_)
  | (with_reducible refine rk_mod (by assumption) ?_)
  | (with_reducible refine rk_add ?_)
  | (with_reducible refine rk_sub ?_)
  | (with_reducible refine rk_lt ?_)
  | (with_reducible refine rk_le ?_)
  | (with_reducible refine rk_gt ?_)
  | (with_reducible refine rk_ge ?_)
  | (with_reducible refine rk_eqI ?_)
  | (with_reducible refine rk_neI ?_)
  | (with_reducible refine rk_isN ?_)
  | (with_reducible refine rk_notN ?_)
  | (with_reducible refine rk_U1 (rk_add ?_))
  | (with_reducible refine rk_U1 (rk_sub ?_))
  | (with_reducible refine ck_gcd ?_)
  | (with_reducible refine ck_abs ?_)
  | (with_reducible refine ck_int ?_)
  | (with_reducible refine ik_seq ?_)
  | (with_reducible refine ik_range1 ?_)
  | (with_reducible refine ik_range2 ?_)
  | (with_reducible refine ik_enumA ?_)
  | (with_reducible refine ik_zip ?_)
  | (with_reducible refine ik_rev ?_)
  | ((with_reducible refine' cg_name ?_ ?h1 ?h2); (case h1 => exact rfl); (case h2 => decide))
  | ((with_reducible refine' cg_anyT ?h1 ?_); (case h1 => exact rfl))
  | ((with_reducible refine' cg_anyL ?h1 ?_); (case h1 => exact rfl))
  | ((with_reducible refine' cg_anyK ?h1 ?_); (case h1 => exact rfl))
  | ((with_reducible refine' cgs_cons ?_ ?h1 ?h2); (case h1 => exact rfl); (case h2 => decide))
  | (with_reducible refine cgs_nil ?_)
  | ((with_reducible refine' gk_name ?_ ?h1); (case h1 => exact rfl))
  | ((with_reducible refine' gk_anyT ?h1 ?_); (case h1 => exact rfl))
  | ((with_reducible refine' gk_anyL ?h1 ?_); (case h1 => exact rfl))
  | ((with_reducible refine' gk_anyK ?h1 ?_); (case h1 => exact rfl))
  | ((with_reducible refine' gks_cons ?_ ?h1); (case h1 => exact rfl))
  | ((with_reducible refine' gks_consA (n := 0) ?_ ?h1 ?h2); (case h1 => exact rfl); (case h2 => exact rfl))
  | ((with_reducible refine' gks_consB ?h0 ?_ ?h1 ?h2); (case h0 => exact rfl); (case h1 => exact rfl); (case h2 => exact rfl))
  | (with_reducible refine gks_nil ?_)
  | (with_reducible refine ok_none ?_)
  | (with_reducible refine ok_some ?_))
local macro_rules | `(tactic| walk_at "s") => `(tactic| first
  | (with_reducible refine sx_guard ?_ ?_)
  | (with_reducible refine sx_seq ?_)
  | (with_reducible refine sx_ret ?_)
  | (with_reducible refine sx_if ?_)
  | (with_reducible refine sx_next ?_)
  | (with_reducible refine sx_break ?_)
  | (with_reducible refine sx_cont ?_)
  | ((with_reducible refine' sx_append ?h1 ?_); (case h1 => exact rfl))
  | ((with_reducible refine' sx_setI ?h1 ?_); (case h1 => exact rfl))
  | ((with_reducible refine' sx_set ?h1 ?_); (case h1 => exact rfl))
  | (with_reducible refine sx_asg ?_)
  | ((with_reducible refine' sx_par ?h1 ?h2 ?_); (case h1 => exact rfl); (case h2 => exact rfl))
  | (with_reducible refine sx_drop ?_)
  | ((with_reducible refine' k_fldS (‹Tx _ _›) ?h1 ?h2 ?h3 ?_); (case h1 => exact rfl); (case h2 => decide); (case h3 => exact rfl))
  | ((with_reducible refine' k_fldO (‹Tx _ _›) ?h1 ?h3 ?_); (case h1 => exact rfl); (case h3 => exact rfl)))
/-! plain existentials that the rules leave -/
local macro_rules | `(tactic| walk_at "x") => `(tactic| first
  | (with_reducible refine x_bl ?_)
  | (with_reducible refine x_int ?_)
  | (with_reducible refine x_frac ?_)
  | (with_reducible refine x_lst ?_)
  | (with_reducible refine x_off ?_)
  | (with_reducible refine x_low ?_)
  | (with_reducible refine x_ownR ?_)
  | (with_reducible refine x_ownA ?_)
  | (with_reducible refine x_tup ?_)
  | (with_reducible refine x_kd ?_)
  | (with_reducible refine x_oneL ?_)
  | (with_reducible refine x_oneT ?_)
  | (with_reducible refine x_one ?_)
  | ((with_reducible refine' x_at ?h1 ?_); (case h1 => exact rfl))
  | ((with_reducible refine' x_dic ?h1 ?_); (case h1 => exact rfl))
  | (with_reducible refine (⟨rfl, ?_⟩ : Kd.l = Kd.l ∧ _))
  | ((with_reducible refine' x_len ?h1 ?_); (case h1 => exact rfl))
  | ((with_reducible refine' br_t ?h1 ?_); (case h1 => exact rfl))
  | ((with_reducible refine' br_f ?h1 ?_); (case h1 => exact rfl)))
local macro_rules | `(tactic| walk_at "f") => `(tactic| first
  | ((with_reducible refine' sx_forW ?h1 ?_); (case h1 => exact rfl))
  | (with_reducible refine sx_forGW ?_))
local macro_rules | `(tactic| walk_at "g") => `(tactic| repeat (first | walk_at "s" | walk_at "f" | walk_at "e" | walk_at "x"))
local macro_rules | `(tactic| walk_at "v") => `(tactic| repeat (first | walk_at "e" | walk_at "x"))
local macro_rules | `(tactic| walk_at "h") => `(tactic| repeat (first | walk_at "s" | walk_at "e" | walk_at "x"))
variable {P : Program} {w : World} {K : PySem.W.Frag} {mg : Str → Option Value} {base : Heap}

def S__law_bag : List D → (D → Prop) → Prop := fun l K => ∃ xs : List Int, l = [.raw (xs.map .int)] ∧ xs.length ≤ 63 ∧ K (.dic [(.inr "cells", .lst ((xs.map fun i => (i.natAbs : Int)).map .int)), (.inr "at", .int 0), (.inr "big", .int 0), (.inr "mixed", .int (7 + (xs.length : Nat))), (.inr "count", .int 0)])
theorem ok__law_bag (T : Tx K mg)  : Cal P w K mg base 1 "_law_bag" ["script"] (SpFam (CL K) S__law_bag) := by
  refine cal_mkF (N := ["script", "cells", "cell"]) T.g__law_bag T.d__law_bag sc__law_bag (fun _ _ _ _ _ _ us hl => match us, hl with | [_], _ => rfl) (by intro l Q h; first | (obtain ⟨rfl, _⟩ := h; rfl) | (obtain ⟨_, rfl, _⟩ := h; rfl) | (obtain ⟨_, _, rfl, _⟩ := h; rfl) | (obtain ⟨_, _, _, rfl, _⟩ := h; rfl) | (obtain ⟨_, _, _, _, rfl, _⟩ := h; rfl) | (obtain ⟨_, _, _, _, _, rfl, _⟩ := h; rfl) | (obtain ⟨_, _, _, _, _, _, rfl, _⟩ := h; rfl) | (obtain ⟨_, _, _, _, _, _, _, rfl, _⟩ := h; rfl) | (obtain ⟨_, _, _, _, _, _, _, _, rfl, _⟩ := h; rfl)) (fun f cdv A outer s H E hr => ⟨_, (pss_cons (ps_setLc (i := 1) (own := [("cell", 2)]) (g := gName 2) (tt := tYes) rfl sc__law_bag.nd rfl rfl (sw_true rfl rfl rfl (by decide +kernel)) (pi_seqK K rfl (pv 0)) (blkOk_by (own := [("cell", 2)]) (N := ["script", "cells", "cell"]) (sc := defScope s__law_bag) (by decide +kernel)) (fun _ _ _ _ _ => (pg_name (i := 2) sc__law_bag.nd rfl (by first | exact Or.inl rfl | exact Or.inr rfl))) (fun _ _ _ _ _ => pts_nil) (fun _ _ _ _ _ => (pe_callB cr_abs (by rfl) T.b_abs (by decide +kernel) (pa_cons (pe_callTy cr_int1 (by rfl) T.b_int (by decide +kernel) (pa_cons (pv 2) pa_nil)) pa_nil)))) (pss_one (ps_ret (pe_disp (pps_cons pe_str (pv 1) (pps_cons pe_str pe_int (pps_cons pe_str pe_int (pps_cons pe_str (pe_op op_addI pe_int (pe_callB (cr_lenK K rfl) (by rfl) T.b_len PySem.boot_len (pa_cons (pv 1) pa_nil))) (pps_cons pe_str pe_int pps_nil))))) (by rfl) (by rfl) (fun z => by cases z) (by decide))))), ?_⟩)
  intro nn B l Q h
  obtain ⟨xs, rfl, hl, h⟩ := h
  refine sx_seq ?_
  refine' sx_set ?h1 (ek_ef (ef_map (ik_raw ?_)))
  case h1 => exact rfl
  refine' ek_var ?h1 ?_
  case h1 => exact rfl
  refine ⟨_, rfl, ?_⟩
  refine ⟨Int, xs, .int, fun i => .int (i.natAbs : Int), rfl, Nat.le_of_lt (small1000 (by omega)), fun W1 i hi => ?_, ?_⟩
  · walk_at "g"
    rw [show (if i < 0 then -i else i) = (i.natAbs : Int) by split <;> omega]
  walk_at "g"
  refine ⟨keys5, by show 5 ≤ 15; decide, ?_⟩
  rw [List.length_map]
  rw [List.map_map] at h
  exact h

def S__law_draw : List D → (D → Prop) → Prop := fun l K => ∃ m : Int, l = [.pool, .int m] ∧ 0 < m ∧ m ≤ 1000 ∧ ∀ r : Int, 0 ≤ r → r < m → K (.int r)
theorem ok__law_draw (T : Tx K mg)  : Cal P w K mg base 1 "_law_draw" ["bag", "many"] (SpFam (CL K) S__law_draw) := by
  refine cal_mkF (N := ["bag", "many", "cell", "got"]) T.g__law_draw T.d__law_draw sc__law_draw (fun _ _ _ _ _ _ us hl => match us, hl with | [_, _], _ => rfl) (by intro l Q h; first | (obtain ⟨rfl, _⟩ := h; rfl) | (obtain ⟨_, rfl, _⟩ := h; rfl) | (obtain ⟨_, _, rfl, _⟩ := h; rfl) | (obtain ⟨_, _, _, rfl, _⟩ := h; rfl) | (obtain ⟨_, _, _, _, rfl, _⟩ := h; rfl) | (obtain ⟨_, _, _, _, _, rfl, _⟩ := h; rfl) | (obtain ⟨_, _, _, _, _, _, rfl, _⟩ := h; rfl) | (obtain ⟨_, _, _, _, _, _, _, rfl, _⟩ := h; rfl) | (obtain ⟨_, _, _, _, _, _, _, _, rfl, _⟩ := h; rfl)) (fun f cdv A outer s H E hr => ⟨_, (pss_cons (ps_if (PW.pt (pw_and (pt_cmpR op_eq (pe_dget (hu_of hr) (pv 0) pe_str (fun _ _ => rfl)) pe_int (nomark _)) (pw_and1 (pt_cmpR op_ltI (pe_dget (hu_of hr) (pv 0) pe_str (fun _ _ => rfl)) (pe_callB (cr_lenK K rfl) (by rfl) T.b_len PySem.boot_len (pa_cons (pe_dget (hu_of hr) (pv 0) pe_str (fun _ _ => rfl)) pa_nil)) (nomark _))))) (pss_cons (ps_set (i := 2) sc__law_draw.nd rfl (by first | exact Or.inl rfl | exact Or.inr rfl) (pe_ix (ix_seqK K rfl) (pe_dget (hu_of hr) (pv 0) pe_str (fun _ _ => rfl)) (pe_dget (hu_of hr) (pv 0) pe_str (fun _ _ => rfl)) (fun _ _ => rfl))) (pss_cons (ps_dput (hu_of hr) (pv 0) pe_str (pe_op op_addI (pe_dget (hu_of hr) (pv 0) pe_str (fun _ _ => rfl)) pe_int) rfl) (pss_one (ps_if (pt_cmpR op_geI (pv 2) (pe_op op_pow pe_int pe_int) (nomark _)) (pss_one (ps_dput (hu_of hr) (pv 0) pe_str (pv 2) rfl)) (pss_one (ps_dput (hu_of hr) (pv 0) pe_str (pe_op op_modI (pe_callTy cr_int1 (by rfl) T.b_int (by decide +kernel) (pa_cons (pe_op op_addI (pe_op op_addI (pe_op op_mul (pe_dget (hu_of hr) (pv 0) pe_str (fun _ _ => rfl)) (pe_dget (hu_of hr) (pv 0) pe_str (fun _ _ => rfl))) (pe_op op_mul (pv 2) pe_int)) pe_int) pa_nil)) pe_int) rfl)))))) pss_nil) (pss_cons (ps_if (pt_cmpR op_gtI (pe_dget (hu_of hr) (pv 0) pe_str (fun _ _ => rfl)) pe_int (nomark _)) (pss_cons (ps_set (i := 3) sc__law_draw.nd rfl (by first | exact Or.inl rfl | exact Or.inr rfl) (pe_op op_modI (pe_callTy cr_int1 (by rfl) T.b_int (by decide +kernel) (pa_cons (pe_dget (hu_of hr) (pv 0) pe_str (fun _ _ => rfl)) pa_nil)) (pv 1))) (pss_cons (ps_dput (hu_of hr) (pv 0) pe_str (pe_op op_divI (pe_callTy cr_int1 (by rfl) T.b_int (by decide +kernel) (pa_cons (pe_dget (hu_of hr) (pv 0) pe_str (fun _ _ => rfl)) pa_nil)) (pv 1)) rfl) (pss_one (ps_ret (pv 3))))) pss_nil) (pss_cons (ps_dput (hu_of hr) (pv 0) pe_str (pe_op op_addI (pe_dget (hu_of hr) (pv 0) pe_str (fun _ _ => rfl)) pe_int) rfl) (pss_cons (ps_dput (hu_of hr) (pv 0) pe_str (pe_op op_modI (pe_callTy cr_int1 (by rfl) T.b_int (by decide +kernel) (pa_cons (pe_op op_addI (pe_op op_addI (pe_op op_mul (pe_dget (hu_of hr) (pv 0) pe_str (fun _ _ => rfl)) (pe_dget (hu_of hr) (pv 0) pe_str (fun _ _ => rfl))) (pe_op op_mul pe_int (pe_dget (hu_of hr) (pv 0) pe_str (fun _ _ => rfl)))) pe_int) pa_nil)) pe_int) rfl) (pss_one (ps_ret (pe_op op_modI (pe_callTy cr_int1 (by rfl) T.b_int (by decide +kernel) (pa_cons (pe_op op_divI (pe_dget (hu_of hr) (pv 0) pe_str (fun _ _ => rfl)) pe_int) pa_nil)) (pv 1)))))))), ?_⟩)
  intro nn B l Q h
  obtain ⟨m, rfl, m0, m1, h⟩ := h
  intro W H σ e D' s
  obtain ⟨v0, hs0, r0⟩ := e.at_ (i := 0) (x := .pool) rfl
  obtain ⟨v1, hs1, r1⟩ := e.at_ (i := 1) (x := .int m) rfl
  cases r1
  cases r0 with
  | @pool a hP =>
  have hlen : σ.length = 4 := e.len
  obtain ⟨hWa, c, cells, at_, big, mixed, count, hHa, hWc, b1, b2, b3, b4, b5, b6, b7⟩ := e.pl a hP
  have hca : c ≠ a := fun z => by rw [z, hWa] at hWc; cases hWc
  have hHc : H c = some (.lst (cells.map V.int)) := e.wh _ _ hWc
  have l5 : ∀ {c a b m k}, (bagL c a b m k).length < sizeLine := fun {_ _ _ _ _} => small1000 (by show 5 ≤ 1000; decide)
  have fin : ∀ (H1 : Hp) (a1 : Nat) (g x k r : Int), H1 a = some (.dK (bagL c a1 g x k)) → (∀ y, y ≠ a → H1 y = H y) → a1 ≤ cells.length → 0 ≤ g → 0 ≤ x → x < 2 ^ 61 → 0 ≤ k → 0 ≤ r → r < m → D'.rt (.int r) H1 := by
    intro H1 a1 g x k r f1 f2 f3 f4 f5 f6 f7 f8 f9
    refine s.rt (.int r) (.int r) W H1 ⟨e.stp.ww, fun y o z => ?_, fun y o z z1 z2 => ?_, fun y o z => ?_, e.stp.old, fun y z _ => ?_⟩ (.int r) (h r f8 f9)
    · rw [f2 y (fun w => by subst w; rw [hWa] at z; cases z)]; exact e.wh y o z
    · rw [f2 y (fun w => by subst w; exact z1 hP)]; exact e.stp.hh y o z z1 z2
    · by_cases w : y = a
      · subst w; exact ⟨_, f1⟩
      · rw [f2 y w]; exact e.stp.dom y o z
    · rw [hP] at z; cases z
      exact ⟨c, cells, a1, g, x, k, f1, hWc, f3, b2, b3, f4, f5, f6, f7⟩
  refine rs_cut (fun σ1 H1 => σ1[0]? = some (some (.ref a)) ∧ σ1[1]? = some (some (.int m)) ∧ σ1.length = 4 ∧ ∃ (a1 : Nat) (g x k : Int), H1 a = some (.dK (bagL c a1 g x k)) ∧ (∀ y, y ≠ a → H1 y = H y) ∧ a1 ≤ cells.length ∧ 0 ≤ g ∧ 0 ≤ x ∧ x < 2 ^ 61 ∧ 0 ≤ k) (fun D1 hD _ => ?_) ?_
  · refine rs_if (tb_and (tb_test (vb_eq (vb_get (vb_var hs0) hHa rfl) vb_c)) (tb_test (vb_lt (vb_get (vb_var hs0) hHa rfl) (vb_len (vb_get (vb_var hs0) hHa rfl) hHc)))) (fun hb => ?_) (fun _ => ?_)
    · simp only [Bool.and_eq_true, decide_eq_true_eq] at hb
      obtain ⟨_, hb⟩ := hb
      rw [List.length_map] at hb
      have hb : at_ < cells.length := by omega
      have hcell : atI (cells.map V.int) (at_ : Int) = some (.int cells[at_]) := atI_nat (by simp [hb])
      have c0 : 0 ≤ cells[at_] := b3 _ (List.getElem_mem hb)
      refine rs_seq (rs_asg (vb_ix (vb_get (vb_var hs0) hHa rfl) (vb_get (vb_var hs0) hHa rfl) hHc hcell) ?_)
      have t0 : (σ.set 2 (some (.int cells[at_])))[0]? = some (some (.ref a)) := by rw [List.getElem?_set_ne (by decide)]; exact hs0
      have t1 : (σ.set 2 (some (.int cells[at_])))[1]? = some (some (.int m)) := by rw [List.getElem?_set_ne (by decide)]; exact hs1
      have t2 : (σ.set 2 (some (.int cells[at_])))[2]? = some (some (.int cells[at_])) := by rw [List.getElem?_set_self (by omega)]
      have t3 : (σ.set 2 (some (.int cells[at_]))).length = 4 := by rw [List.length_set]; exact hlen
      refine rs_seq (rs_put (vb_var t0) (vb_add (vb_get (vb_var t0) hHa rfl) vb_c) hHa l5 (kvs' := bagL c ((at_ + 1 : Nat) : Int) big mixed count) rfl ?_)
      have u1 : (upd H a (.dK (bagL c ((at_ + 1 : Nat) : Int) big mixed count))) a = some (.dK (bagL c ((at_ + 1 : Nat) : Int) big mixed count)) := upd_same
      have u2 : ∀ y, y ≠ a → (upd H a (.dK (bagL c ((at_ + 1 : Nat) : Int) big mixed count))) y = H y := fun y hy => upd_ne hy
      refine rs_if (tb_test (vb_ge (vb_var t2) (vb_pow ⟨by decide, by decide, by decide⟩ vb_c vb_c))) (fun _ => ?_) (fun hlt => ?_)
      · refine rs_put (vb_var t0) (vb_var t2) u1 l5 (kvs' := bagL c ((at_ + 1 : Nat) : Int) cells[at_] mixed count) rfl ?_
        exact hD _ _ ⟨t0, t1, t3, at_ + 1, _, _, _, upd_same, fun y hy => by rw [upd_ne hy]; exact u2 y hy, hb, c0, b5, b6, b7⟩
      · have hlt := of_decide_eq_false hlt
        have p18 : ((10 : Int) ^ (18 : Int).toNat) = 1000000000000000000 := by decide
        rw [p18] at hlt
        have mm := Int.emod_nonneg (mixed * mixed + cells[at_] * 2654435761 + 131) (show (2305843009213693951 : Int) ≠ 0 by decide)
        have ml := Int.emod_lt_of_pos (mixed * mixed + cells[at_] * 2654435761 + 131) (show (0 : Int) < 2305843009213693951 by decide)
        refine rs_put (vb_var t0) (vb_mod (by decide) (vb_int (vb_add (vb_add (vb_mul (.inl ⟨by omega, by omega⟩) (vb_get (vb_var t0) u1 rfl) (vb_get (vb_var t0) u1 rfl)) (vb_mul (.inr ⟨by decide, by decide⟩) (vb_var t2) vb_c)) vb_c)) vb_c) u1 l5 (kvs' := bagL c ((at_ + 1 : Nat) : Int) big ((mixed * mixed + cells[at_] * 2654435761 + 131) % 2305843009213693951) count) rfl ?_
        exact hD _ _ ⟨t0, t1, t3, at_ + 1, _, _, _, upd_same, fun y hy => by rw [upd_ne hy]; exact u2 y hy, hb, b4, mm, by omega, b7⟩
    · exact rs_next (hD _ _ ⟨hs0, hs1, hlen, at_, big, mixed, count, hHa, fun _ _ => rfl, b1, b4, b5, b6, b7⟩)
  · rintro σ1 H1 ⟨t0, t1, t3, a1, g, x, k, f1, f2, f3, f4, f5, f6, f7⟩
    refine rs_cut (fun σ2 H2 => σ2 = σ1 ∧ H2 = H1) (fun D1 hD hR => ?_) ?_
    · refine rs_if (tb_test (vb_gt (vb_get (vb_var t0) f1 rfl) vb_c)) (fun _ => ?_) (fun _ => rs_next (hD _ _ ⟨rfl, rfl⟩))
      refine rs_seq (rs_asg (vb_mod m0 (vb_int (vb_get (vb_var t0) f1 rfl)) (vb_var t1)) ?_)
      have w0 : (σ1.set 3 (some (.int (g % m))))[0]? = some (some (.ref a)) := by rw [List.getElem?_set_ne (by decide)]; exact t0
      have w1 : (σ1.set 3 (some (.int (g % m))))[1]? = some (some (.int m)) := by rw [List.getElem?_set_ne (by decide)]; exact t1
      have w2 : (σ1.set 3 (some (.int (g % m))))[3]? = some (some (.int (g % m))) := by rw [List.getElem?_set_self (by omega)]
      refine rs_seq (rs_put (vb_var w0) (vb_div (wide_div (b := 64) m0 (by omega) (by decide) (by decide)) (vb_int (vb_get (vb_var w0) f1 rfl)) (vb_var w1)) f1 l5 (kvs' := bagL c a1 (g / m) x k) rfl ?_)
      refine rs_ret (vb_var w2) ?_
      show D1.rt _ _
      rw [hR]
      exact fin _ a1 (g / m) x k (g % m) upd_same (fun y hy => by rw [upd_ne hy]; exact f2 y hy) f3 (Int.ediv_nonneg f4 (by omega)) f5 f6 f7 (Int.emod_nonneg _ (by omega)) (Int.emod_lt_of_pos _ m0)
    · rintro σ2 H2 ⟨rfl, rfl⟩
      refine rs_seq (rs_put (vb_var t0) (vb_add (vb_get (vb_var t0) f1 rfl) vb_c) f1 l5 (kvs' := bagL c a1 g x (k + 1)) rfl ?_)
      have mm := Int.emod_nonneg (x * x + 2 * (k + 1) + 1) (show (2305843009213693951 : Int) ≠ 0 by decide)
      have ml := Int.emod_lt_of_pos (x * x + 2 * (k + 1) + 1) (show (0 : Int) < 2305843009213693951 by decide)
      have u1 : (upd H2 a (.dK (bagL c a1 g x (k + 1)))) a = some (.dK (bagL c a1 g x (k + 1))) := upd_same
      refine rs_seq (rs_put (vb_var t0) (vb_mod (by decide) (vb_int (vb_add (vb_add (vb_mul (.inl ⟨by omega, by omega⟩) (vb_get (vb_var t0) u1 rfl) (vb_get (vb_var t0) u1 rfl)) (vb_mul (.inl ⟨by decide, by decide⟩) vb_c (vb_get (vb_var t0) u1 rfl))) vb_c)) vb_c) u1 l5 (kvs' := bagL c a1 g ((x * x + 2 * (k + 1) + 1) % 2305843009213693951) (k + 1)) rfl ?_)
      have u2 : (upd (upd H2 a (.dK (bagL c a1 g x (k + 1)))) a (.dK (bagL c a1 g ((x * x + 2 * (k + 1) + 1) % 2305843009213693951) (k + 1)))) a = some (.dK (bagL c a1 g ((x * x + 2 * (k + 1) + 1) % 2305843009213693951) (k + 1))) := upd_same
      refine rs_ret (vb_mod m0 (vb_int (vb_div (wide_div (b := 64) (by decide) (by decide) (by decide) (by decide)) (vb_get (vb_var t0) u2 rfl) vb_c)) (vb_var t1)) ?_
      exact fin _ a1 g _ (k + 1) _ upd_same (fun y hy => by rw [upd_ne hy, upd_ne hy]; exact f2 y hy) f3 f4 mm (by omega) (by omega) (Int.emod_nonneg _ (by omega)) (Int.emod_lt_of_pos _ m0)

end

end K
end

section
set_option maxRecDepth 100000
set_option maxHeartbeats 4000000
namespace K
open PySem PySem.Spec PyProof.Rows L2 G

structure WOk (q : Rat) : Prop where
  nn : 0 ≤ q.num
  n1 : q.num ≤ 29
  d1 : q.den ≤ 6
structure OwnOk (r : ORow) : Prop where
  ne : r ≠ []
  len : r.length ≤ 3
  w1 : ∀ p ∈ r, 1 ≤ p.1
  w2 : ∀ p ∈ r, p.1 ≤ 5
  ok : ∀ p ∈ r, WOk p.2
theorem wok_div {n d : Int} (h0 : 0 ≤ n) (h1 : n ≤ 29) (h2 : 0 < d) (h3 : d ≤ 6) : WOk (Rat.divInt n d) where
  nn := by rw [divInt_num h2]; exact Int.ediv_nonneg h0 (by omega)
  n1 := by rw [divInt_num h2]; exact Int.le_trans (Int.ediv_le_self _ h0) h1
  d1 := by
    have := divInt_den (n := n) h2
    have h := Int.ediv_le_self (a := d) ((Nat.gcd n.natAbs d.natAbs : Nat) : Int) (by omega)
    omega
theorem wok_int {n : Int} (h0 : 0 ≤ n) (h1 : n ≤ 29) : WOk (n : Rat) := ⟨h0, h1, by show 1 ≤ 6; decide⟩
theorem LR.div {n d : Int} (h0 : 0 ≤ n) (h1 : n ≤ 29) (h2 : 0 < d) (h3 : d ≤ 6) : LR 5 (Rat.divInt n d) (.tup [.int n, .int d]) := by
  refine ⟨n, d, rfl, h2, ?_, Nat.lt_of_le_of_lt (show n.natAbs ≤ 29 by omega) (by decide), Nat.lt_of_le_of_lt (show d.natAbs ≤ 6 by omega) (by decide)⟩
  rw [Rat.divInt_eq_div]
  have : (0 : Rat) < (d : Rat) := Rat.intCast_pos.mpr h2
  grind
theorem keys2 {a b : D} : ([((.inr "rows" : Key), a), (.inr "all", b)].map (·.1)).Nodup := by
  show [(.inr "rows" : Key), .inr "all"].Nodup
  decide +kernel
def cellO (p : Int × Rat) : D := .lst [.int p.1, lowD p.2]
section
local macro_rules | `(tactic| walk_at "e") => `(tactic| first
  | ((with_reducible refine' ek_var ?h1 ?_); (case h1 => exact rfl))
  | (with_reducible refine ek_int ?_)
  | (with_reducible refine ek_bl ?_)
  | (with_reducible refine ek_non ?_)
  | (with_reducible refine ek_str ?_)
  | (with_reducible refine ek_ty ?_)
  | (with_reducible refine ek_cls ?_)
  | (with_reducible refine ek_ix ?_)
  | (with_reducible refine ek_un ?_)
  | (with_reducible refine ek_tup ?_)
  | (with_reducible refine k_call ?_)
  | (with_reducible refine ek_len ?_)
  | (with_reducible refine ek_tuple ?_)
  | (with_reducible refine ek_sum ?_)
  | (with_reducible refine ek_all ?_)
  | (with_reducible refine ek_any ?_)
  | (with_reducible refine ek_chain ?_)
  | (with_reducible refine ek_andV ?_)
  | (with_reducible refine ek_orV ?_)
  | (with_reducible refine ek_notV ?_)
  | (with_reducible refine ek_if ?_)
  | (with_reducible refine ek_ef (ef_lst ?_))
  | (with_reducible refine ek_ef (ef_list ?_))
  | (with_reducible refine ek_ef (ef_cat ?_))
  | (with_reducible refine ek_ef (ef_rep ?_))
  | (with_reducible refine ek_ef (ef_slice ?_))
  | (with_reducible refine ek_ef (ef_rev ?_))
  | (with_reducible refine ek_ef (ef_lstRev ?_))
  | (with_reducible refine ek_ef (ef_map ?_))
  | (with_reducible refine ek_ef (ef_filt ?_))
  | (with_reducible refine ef_lst ?_)
  | (with_reducible refine ef_list ?_)
  | (with_reducible refine ef_cat ?_)
  | (with_reducible refine ef_rep ?_)
  | (with_reducible refine ef_slice ?_)
  | (with_reducible refine ef_rev ?_)
  | (with_reducible refine ef_lstRev ?_)
  | (with_reducible refine ef_map ?_)
  | (with_reducible refine ef_filt ?_)
  | ((with_reducible refine' el_var ?h1 ?_); (case h1 => exact rfl))
  | ((with_reducible refine' el_own ?h1 ?_); (case h1 => exact rfl))
  | (with_reducible refine el_ef (ef_lst ?_))
  | (with_reducible refine el_ef (ef_list ?_))
  | (with_reducible refine el_ef (ef_cat ?_))
  | (with_reducible refine el_ef (ef_rep ?_))
  | (with_reducible refine el_ef (ef_slice ?_))
  | (with_reducible refine el_ef (ef_rev ?_))
  | (with_reducible refine el_ef (ef_lstRev ?_))
  | (with_reducible refine el_ef (ef_map ?_))
  | (with_reducible refine el_ef (ef_filt ?_))
  | (with_reducible refine ek_op ?_)
  | (with_reducible refine ek_cb ?_)
  | (with_reducible refine el_ek ?_)
  | (with_reducible refine tk_test ?_)
  | (with_reducible refine tk_B ?_)
  | (with_reducible refine tk_and ?_)
  | (with_reducible refine tk_or ?_)
  | (with_reducible refine tk_not ?_)
  | (with_reducible refine tk_yes ?_)
  | (with_reducible refine ak_nil ?_)
  | (with_reducible refine ak_cons ?_)
  | (with_reducible refine k_num (‹Tx _ _›) ?_)
  | (with_reducible refine k_den (‹Tx _ _›) ?_)
  | (with_reducible refine k_mk2 ?_)
  | (with_reducible refine k_mkO ?_)
  | (with_reducible refine k_rows (‹Tx _ _›) ?_)
  | (with_reducible refine k_mk1 ?_)
  | (with_reducible refine k_bel ?_)
  | (with_reducible refine k_own ?_)
  | (with_reducible refine rk_U2 (k_own ?_))
  | (with_reducible refine rk_mul (Sz.mul (by assumption) (by assumption)) ?_)
  | (with_reducible refine rk_U1 (rk_mul (Sz.mul (by assumption) (by assumption)) ?_))
  | (with_reducible refine ek_dget ?_)
  | (with_reducible refine uk_neg ?_)
  | (with_reducible refine ek_disp ?_)
  | (with_reducible refine pk_cons ?_)
  | (with_reducible refine pk_nil ?_)
  | (with_reducible refine rk_mod (by assumption) ?_)
  | (with_reducible refine rk_add ?_)
  | (with_reducible refine rk_sub ?_)
  | (with_reducible refine rk_lt ?_)
  | (with_reducible refine rk_le ?_)
  | (with_reducible refine rk_gt ?_)
  | (with_reducible refine rk_ge ?_)
  | (with_reducible refine rk_eqI ?_)
  | (with_reducible refine rk_neI ?_)
  | (with_reducible refine rk_isN ?_)
  | (with_reducible refine rk_notN ?_)
  | (with_reducible refine rk_U1 (rk_add ?_))
  | (with_reducible refine rk_U1 (rk_sub ?_))
  | (with_reducible refine ck_gcd ?_)
  | (with_reducible refine ck_abs ?_)
  | (with_reducible refine ck_int ?_)
  | (with_reducible refine ik_seq ?_)
  | (with_reducible refine ik_range1 ?_)
  | (with_reducible refine ik_range2 ?_)
  | (with_reducible refine ik_enumA ?_)
  | (with_reducible refine ik_zip ?_)
  | (with_reducible refine ik_rev ?_)
  | ((with_reducible refine' cg_name ?_ ?h1 ?h2); (case h1 => exact rfl); (case h2 => decide))
  | ((with_reducible refine' cg_anyT ?h1 ?_); (case h1 => exact rfl))
  | ((with_reducible refine' cg_anyL ?h1 ?_); (case h1 => exact rfl))
  | ((with_reducible refine' cg_anyK ?h1 ?_); (case h1 => exact rfl))
  | ((with_reducible refine' cgs_cons ?_ ?h1 ?h2); (case h1 => exact rfl); (case h2 => decide))
  | (with_reducible refine cgs_nil ?_)
  | ((with_reducible refine' gk_name ?_ ?h1); (case h1 => exact rfl))
  | ((with_reducible refine' gk_anyT ?h1 ?_); (case h1 => exact rfl))
  | ((with_reducible refine' gk_anyL ?h1 ?_); (case h1 => exact rfl))
  | ((with_reducible refine' gk_anyK ?h1 ?_); (case h1 => exact rfl))
  | ((with_reducible refine' gks_cons ?_ ?h1); (case h1 => exact rfl))
  | ((with_reducible refine' gks_consA (n := 0) ?_ ?h1 ?h2); (case h1 => exact rfl); (case h2 => exact rfl))
  | ((with_reducible refine' gks_consB ?h0 ?_ ?h1 ?h2); (case h0 => exact rfl); (case h1 => exact rfl); (case h2 => exact rfl))
  | (with_reducible refine gks_nil ?_)
  | (with_reducible refine ok_none ?_)
  | (with_reducible refine ok_some ?_))
local macro_rules | `(tactic| walk_at "s") => `(tactic| first
  | (with_reducible refine sx_guard ?_ ?_)
  | (with_reducible refine sx_seq ?_)
  | (with_reducible refine sx_ret ?_)
  | (with_reducible refine sx_if ?_)
  | (with_reducible refine sx_next ?_)
  | (with_reducible refine sx_break ?_)
  | (with_reducible refine sx_cont ?_)
  | ((with_reducible refine' sx_append ?h1 ?_); (case h1 => exact rfl))
  | ((with_reducible refine' sx_setI ?h1 ?_); (case h1 => exact rfl))
  | ((with_reducible refine' sx_set ?h1 ?_); (case h1 => exact rfl))
  | (with_reducible refine sx_asg ?_)
  | ((with_reducible refine' sx_par ?h1 ?h2 ?_); (case h1 => exact rfl); (case h2 => exact rfl))
  | (with_reducible refine sx_drop ?_)
  | ((with_reducible refine' k_fldS (‹Tx _ _›) ?h1 ?h2 ?h3 ?_); (case h1 => exact rfl); (case h2 => decide); (case h3 => exact rfl))
  | ((with_reducible refine' k_fldO (‹Tx _ _›) ?h1 ?h3 ?_); (case h1 => exact rfl); (case h3 => exact rfl)))
/-! plain existentials that the rules leave -/
local macro_rules | `(tactic| walk_at "x") => `(tactic| first
  | (with_reducible refine x_bl ?_)
  | (with_reducible refine x_int ?_)
  | (with_reducible refine x_frac ?_)
  | (with_reducible refine x_lst ?_)
  | (with_reducible refine x_off ?_)
  | (with_reducible refine x_low ?_)
  | (with_reducible refine x_ownR ?_)
  | (with_reducible refine x_ownA ?_)
  | (with_reducible refine x_tup ?_)
  | (with_reducible refine x_kd ?_)
  | (with_reducible refine x_oneL ?_)
  | (with_reducible refine x_oneT ?_)
  | (with_reducible refine x_one ?_)
  | ((with_reducible refine' x_at ?h1 ?_); (case h1 => exact rfl))
  | ((with_reducible refine' x_dic ?h1 ?_); (case h1 => exact rfl))
  | (with_reducible refine (⟨rfl, ?_⟩ : Kd.l = Kd.l ∧ _))
  | ((with_reducible refine' x_len ?h1 ?_); (case h1 => exact rfl))
  | ((with_reducible refine' br_t ?h1 ?_); (case h1 => exact rfl))
  | ((with_reducible refine' br_f ?h1 ?_); (case h1 => exact rfl)))
local macro_rules | `(tactic| walk_at "f") => `(tactic| first
  | ((with_reducible refine' sx_forW ?h1 ?_); (case h1 => exact rfl))
  | (with_reducible refine sx_forGW ?_))
local macro_rules | `(tactic| walk_at "g") => `(tactic| repeat (first | walk_at "s" | walk_at "f" | walk_at "e" | walk_at "x"))
local macro_rules | `(tactic| walk_at "v") => `(tactic| repeat (first | walk_at "e" | walk_at "x"))
local macro_rules | `(tactic| walk_at "h") => `(tactic| repeat (first | walk_at "s" | walk_at "e" | walk_at "x"))
variable {P : Program} {w : World} {K : PySem.W.Frag} {mg : Str → Option Value} {base : Heap}

def S__law_offer : List D → (D → Prop) → Prop := fun l K => l = [.pool] ∧ ∀ r : ORow, OwnOk r → K (ownD r)
theorem ok__law_offer (T : Tx K mg) (c__law_draw : Cal P w K mg base 1 "_law_draw" ["bag", "many"] (SpFam (CL K) S__law_draw)) (c__law_low : Cal P w K mg base 2 "_law_low" ["x"] (SpFam (CL K) S__law_low)) : Cal P w K mg base 3 "_law_offer" ["bag"] (SpFam (CL K) S__law_offer) := by
  refine cal_mkF (N := ["bag", "rows", "k", "worth", "row"]) T.g__law_offer T.d__law_offer sc__law_offer (fun _ _ _ _ _ _ us hl => match us, hl with | [_], _ => rfl) (by intro l Q h; first | (obtain ⟨rfl, _⟩ := h; rfl) | (obtain ⟨_, rfl, _⟩ := h; rfl) | (obtain ⟨_, _, rfl, _⟩ := h; rfl) | (obtain ⟨_, _, _, rfl, _⟩ := h; rfl) | (obtain ⟨_, _, _, _, rfl, _⟩ := h; rfl) | (obtain ⟨_, _, _, _, _, rfl, _⟩ := h; rfl) | (obtain ⟨_, _, _, _, _, _, rfl, _⟩ := h; rfl) | (obtain ⟨_, _, _, _, _, _, _, rfl, _⟩ := h; rfl) | (obtain ⟨_, _, _, _, _, _, _, _, rfl, _⟩ := h; rfl)) (fun f cdv A outer s H E hr => ⟨_, (pss_cons (ps_set (i := 1) sc__law_offer.nd rfl (by first | exact Or.inl rfl | exact Or.inr rfl) (pe_lst pa_nil)) (pss_cons (ps_for PassesOwn.never rfl (pi_range1 (by rfl) T.b_range (pa_cons (pe_op op_addI pe_int (pe_calC c__law_draw hr (by decide) (by rfl) (pa_cons (pv 0) (pa_cons pe_int pa_nil)))) pa_nil)) (pg_name (i := 2) sc__law_offer.nd rfl (by first | exact Or.inl rfl | exact Or.inr rfl)) (pss_cons (ps_set (i := 3) sc__law_offer.nd rfl (by first | exact Or.inl rfl | exact Or.inr rfl) (pe_tup (pa_cons (pe_calC c__law_draw hr (by decide) (by rfl) (pa_cons (pv 0) (pa_cons pe_int pa_nil))) (pa_cons pe_int pa_nil)))) (pss_cons (ps_if (pt_cmpR op_eq (pe_calC c__law_draw hr (by decide) (by rfl) (pa_cons (pv 0) (pa_cons pe_int pa_nil))) pe_int (nomark _)) (pss_one (ps_set (i := 3) sc__law_offer.nd rfl (by first | exact Or.inl rfl | exact Or.inr rfl) (pe_calC c__law_low hr (by decide) (by rfl) (pa_cons (pe_tup (pa_cons (pe_calC c__law_draw hr (by decide) (by rfl) (pa_cons (pv 0) (pa_cons pe_int pa_nil))) (pa_cons (pe_op op_addI pe_int (pe_calC c__law_draw hr (by decide) (by rfl) (pa_cons (pv 0) (pa_cons pe_int pa_nil)))) pa_nil))) pa_nil)))) pss_nil) (pss_one (ps_expr (pe_bm PySem.F.plainAttrs_list PySem.F.slot_list_append PySem.F.type_list_append mt_append (pv 1) (pa_cons (pe_lst (pa_cons (pe_op op_addI pe_int (pe_calC c__law_draw hr (by decide) (by rfl) (pa_cons (pv 0) (pa_cons pe_int pa_nil)))) (pa_cons (pv 3) pa_nil))) pa_nil))))))) (pss_one (ps_ret (pe_disp (pps_cons pe_str (pv 1) (pps_cons pe_str (pe_callB (cr_sumK K rfl rfl) (by rfl) T.b_sum (by decide +kernel) (pa_cons (pe_lc (own := [("row", 4)]) (g := gName 4) (tt := tYes) rfl sc__law_offer.nd (pi_seqK K rfl (pv 1)) (blkOk_by (own := [("row", 4)]) (N := ["bag", "rows", "k", "worth", "row"]) (sc := defScope s__law_offer) (by decide +kernel)) (fun _ _ _ _ _ => (pg_name (i := 4) sc__law_offer.nd rfl (by first | exact Or.inl rfl | exact Or.inr rfl))) (fun _ _ _ _ _ => pts_nil) (fun _ _ _ _ _ => (pe_ix (ix_seqK K rfl) (pv 4) pe_int (fun _ _ => rfl)))) pa_nil)) pps_nil)) (by rfl) (by rfl) (fun z => by cases z) (by decide)))))), ?_⟩)
  intro nn B l Q h
  obtain ⟨rfl, h⟩ := h
  refine sx_seq ?_
  refine' sx_setO ?h1 ?_
  case h1 => exact rfl
  walk_at "e"
  walk_at "e"
  refine ⟨by decide, ?_⟩
  refine sx_seq ?_
  refine sx_forGS ?_
  walk_at "h"
  refine ⟨3, rfl, by decide, by decide, fun m hm0 hm1 => ?_⟩
  walk_at "h"
  refine ⟨1 + m, rfl, by omega, by omega, ?_⟩
  obtain ⟨n, hn⟩ : ∃ n : Nat, 1 + m = (n : Int) := ⟨(1 + m).toNat, by omega⟩
  rw [hn]
  refine ⟨Nat, List.range n, _, ORow, fun j s => [.d .pool, .own (s.map cellO), .no, .no, .no], fun j s => s.length = j ∧ ∀ p ∈ s, 1 ≤ p.1 ∧ p.1 ≤ 5 ∧ WOk p.2, rng1', ⟨[], ⟨rfl, fun _ h => nomatch h⟩, Wk.refl⟩, fun B' j x s hx hs => ?_, fun Γ' s hs w => sx_weak w ?_⟩
  · obtain ⟨hs1, hs2⟩ := hs
    obtain ⟨rfl, hxn⟩ := rng_get' hx
    walk_at "h"
    refine ⟨9, rfl, by decide, by decide, fun a ha0 ha1 => ?_⟩
    walk_at "v"
    refine sx_cut (fun Γ' => ∃ q, WOk q ∧ Wk Γ' [.d .pool, .own (s.map cellO), .no, .d (lowD q), .no]) ?_ ?_
    · walk_at "h"
      refine ⟨3, rfl, by decide, by decide, fun b hb0 hb1 => ?_⟩
      walk_at "h"
      refine br_p (fun _ => ?_) (fun _ => ?_)
      · walk_at "h"
        refine ⟨30, rfl, by decide, by decide, fun c hc0 hc1 => ?_⟩
        walk_at "h"
        refine ⟨6, rfl, by decide, by decide, fun d hd0 hd1 => ?_⟩
        walk_at "h"
        refine ⟨_, _, _, rfl, LR.div hc0 (by omega) (by omega) (by omega), by decide, ?_⟩
        walk_at "h"
        exact ⟨_, wok_div hc0 (by omega) (by omega) (by omega), .same (.same (.no (.same (.same .nil))))⟩
      · walk_at "h"
        exact ⟨(a : Rat), wok_int ha0 (by omega), .same (.same (.no (.same (.same .nil))))⟩
    · rintro Γ' ⟨q, hq, w⟩
      refine sx_weak w ?_
      walk_at "h"
      refine ⟨5, rfl, by decide, by decide, fun b hb0 hb1 => ?_⟩
      walk_at "h"
      refine ⟨small1000 (by simp; omega), ?_⟩
      refine ⟨s ++ [(1 + b, q)], ⟨by simp [hs1], fun p hp => ?_⟩, ?_⟩
      · rcases List.mem_append.mp hp with hp | hp
        · exact hs2 p hp
        · cases List.mem_singleton.mp hp
          exact ⟨by show 1 ≤ 1 + b; omega, by show 1 + b ≤ 5; omega, hq⟩
      · show Wk _ [_, .own ((s ++ [(1 + b, q)]).map cellO), .no, .no, .no]
        rw [List.map_append]
        exact .same (.same (.no (.no (.no .nil))))
  · dsimp only at hs ⊢
    rw [List.length_range] at hs
    refine sx_freeze 1 rfl ?_
    walk_at "h"
    refine ⟨Int × Rat, s, cellO, fun p => .int p.1, rfl, Nat.le_of_lt (small1000 (by omega)), fun W1 p hp => ?_, ?_⟩
    · unfold cellO
      walk_at "h"
      rfl
    refine ⟨rfl, s.map (·.1), by rw [List.map_map]; rfl, ?_⟩
    walk_at "h"
    refine ⟨keys2, by show 2 ≤ 15; decide, ?_⟩
    exact h s ⟨by intro z; subst z; simp at hs; omega, by omega, fun p hp => (hs.2 p hp).1, fun p hp => (hs.2 p hp).2.1, fun p hp => (hs.2 p hp).2.2⟩

def S__law_offered : List D → (D → Prop) → Prop := fun l K => ∃ rs : List ORow, l = [.pool, .lst (rs.map ownD)] ∧ (∀ r ∈ rs, OwnOk r) ∧ rs.length ≤ 6 ∧ ∀ (k : Kd) (rws : List Raw), rws.map Raw.row = rs → (∀ r ∈ rws, r.Ok) → K (Kd.d k (rws.map Raw.d))
theorem ok__law_offered (T : Tx K mg) (m_Frac2 : CalM P w K mg base 2 "Frac" [] (SpFamI (CL K) (He.ga K "Frac") S_FracD_initD)) (c__law_draw : Cal P w K mg base 1 "_law_draw" ["bag", "many"] (SpFam (CL K) S__law_draw)) : Cal P w K mg base 4 "_law_offered" ["bag", "offers"] (SpFam (CL K) S__law_offered) := by
  refine cal_mkF (N := ["bag", "offers", "found", "offer", "rows", "weight", "worth", "value", "row"]) T.g__law_offered T.d__law_offered sc__law_offered (fun _ _ _ _ _ _ us hl => match us, hl with | [_, _], _ => rfl) (by intro l Q h; first | (obtain ⟨rfl, _⟩ := h; rfl) | (obtain ⟨_, rfl, _⟩ := h; rfl) | (obtain ⟨_, _, rfl, _⟩ := h; rfl) | (obtain ⟨_, _, _, rfl, _⟩ := h; rfl) | (obtain ⟨_, _, _, _, rfl, _⟩ := h; rfl) | (obtain ⟨_, _, _, _, _, rfl, _⟩ := h; rfl) | (obtain ⟨_, _, _, _, _, _, rfl, _⟩ := h; rfl) | (obtain ⟨_, _, _, _, _, _, _, rfl, _⟩ := h; rfl) | (obtain ⟨_, _, _, _, _, _, _, _, rfl, _⟩ := h; rfl)) (fun f cdv A outer s H E hr => ⟨_, (pss_cons (ps_set (i := 2) sc__law_offered.nd rfl (by first | exact Or.inl rfl | exact Or.inr rfl) (pe_lst pa_nil)) (pss_cons (ps_for PassesOwn.never rfl (pi_seqK K rfl (pv 1)) (pg_name (i := 3) sc__law_offered.nd rfl (by first | exact Or.inl rfl | exact Or.inr rfl)) (pss_cons (ps_set (i := 4) sc__law_offered.nd rfl (by first | exact Or.inl rfl | exact Or.inr rfl) (pe_lst pa_nil)) (pss_cons (ps_for PassesOwn.never rfl (pi_seqK K rfl (pe_dget (hu_of hr) (pv 3) pe_str (fun _ _ => rfl))) (pg_anyK K rfl rfl (pgs_cons (pg_name (i := 5) sc__law_offered.nd rfl (by first | exact Or.inl rfl | exact Or.inr rfl)) (pgs_cons (pg_name (i := 6) sc__law_offered.nd rfl (by first | exact Or.inl rfl | exact Or.inr rfl)) pgs_nil))) (pss_cons (ps_set (i := 7) sc__law_offered.nd rfl (by first | exact Or.inl rfl | exact Or.inr rfl) (pe_mkK K rfl m_Frac2 hr (by decide) (by rfl) (pa_cons (pe_ix (ix_seqK K rfl) (pv 6) pe_int (fun _ _ => rfl)) (pa_cons (pe_ix (ix_seqK K rfl) (pv 6) pe_int (fun _ _ => rfl)) pa_nil)))) (pss_cons (ps_if (PW.pt (pw_and (pt_cmpR op_eq (pe_ix (ix_seqK K rfl) (pv 6) pe_int (fun _ _ => rfl)) pe_int (nomark _)) (pw_and1 (pt_cmpR op_eq (pe_calC c__law_draw hr (by decide) (by rfl) (pa_cons (pv 0) (pa_cons pe_int pa_nil))) pe_int (nomark _))))) (pss_one (ps_set (i := 7) sc__law_offered.nd rfl (by first | exact Or.inl rfl | exact Or.inr rfl) (pe_ix (ix_seqK K rfl) (pv 6) pe_int (fun _ _ => rfl)))) pss_nil) (pss_one (ps_expr (pe_bm PySem.F.plainAttrs_list PySem.F.slot_list_append PySem.F.type_list_append mt_append (pv 4) (pa_cons (pe_lst (pa_cons (pv 5) (pa_cons (pv 7) pa_nil))) pa_nil))))))) (pss_cons (ps_if (pt_cmpR op_eq (pe_calC c__law_draw hr (by decide) (by rfl) (pa_cons (pv 0) (pa_cons pe_int pa_nil))) pe_int (nomark _)) (pss_one (ps_set (i := 4) sc__law_offered.nd rfl (by first | exact Or.inl rfl | exact Or.inr rfl) (pe_callTy (cr_tupK K rfl) (by rfl) T.b_tuple (by decide +kernel) (pa_cons (pe_lc (own := [("row", 8)]) (g := gName 8) (tt := tYes) rfl sc__law_offered.nd (pi_seqK K rfl (pv 4)) (blkOk_by (own := [("row", 8)]) (N := ["bag", "offers", "found", "offer", "rows", "weight", "worth", "value", "row"]) (sc := defScope s__law_offered) (by decide +kernel)) (fun _ _ _ _ _ => (pg_name (i := 8) sc__law_offered.nd rfl (by first | exact Or.inl rfl | exact Or.inr rfl))) (fun _ _ _ _ _ => pts_nil) (fun _ _ _ _ _ => (pe_callTy (cr_tupK K rfl) (by rfl) T.b_tuple (by decide +kernel) (pa_cons (pv 8) pa_nil)))) pa_nil)))) pss_nil) (pss_one (ps_expr (pe_bm PySem.F.plainAttrs_list PySem.F.slot_list_append PySem.F.type_list_append mt_append (pv 2) (pa_cons (pv 4) pa_nil)))))))) (pss_cons (ps_if (pt_cmpR op_eq (pe_calC c__law_draw hr (by decide) (by rfl) (pa_cons (pv 0) (pa_cons pe_int pa_nil))) pe_int (nomark _)) (pss_one (ps_ret (pe_callTy (cr_tupK K rfl) (by rfl) T.b_tuple (by decide +kernel) (pa_cons (pv 2) pa_nil)))) pss_nil) (pss_one (ps_ret (pv 2)))))), ?_⟩)
  intro nn B l Q h
  obtain ⟨rs, rfl, ok, hl, h⟩ := h
  refine sx_seq ?_
  refine' sx_setO ?h1 ?_
  case h1 => exact rfl
  walk_at "v"
  refine sx_seq ?_
  refine sx_forGS ?_
  walk_at "h"
  refine ⟨ORow, rs, ownD, List Raw, fun j s => [.d .pool, .d (.lst (rs.map ownD)), .own (s.map Raw.d), .no, .no, .no, .no, .no, .no], fun j s => s.map Raw.row = rs.take j ∧ ∀ r ∈ s, r.Ok, rfl, ⟨[], ⟨by simp, fun _ h => nomatch h⟩, Wk.refl⟩, fun B' j r s hx hs => ?_, fun Γ' s hs w => sx_weak w ?_⟩
  · obtain ⟨hs1, hs2⟩ := hs
    have okr := ok r (List.mem_of_getElem? hx)
    have hlr := okr.len
    have hsl : s.length ≤ 6 := by have := congrArg List.length hs1; rw [List.length_map, List.length_take] at this; omega
    walk_at "v"
    refine sx_seq ?_
    refine' sx_setO ?h1 ?_
    case h1 => exact rfl
    walk_at "v"
    refine sx_seq ?_
    refine sx_forGS ?_
    walk_at "h"
    refine ⟨Int × Rat, r, _, List Cell, fun i cs => [.d .pool, .d (.lst (rs.map ownD)), .own (s.map Raw.d), .d (ownD r), .own (cs.map Cell.d), .no, .no, .no, .no], fun i cs => cs.map (fun c => (c.w, c.q)) = r.take i ∧ ∀ c ∈ cs, c.Ok, rfl, ⟨[], ⟨by simp, fun _ h => nomatch h⟩, Wk.refl⟩, fun B'' i p cs hp hcs => ?_, fun Γ' cs hcs w => sx_weak w ?_⟩
    · obtain ⟨hc1, hc2⟩ := hcs
      have hp' := List.mem_of_getElem? hp
      have wok := okr.ok p hp'
      have hcl : cs.length ≤ 3 := by have := congrArg List.length hc1; rw [List.length_map, List.length_take] at this; omega
      walk_at "h"
      refine ⟨_, _, rfl, by have := p.2.den_pos; omega, Nat.lt_of_le_of_lt (show ((p.2.den : Nat) : Int).natAbs ≤ 6 by have := wok.d1; omega) (Nat.lt_of_lt_of_le (by decide : 6 < 2 ^ 10) (Nat.pow_le_pow_right (by decide) (by decide))), p.2, by rw [Rat.num_divInt_den], ?_⟩
      walk_at "v"
      refine sx_cut (fun Γ' => ∃ x, AmtD x p.2 ∧ Wk Γ' [.d .pool, .d (.lst (rs.map ownD)), .own (s.map Raw.d), .d (ownD r), .own (cs.map Cell.d), .d (.int p.1), .no, .d x, .no]) ?_ ?_
      · walk_at "h"
        refine br_p (fun hd => ?_) (fun _ => ?_)
        · walk_at "h"
          refine ⟨2, rfl, by decide, by decide, fun a ha0 ha1 => ?_⟩
          walk_at "h"
          refine br_p (fun _ => ?_) (fun _ => ?_)
          · walk_at "h"
            refine ⟨.int p.2.num, .inl ⟨p.2.num, rfl, ?_⟩, .same (.same (.same (.same (.same (.same (.no (.same (.same .nil))))))))⟩
            have := num_mul p.2
            rw [hd] at this
            rw [this]; grind
          · walk_at "h"
            exact ⟨.frac p.2, .inr rfl, .same (.same (.same (.same (.same (.same (.no (.same (.same .nil))))))))⟩
        · walk_at "h"
          exact ⟨.frac p.2, .inr rfl, .same (.same (.same (.same (.same (.same (.no (.same (.same .nil))))))))⟩
      · rintro Γ' ⟨x, hx, w⟩
        refine sx_weak w ?_
        walk_at "h"
        refine ⟨small1000 (by simp; omega), ?_⟩
        refine ⟨cs ++ [⟨.l, x, p.1, p.2⟩], ⟨?_, fun c hc => ?_⟩, ?_⟩
        · rw [List.map_append, hc1, List.take_succ, hp]; rfl
        · rcases List.mem_append.mp hc with hc | hc
          · exact hc2 c hc
          · cases List.mem_singleton.mp hc
            exact ⟨hx, okr.w1 p hp', by have := okr.w2 p hp'; show p.1 ≤ 99; omega, wok.nn, by have := wok.n1; show p.2.num ≤ 9999; omega, by have := wok.d1; show p.2.den ≤ 99; omega⟩
        · show Wk _ [_, _, _, _, .own ((cs ++ [(⟨.l, x, p.1, p.2⟩ : Cell)]).map Cell.d), .no, .no, .no, .no]
          rw [List.map_append]
          exact .same (.same (.same (.same (.same (.no (.no (.no (.no .nil))))))))
    · dsimp only at hcs ⊢
      rw [List.take_length] at hcs
      obtain ⟨hc1, hc2⟩ := hcs
      have hcl : cs.length = r.length := by have := congrArg List.length hc1; rwa [List.length_map] at this
      have hrl : 1 ≤ r.length := List.length_pos_iff.mpr okr.ne
      refine sx_freeze 4 rfl ?_
      refine sx_cut (fun Γ' => ∃ raw : Raw, raw.row = r ∧ raw.Ok ∧ Wk Γ' [.d .pool, .d (.lst (rs.map ownD)), .own (s.map Raw.d), .no, .d raw.d, .no, .no, .no, .no]) ?_ ?_
      · walk_at "h"
        refine ⟨2, rfl, by decide, by decide, fun a ha0 ha1 => ?_⟩
        walk_at "h"
        refine br_p (fun _ => ?_) (fun _ => ?_)
        · walk_at "h"
          refine ⟨Cell, cs, Cell.d, fun c => .tup [.int c.w, c.x], rfl, Nat.le_of_lt (small1000 (by omega)), fun W1 c hc => ?_, ?_⟩
          · unfold Cell.d
            walk_at "h"
            rfl
          · walk_at "h"
            refine ⟨⟨.t, cs.map fun c => ⟨.t, c.x, c.w, c.q⟩⟩, ?_, ⟨by simp; omega, by simp; omega, fun c hc => ?_⟩, ?_⟩
            · unfold Raw.row; rw [List.map_map]; exact hc1
            · obtain ⟨c', hc', rfl⟩ := List.mem_map.mp hc
              have := hc2 c' hc'
              exact ⟨this.a, this.w1, this.w2, this.n0, this.n1, this.d1⟩
            · show Wk _ [_, _, _, .no, .d (.tup ((cs.map fun c => (⟨.t, c.x, c.w, c.q⟩ : Cell)).map Cell.d)), .no, .no, .no, .no]
              rw [List.map_map]
              exact .same (.same (.same (.no (.same (.no (.no (.no (.no .nil))))))))
        · walk_at "h"
          exact ⟨⟨.l, cs⟩, hc1, ⟨by simp; omega, by simp; omega, hc2⟩, .same (.same (.same (.no (.same (.no (.no (.no (.no .nil))))))))⟩
      · rintro Γ' ⟨raw, hr1, hr2, w⟩
        refine sx_weak w ?_
        walk_at "h"
        refine ⟨small1000 (by simp; omega), ?_⟩
        refine ⟨s ++ [raw], ⟨?_, fun q hq => ?_⟩, ?_⟩
        · rw [List.map_append, hs1, List.take_succ, hx, List.map_cons, hr1]; rfl
        · rcases List.mem_append.mp hq with hq | hq
          · exact hs2 q hq
          · cases List.mem_singleton.mp hq
            exact hr2
        · show Wk _ [_, _, .own ((s ++ [raw]).map Raw.d), .no, .no, .no, .no, .no, .no]
          rw [List.map_append]
          exact .same (.same (.same (.no (.no (.no (.no (.no (.no .nil))))))))
  · dsimp only at hs ⊢
    rw [List.take_length] at hs
    refine sx_freeze 2 rfl ?_
    walk_at "h"
    refine ⟨2, rfl, by decide, by decide, fun a ha0 ha1 => ?_⟩
    walk_at "h"
    refine br_p (fun _ => ?_) (fun _ => ?_)
    · walk_at "h"
      exact h .t s hs.1 hs.2
    · walk_at "h"
      exact h .l s hs.1 hs.2

end

end K
end

section
set_option maxRecDepth 100000
set_option maxHeartbeats 4000000
namespace K
open PySem PySem.Spec PyProof.Rows L2 G

/-- the base of the law's own walk: nothing is kept -/
def B0 (b : Addr) : Bs := ⟨some b, none, fun _ => none, fun _ => none, fun _ => none⟩
theorem own_tr_ok {r r' : ORow} {x1 : Rat} (h : OwnOk r) (hx : WOk x1) (h1 : r'.map (·.1) = r.map (·.1)) (h2 : ∀ p ∈ r', (∃ q ∈ r, q.1 = p.1 ∧ (p.2 = q.2 ∨ p.2 = x1))) : OwnOk r' where
  ne := fun z => by subst z; have := congrArg List.length h1; simp at this; exact h.ne (List.length_eq_zero_iff.mp this.symm)
  len := by have := congrArg List.length h1; rw [List.length_map, List.length_map] at this; rw [this]; exact h.len
  w1 := fun p hp => by obtain ⟨q, hq, e, _⟩ := h2 p hp; rw [← e]; exact h.w1 q hq
  w2 := fun p hp => by obtain ⟨q, hq, e, _⟩ := h2 p hp; rw [← e]; exact h.w2 q hq
  ok := fun p hp => by
    obtain ⟨q, hq, _, e⟩ := h2 p hp
    rcases e with e | e
    · rw [e]; exact h.ok q hq
    · rw [e]; exact hx
theorem only2 {l : List D} {Γr : List Sl} (hΓ : ∀ s ∈ Γr, s = .no) {i : Nat} {s : Sl} (h : (Sl.no :: .d .pool :: .own l :: Γr)[i]? = some s) (hs : s.isO = true) : i = 2 ∧ s = .own l := by
  match i, h with
  | 0, h => cases h; cases hs
  | 1, h => cases h; cases hs
  | 2, h => cases h; exact ⟨rfl, rfl⟩
  | i + 3, h =>
    have := hΓ s (List.mem_of_getElem? (show Γr[i]? = some s from h))
    subst this
    cases hs
theorem sx_mut {K : PySem.W.Frag} {nn : Nat} {b : Addr} {rs : List ORow} {te to : TE} {w0 : Int} {x0 x1 : Rat} {nx bk ct : List Sl → Prop} {rt : D → Prop} {Γr : List Sl} (hΓ : ∀ s ∈ Γr, s = .no)
    (hok : ∀ r ∈ rs, OwnOk r) (hx : WOk x1)
    (h1 : EK (CL K nn) (B0 b) (.no :: .d .pool :: .own (rs.map ownD) :: Γr) te fun d => d = lowD x1)
    (h2 : EK (CL K nn) (B0 b) (.no :: .d .pool :: .own (rs.map ownD) :: Γr) to fun d => d = .lst [.int w0, lowD x0])
    (k : ∀ rs' : List ORow, rs'.length = rs.length → (∀ r ∈ rs', OwnOk r) → nx (.no :: .d .pool :: .own (rs'.map ownD) :: Γr)) :
    SX (CL K nn) (B0 b) (.no :: .d .pool :: .own (rs.map ownD) :: Γr) (tAsg te (gSub to (tC (.int 1)) rSetL)) nx rt bk ct := fun W H σ e D' s =>
  h1 W H σ e _ fun d v W1 H1 s1 r1 hd => h2 W1 H1 σ (e.step s1) _ fun d2 u W2 H2 s2 r2 hd2 => by
    subst hd; subst hd2
    have e2 := (e.step s1).step s2
    have r1 := r1.mono s2.ww
    cases r2 with
    | @lst a vs _ ha rl =>
      cases rl with
      | @cons v0 _ vs' _ q1 rl =>
        cases rl with
        | @cons v1 _ vs'' _ q2 rl =>
          cases rl; cases q1
          have hv1 : ∀ i : Int, v1 ≠ .int i := fun i z => by subst z; cases q2
          obtain ⟨ow, o⟩ := e2.ow
          obtain ⟨g1, ws, g2, g3⟩ := o.ok 2 (.own (rs.map ownD)) rfl
          obtain ⟨f1, f2, f3⟩ := o.fr 2 (.own (rs.map ownD)) rfl rfl
          have ne2 : ow 2 ≠ a := fun z => by rw [z, ha] at f1; cases f1
          obtain ⟨rs', l1, l2, l3⟩ := owns_tr (v := v) ha r1 (fun r hr => (hok r hr).ne) g3
          obtain ⟨pv, hs1, rp⟩ := e2.at_ (i := 1) (x := .pool) rfl
          obtain ⟨hWb, c, cells, at_, big, mixed, count, hHb, hWc, b1, b2, b3, b4, b5, b6, b7⟩ := e2.pl b rfl
          have neb : b ≠ a := fun z => by rw [z, ha] at hWb; cases hWb
          have nec : c ≠ a := fun z => by
            rw [z, ha] at hWc
            injection hWc with hWc
            injection hWc with hWc
            match cells, hWc with
            | [], hWc => cases hWc
            | [_], hWc => cases hWc
            | _ :: i :: _, hWc =>
              rw [List.map_cons, List.map_cons] at hWc
              injection hWc with _ hWc
              injection hWc with hWc _
              exact hv1 _ hWc
          refine ⟨a, [.int w0, v1], 1, 1, rfl, rfl, e2.wh _ _ ha, rfl, ?_⟩
          have hok' : ∀ r ∈ rs', OwnOk r := fun r hr => by
            obtain ⟨t, ht, h3, h4⟩ := l2 r hr
            exact own_tr_ok (hok t ht) hx h3 h4
          refine s.nx (.no :: .d .pool :: .own (rs'.map ownD) :: Γr) (nuW W2 a w0 v) _ σ ⟨⟨fun _ _ z => (nomatch z), fun y z hz => ?_, fun _ _ z => (nomatch z), fun _ _ z => (nomatch z), fun _ _ z => (nomatch z), fun y _ z => ?_⟩, fun _ _ z => (nomatch z), fun y hy => ?_, e2.len, ow, ?_, ?_, ?_⟩ (k rs' l1 hok')
          · by_cases hy : y = a
            · subst hy; unfold nuW at hz; rw [upd_same] at hz ⊢; exact hz
            · unfold nuW at hz; rw [upd_ne hy] at hz ⊢; exact e2.wh y z hz
          · obtain ⟨_, z⟩ := (CL K nn).pks z; cases z
          · cases hy
            refine ⟨by unfold nuW; rw [upd_ne neb]; exact hWb, c, cells, at_, big, mixed, count, by rw [upd_ne neb]; exact hHb, by unfold nuW; rw [upd_ne nec]; exact hWc, b1, b2, b3, b4, b5, b6, b7⟩
          · intro i j s1 t1 hi hj hs ht _
            rw [(only2 hΓ hi hs).1, (only2 hΓ hj ht).1]
          · intro i s1 hi hs
            obtain ⟨rfl, rfl⟩ := only2 hΓ hi hs
            refine ⟨by unfold nuW; rw [upd_ne ne2]; exact f1, f2, ⟨fun _ => rfl, fun z => by cases z⟩⟩
          · intro i s1 hi
            match i, hi with
            | 0, hi => cases hi; trivial
            | 1, hi =>
              cases hi
              refine ⟨pv, ?_, ?_⟩
              · rw [List.getD_eq_getElem?_getD, hs1]; rfl
              · cases rp with
                | pool z => exact .pool z
            | 2, hi =>
              cases hi
              exact ⟨g1, ws, by rw [upd_ne ne2]; exact g2, l3⟩
            | i + 3, hi =>
              have := hΓ s1 (List.mem_of_getElem? (show Γr[i]? = some s1 from hi))
              subst this
              trivial
section
local macro_rules | `(tactic| walk_at "e") => `(tactic| first
  | ((with_reducible refine' ek_var ?h1 ?_); (case h1 => exact rfl))
  | (with_reducible refine ek_int ?_)
  | (with_reducible refine ek_bl ?_)
  | (with_reducible refine ek_non ?_)
  | (with_reducible refine ek_str ?_)
  | (with_reducible refine ek_ty ?_)
  | (with_reducible refine ek_cls ?_)
  | (with_reducible refine ek_ix ?_)
  | (with_reducible refine ek_un ?_)
  | (with_reducible refine ek_tup ?_)
  | (with_reducible refine k_call ?_)
  | (with_reducible refine ek_len ?_)
  | (with_reducible refine ek_tuple ?_)
  | (with_reducible refine ek_sum ?_)
  | (with_reducible refine ek_all ?_)
  | (with_reducible refine ek_any ?_)
  | (with_reducible refine ek_chain ?_)
  | (with_reducible refine ek_andV ?_)
  | (with_reducible refine ek_orV ?_)
  | (with_reducible refine ek_notV ?_)
  | (with_reducible refine ek_if ?_)
  | (with_reducible refine ek_ef (ef_lst ?_))
  | (with_reducible refine ek_ef (ef_list ?_))
  | (with_reducible refine ek_ef (ef_cat ?_))
  | (with_reducible refine ek_ef (ef_rep ?_))
  | (with_reducible refine ek_ef (ef_slice ?_))
  | (with_reducible refine ek_ef (ef_rev ?_))
  | (with_reducible refine ek_ef (ef_lstRev ?_))
  | (with_reducible refine ek_ef (ef_map ?_))
  | (with_reducible refine ek_ef (ef_filt ?_))
  | (with_reducible refine ef_lst ?_)
  | (with_reducible refine ef_list ?_)
  | (with_reducible refine ef_cat ?_)
  | (with_reducible refine ef_rep ?_)
  | (with_reducible refine ef_slice ?_)
  | (with_reducible refine ef_rev ?_)
  | (with_reducible refine ef_lstRev ?_)
  | (with_reducible refine ef_map ?_)
  | (with_reducible refine ef_filt ?_)
  | ((with_reducible refine' el_var ?h1 ?_); (case h1 => exact rfl))
  | ((with_reducible refine' el_own ?h1 ?_); (case h1 => exact rfl))
  | (with_reducible refine el_ef (ef_lst ?_))
  | (with_reducible refine el_ef (ef_list ?_))
  | (with_reducible refine el_ef (ef_cat ?_))
  | (with_reducible refine el_ef (ef_rep ?_))
  | (with_reducible refine el_ef (ef_slice ?_))
  | (with_reducible refine el_ef (ef_rev ?_))
  | (with_reducible refine el_ef (ef_lstRev ?_))
  | (with_reducible refine el_ef (ef_map ?_))
  | (with_reducible refine el_ef (ef_filt ?_))
  | (with_reducible refine ek_op ?_)
  | (with_reducible refine ek_cb ?_)
  | (with_reducible refine el_ek ?_)
  | (with_reducible refine tk_test ?_)
  | (with_reducible refine tk_B ?_)
  | (with_reducible refine tk_and ?_)
  | (with_reducible refine tk_or ?_)
  | (with_reducible refine tk_not ?_)
  | (with_reducible refine tk_yes ?_)
  | (with_reducible refine ak_nil ?_)
  | (with_reducible refine ak_cons ?_)
  | (with_reducible refine k_num (‹Tx _ _›) ?_)
  | (with_reducible refine k_den (‹Tx _ _›) ?_)
  | (with_reducible refine k_mk2 ?_)
  | (with_reducible refine k_mkO ?_)
  | (with_reducible refine k_rows (‹Tx _ _›) ?_)
  | (with_reducible refine k_mk1 ?_)
  | (with_reducible refine k_bel ?_)
  | (with_reducible refine k_own ?_)
  | (with_reducible refine rk_U2 (k_own ?_))
  | (with_reducible refine rk_mul (Sz.mul (by assumption) (by assumption)) ?_)
  | (with_reducible refine rk_U1 (rk_mul (Sz.mul (by assumption) (by assumption)) ?_))
  | (with_reducible refine ek_dget ?_)
  | (with_reducible refine uk_neg ?_)
  | (with_reducible refine ek_disp ?_)
  | (with_reducible refine pk_cons ?_)
  | (with_reducible refine pk_nil ?_)
  | (with_reducible refine rk_mod (by assumption) ?_)
  | (with_reducible refine rk_add ?_)
  | (with_reducible refine rk_sub ?_)
  | (with_reducible refine rk_lt ?_)
  | (with_reducible refine rk_le ?_)
  | (with_reducible refine rk_gt ?_)
  | (with_reducible refine rk_ge ?_)
  | (with_reducible refine rk_eqI ?_)
  | (with_reducible refine rk_neI ?_)
  | (with_reducible refine rk_isN ?_)
  | (with_reducible refine rk_notN ?_)
  | (with_reducible refine rk_U1 (rk_add ?_))
  | (with_reducible refine rk_U1 (rk_sub ?_))
  | (with_reducible refine ck_gcd ?_)
  | (with_reducible refine ck_abs ?_)
  | (with_reducible refine ck_int ?_)
  | (with_reducible refine ik_seq ?_)
  | (with_reducible refine ik_range1 ?_)
  | (with_reducible refine ik_range2 ?_)
  | (with_reducible refine ik_enumA ?_)
  | (with_reducible refine ik_zip ?_)
  | (with_reducible refine ik_rev ?_)
  | ((with_reducible refine' cg_name ?_ ?h1 ?h2); (case h1 => exact rfl); (case h2 => decide))
  | ((with_reducible refine' cg_anyT ?h1 ?_); (case h1 => exact rfl))
  | ((with_reducible refine' cg_anyL ?h1 ?_); (case h1 => exact rfl))
  | ((with_reducible refine' cg_anyK ?h1 ?_); (case h1 => exact rfl))
  | ((with_reducible refine' cgs_cons ?_ ?h1 ?h2); (case h1 => exact rfl); (case h2 => decide))
  | (with_reducible refine cgs_nil ?_)
  | ((with_reducible refine' gk_name ?_ ?h1); (case h1 => exact rfl))
  | ((with_reducible refine' gk_anyT ?h1 ?_); (case h1 => exact rfl))
  | ((with_reducible refine' gk_anyL ?h1 ?_); (case h1 => exact rfl))
  | ((with_reducible refine' gk_anyK ?h1 ?_); (case h1 => exact rfl))
  | ((with_reducible refine' gks_cons ?_ ?h1); (case h1 => exact rfl))
  | ((with_reducible refine' gks_consA (n := 0) ?_ ?h1 ?h2); (case h1 => exact rfl); (case h2 => exact rfl))
  | ((with_reducible refine' gks_consB ?h0 ?_ ?h1 ?h2); (case h0 => exact rfl); (case h1 => exact rfl); (case h2 => exact rfl))
  | (with_reducible refine gks_nil ?_)
  | (with_reducible refine ok_none ?_)
  | (with_reducible refine ok_some ?_))
local macro_rules | `(tactic| walk_at "s") => `(tactic| first
  | (with_reducible refine sx_guard ?_ ?_)
  | (with_reducible refine sx_seq ?_)
  | (with_reducible refine sx_ret ?_)
  | (with_reducible refine sx_if ?_)
  | (with_reducible refine sx_next ?_)
  | (with_reducible refine sx_break ?_)
  | (with_reducible refine sx_cont ?_)
  | ((with_reducible refine' sx_append ?h1 ?_); (case h1 => exact rfl))
  | ((with_reducible refine' sx_setI ?h1 ?_); (case h1 => exact rfl))
  | ((with_reducible refine' sx_set ?h1 ?_); (case h1 => exact rfl))
  | (with_reducible refine sx_asg ?_)
  | ((with_reducible refine' sx_par ?h1 ?h2 ?_); (case h1 => exact rfl); (case h2 => exact rfl))
  | (with_reducible refine sx_drop ?_)
  | ((with_reducible refine' k_fldS (‹Tx _ _›) ?h1 ?h2 ?h3 ?_); (case h1 => exact rfl); (case h2 => decide); (case h3 => exact rfl))
  | ((with_reducible refine' k_fldO (‹Tx _ _›) ?h1 ?h3 ?_); (case h1 => exact rfl); (case h3 => exact rfl)))
/-! plain existentials that the rules leave -/
local macro_rules | `(tactic| walk_at "x") => `(tactic| first
  | (with_reducible refine x_bl ?_)
  | (with_reducible refine x_int ?_)
  | (with_reducible refine x_frac ?_)
  | (with_reducible refine x_lst ?_)
  | (with_reducible refine x_off ?_)
  | (with_reducible refine x_low ?_)
  | (with_reducible refine x_ownR ?_)
  | (with_reducible refine x_ownA ?_)
  | (with_reducible refine x_tup ?_)
  | (with_reducible refine x_kd ?_)
  | (with_reducible refine x_oneL ?_)
  | (with_reducible refine x_oneT ?_)
  | (with_reducible refine x_one ?_)
  | ((with_reducible refine' x_at ?h1 ?_); (case h1 => exact rfl))
  | ((with_reducible refine' x_dic ?h1 ?_); (case h1 => exact rfl))
  | (with_reducible refine (⟨rfl, ?_⟩ : Kd.l = Kd.l ∧ _))
  | ((with_reducible refine' x_len ?h1 ?_); (case h1 => exact rfl))
  | ((with_reducible refine' br_t ?h1 ?_); (case h1 => exact rfl))
  | ((with_reducible refine' br_f ?h1 ?_); (case h1 => exact rfl)))
local macro_rules | `(tactic| walk_at "f") => `(tactic| first
  | ((with_reducible refine' sx_forW ?h1 ?_); (case h1 => exact rfl))
  | (with_reducible refine sx_forGW ?_))
local macro_rules | `(tactic| walk_at "g") => `(tactic| repeat (first | walk_at "s" | walk_at "f" | walk_at "e" | walk_at "x"))
local macro_rules | `(tactic| walk_at "v") => `(tactic| repeat (first | walk_at "e" | walk_at "x"))
local macro_rules | `(tactic| walk_at "h") => `(tactic| repeat (first | walk_at "s" | walk_at "e" | walk_at "x"))
variable {P : Program} {w : World} {K : PySem.W.Frag} {mg : Str → Option Value} {base : Heap}

end

end K
end

section
set_option maxRecDepth 100000
set_option maxHeartbeats 4000000
namespace K
open PySem PySem.Spec PyProof.Rows L2 G

def SpLaw : Sp := fun vs H Q _ => ∃ (a : Addr) (o : Obj) (xs : List Int), vs = [.ref a] ∧ H a = some (.frz o (.lst (xs.map V.int))) ∧ xs.length ≤ 63 ∧ ∀ H', Q (.bl true) H'
theorem fn_mkR {P : Program} {w : World} {K : PySem.W.Frag} {mg : Str → Option Value} {base : Heap} {k : Nat} {x : Str} {st : Stmt} {N ps : List Str} {sp : Sp} {fd : FuncData} (Fd : FnP K x st fd) (sc : FnScope N ps (defScope st))
    (len : ∀ vs H Q E, sp vs H Q E → vs.length = ps.length)
    (hb : ∀ (f : Addr) (cdv : Value) (A : Around) (outer : List Env) (s : Shared) (H : Hp) (E : XK), Room k (A.deeper (envOfC x (defScope st) s.heap.objs.size f cdv)) →
      ∃ t, PSs (cxOf (L2.CX P w) P w K mg base N x (defScope st) f cdv A outer s H E).nox (defBody st) t ∧ ∀ vs H Q E, sp vs H Q E → t { nx := fun _ H' => Q .non H', rt := Q } (L2.start N vs) H) : FnOk P w K mg base (L2.CX P w) (k + 1) (He.ga K x) fd ps sp :=
  Fd.ok sc len fun cdv A outer s H vs Q E hr hsp => by
    obtain ⟨t, h1, h2⟩ := hb _ cdv A outer s H E hr
    exact ⟨t, h1.nox, h2 vs H Q E hsp⟩
theorem ints_rep {C : Cl} {P : Option Addr} {W : Hp} : ∀ xs : List Int, RepL C P W (xs.map V.int) (xs.map D.int)
  | [] => .nil
  | x :: xs => .cons (.int x) (ints_rep xs)
theorem rep_ints {C : Cl} {P : Option Addr} {W : Hp} : ∀ {xs : List Int} {vs : List V}, RepL C P W vs (xs.map D.int) → vs = xs.map V.int
  | [], _, h => by cases h; rfl
  | x :: xs, _, h => by
    cases h with
    | cons r rr => cases r; rw [rep_ints rr]; rfl
def bagD (ys : List Int) (n : Int) : D := .dic [(.inr "cells", .lst (ys.map .int)), (.inr "at", .int 0), (.inr "big", .int 0), (.inr "mixed", .int n), (.inr "count", .int 0)]
theorem law_start {K : PySem.W.Frag} {nn : Nat} {N : List Str} {Γ1 : List Sl} {te : TE} {u : TS} {a : Addr} {o : Obj} {xs ys : List Int} {n : Int} {H : Hp} {Q : VK} (ha : H a = some (.frz o (.lst (xs.map V.int)))) (hQ : ∀ H', Q (.bl true) H') (hN : 1 < N.length)
    (hy : ys.length ≤ 63) (hy0 : ∀ y ∈ ys, 0 ≤ y) (n0 : 0 ≤ n) (n1 : n < 2 ^ 61) (hΓ : Γ1 = .no :: .d .pool :: List.replicate (N.length - 2) .no)
    (h1 : ∀ B, EK (CL K nn) B (G0 N [.raw (xs.map .int)]) te fun d => d = bagD ys n)
    (h2 : ∀ b, SX (CL K nn) (B0 b) Γ1 u (fun _ => False) (fun d => d = .bl true) (fun _ => False) (fun _ => False)) : tSeq (tAsg te (gName 1)) u { nx := fun _ H' => Q .non H', rt := Q } (L2.start N [.ref a]) H := by
  have hw : Same (fun x => if x = a then H x else none) H := fun x o z => by
    by_cases hx : x = a
    · subst hx; simpa using z
    · simp [hx] at z
  have e0 := env_start (C := CL K nn) (P := none) (N := N) hw (fun _ z => (nomatch z)) (RepL.cons (Rep.raw (a := a) (vs := xs.map V.int) (by show (if a = a then H a else none) = _; rw [if_pos rfl]; exact ha) (ints_rep xs)) .nil)
  refine h1 _ _ H _ e0 _ fun d v W1 H1 s1 r1 hd => ?_
  subst hd
  obtain ⟨b, fs, rfl, hb, hk, hr⟩ := rep_dic r1
  have e1 := e0.step s1
  match fs, hk, hr with
  | [(k1, u1), (k2, u2), (k3, u3), (k4, u4), (k5, u5)], hk, hr =>
    have hk : [k1, k2, k3, k4, k5] = [(.inr "cells" : Key), .inr "at", .inr "big", .inr "mixed", .inr "count"] := hk
    injection hk with e1' hk; injection hk with e2' hk; injection hk with e3' hk; injection hk with e4' hk; injection hk with e5' hk
    subst e1'; subst e2'; subst e3'; subst e4'; subst e5'
    cases hr with
    | cons q1 hr => cases hr with
      | cons q2 hr => cases hr with
        | cons q3 hr => cases hr with
          | cons q4 hr => cases hr with
            | cons q5 hr =>
              cases q2; cases q3; cases q4; cases q5
              cases q1 with
              | @lst c vs _ hc rl =>
                have ev := rep_ints rl
                subst ev
                have hHb := s1.wh _ _ hb
                have hHc := s1.wh _ _ hc
                have ncb : b ≠ c := fun z => by rw [z, hHc] at hHb; cases hHb
                have hlen : ((L2.start N [V.ref a]).set 1 (some (.ref b))).length = Γ1.length := by
                  have hl1 := e1.len
                  rw [List.length_set, hl1, hΓ]
                  simp [G0]; omega
                show u _ ((L2.start N [V.ref a]).set 1 (some (.ref b))) H1
                refine h2 b (fun x => if x = c then H1 x else none) H1 _ ⟨⟨fun _ _ z => (nomatch z), fun x o z => ?_, fun _ _ z => (nomatch z), fun _ _ z => (nomatch z), fun _ _ z => (nomatch z), fun y _ z => ?_⟩, fun _ _ z => (nomatch z), fun y hy => ?_, hlen, fun _ => 0, ?_, ?_, ?_⟩ _ ⟨fun _ _ _ _ _ z => z.elim, fun d v W' H' _ r z => ?_, fun _ _ _ _ _ z => z.elim, fun _ _ _ _ _ z => z.elim⟩
                · by_cases hx : x = c
                  · subst hx; simpa using z
                  · simp [hx] at z
                · obtain ⟨_, z⟩ := (CL K nn).pks z; cases z
                · cases hy
                  exact ⟨by simp [ncb], c, ys, 0, 0, n, 0, hHb, by simpa using hHc, Nat.zero_le _, ‹ys.length ≤ 63›, hy0, Int.le_refl _, n0, n1, Int.le_refl _⟩
                · intro i j s t hi hj hs ht
                  exfalso
                  rw [hΓ] at hi
                  match i, hi with
                  | 0, hi => cases hi; cases hs
                  | 1, hi => cases hi; cases hs
                  | i + 2, hi =>
                    have := List.eq_of_mem_replicate (List.mem_of_getElem? (show (List.replicate (N.length - 2) Sl.no)[i]? = some s from hi))
                    subst this; cases hs
                · intro i s hi hs
                  exfalso
                  rw [hΓ] at hi
                  match i, hi with
                  | 0, hi => cases hi; cases hs
                  | 1, hi => cases hi; cases hs
                  | i + 2, hi =>
                    have := List.eq_of_mem_replicate (List.mem_of_getElem? (show (List.replicate (N.length - 2) Sl.no)[i]? = some s from hi))
                    subst this; cases hs
                · intro i s hi
                  rw [hΓ] at hi
                  match i, hi with
                  | 0, hi => cases hi; trivial
                  | 1, hi =>
                    cases hi
                    refine ⟨.ref b, ?_, .pool rfl⟩
                    rw [List.getD_eq_getElem?_getD, List.getElem?_set_self]
                    · rfl
                    · have hl1 := e1.len
                      rw [hl1]; simp [G0]; omega
                  | i + 2, hi =>
                    have := List.eq_of_mem_replicate (List.mem_of_getElem? (show (List.replicate (N.length - 2) Sl.no)[i]? = some s from hi))
                    subst this; trivial
                · subst z
                  cases r
                  exact hQ _
section
local macro_rules | `(tactic| walk_at "e") => `(tactic| first
  | ((with_reducible refine' ek_var ?h1 ?_); (case h1 => exact rfl))
  | (with_reducible refine ek_int ?_)
  | (with_reducible refine ek_bl ?_)
  | (with_reducible refine ek_non ?_)
  | (with_reducible refine ek_str ?_)
  | (with_reducible refine ek_ty ?_)
  | (with_reducible refine ek_cls ?_)
  | (with_reducible refine ek_ix ?_)
  | (with_reducible refine ek_un ?_)
  | (with_reducible refine ek_tup ?_)
  | (with_reducible refine k_call ?_)
  | (with_reducible refine ek_len ?_)
  | (with_reducible refine ek_tuple ?_)
  | (with_reducible refine ek_sum ?_)
  | (with_reducible refine ek_all ?_)
  | (with_reducible refine ek_any ?_)
  | (with_reducible refine ek_chain ?_)
  | (with_reducible refine ek_andV ?_)
  | (with_reducible refine ek_orV ?_)
  | (with_reducible refine ek_notV ?_)
  | (with_reducible refine ek_if ?_)
  | (with_reducible refine ek_ef (ef_lst ?_))
  | (with_reducible refine ek_ef (ef_list ?_))
  | (with_reducible refine ek_ef (ef_cat ?_))
  | (with_reducible refine ek_ef (ef_rep ?_))
  | (with_reducible refine ek_ef (ef_slice ?_))
  | (with_reducible refine ek_ef (ef_rev ?_))
  | (with_reducible refine ek_ef (ef_lstRev ?_))
  | (with_reducible refine ek_ef (ef_map ?_))
  | (with_reducible refine ek_ef (ef_filt ?_))
  | (with_reducible refine ef_lst ?_)
  | (with_reducible refine ef_list ?_)
  | (with_reducible refine ef_cat ?_)
  | (with_reducible refine ef_rep ?_)
  | (with_reducible refine ef_slice ?_)
  | (with_reducible refine ef_rev ?_)
  | (with_reducible refine ef_lstRev ?_)
  | (with_reducible refine ef_map ?_)
  | (with_reducible refine ef_filt ?_)
  | ((with_reducible refine' el_var ?h1 ?_); (case h1 => exact rfl))
  | ((with_reducible refine' el_own ?h1 ?_); (case h1 => exact rfl))
  | (with_reducible refine el_ef (ef_lst ?_))
  | (with_reducible refine el_ef (ef_list ?_))
  | (with_reducible refine el_ef (ef_cat ?_))
  | (with_reducible refine el_ef (ef_rep ?_))
  | (with_reducible refine el_ef (ef_slice ?_))
  | (with_reducible refine el_ef (ef_rev ?_))
  | (with_reducible refine el_ef (ef_lstRev ?_))
  | (with_reducible refine el_ef (ef_map ?_))
  | (with_reducible refine el_ef (ef_filt ?_))
  | (with_reducible refine ek_op ?_)
  | (with_reducible refine ek_cb ?_)
  | (with_reducible refine el_ek ?_)
  | (with_reducible refine tk_test ?_)
  | (with_reducible refine tk_B ?_)
  | (with_reducible refine tk_and ?_)
  | (with_reducible refine tk_or ?_)
  | (with_reducible refine tk_not ?_)
  | (with_reducible refine tk_yes ?_)
  | (with_reducible refine ak_nil ?_)
  | (with_reducible refine ak_cons ?_)
  | (with_reducible refine k_num (‹Tx _ _›) ?_)
  | (with_reducible refine k_den (‹Tx _ _›) ?_)
  | (with_reducible refine k_mk2 ?_)
  | (with_reducible refine k_mkO ?_)
  | (with_reducible refine k_rows (‹Tx _ _›) ?_)
  | (with_reducible refine k_mk1 ?_)
  | (with_reducible refine k_bel ?_)
  | (with_reducible refine k_own ?_)
  | (with_reducible refine rk_U2 (k_own ?_))
  | (with_reducible refine rk_mul (Sz.mul (by assumption) (by assumption)) ?_)
  | (with_reducible refine rk_U1 (rk_mul (Sz.mul (by assumption) (by assumption)) ?_))
  | (with_reducible refine ek_dget ?_)
  | (with_reducible refine uk_neg ?_)
  | (with_reducible refine ek_disp ?_)
  | (with_reducible refine pk_cons ?_)
  | (with_reducible refine pk_nil ?_)
  | (with_reducible refine rk_mod (by assumption) ?_)
  | (with_reducible refine rk_add ?_)
  | (with_reducible refine rk_sub ?_)
  | (with_reducible refine rk_lt ?_)
  | (with_reducible refine rk_le ?_)
  | (with_reducible refine rk_gt ?_)
  | (with_reducible refine rk_ge ?_)
  | (with_reducible refine rk_eqI ?_)
  | (with_reducible refine rk_neI ?_)
  | (with_reducible refine rk_isN ?_)
  | (with_reducible refine rk_notN ?_)
  | (with_reducible refine rk_U1 (rk_add ?_))
  | (with_reducible refine rk_U1 (rk_sub ?_))
  | (with_reducible refine ck_gcd ?_)
  | (with_reducible refine ck_abs ?_)
  | (with_reducible refine ck_int ?_)
  | (with_reducible refine ik_seq ?_)
  | (with_reducible refine ik_range1 ?_)
  | (with_reducible refine ik_range2 ?_)
  | (with_reducible refine ik_enumA ?_)
  | (with_reducible refine ik_zip ?_)
  | (with_reducible refine ik_rev ?_)
  | ((with_reducible refine' cg_name ?_ ?h1 ?h2); (case h1 => exact rfl); (case h2 => decide))
  | ((with_reducible refine' cg_anyT ?h1 ?_); (case h1 => exact rfl))
  | ((with_reducible refine' cg_anyL ?h1 ?_); (case h1 => exact rfl))
  | ((with_reducible refine' cg_anyK ?h1 ?_); (case h1 => exact rfl))
  | ((with_reducible refine' cgs_cons ?_ ?h1 ?h2); (case h1 => exact rfl); (case h2 => decide))
  | (with_reducible refine cgs_nil ?_)
  | ((with_reducible refine' gk_name ?_ ?h1); (case h1 => exact rfl))
  | ((with_reducible refine' gk_anyT ?h1 ?_); (case h1 => exact rfl))
  | ((with_reducible refine' gk_anyL ?h1 ?_); (case h1 => exact rfl))
  | ((with_reducible refine' gk_anyK ?h1 ?_); (case h1 => exact rfl))
  | ((with_reducible refine' gks_cons ?_ ?h1); (case h1 => exact rfl))
  | ((with_reducible refine' gks_consA (n := 0) ?_ ?h1 ?h2); (case h1 => exact rfl); (case h2 => exact rfl))
  | ((with_reducible refine' gks_consB ?h0 ?_ ?h1 ?h2); (case h0 => exact rfl); (case h1 => exact rfl); (case h2 => exact rfl))
  | (with_reducible refine gks_nil ?_)
  | (with_reducible refine ok_none ?_)
  | (with_reducible refine ok_some ?_))
local macro_rules | `(tactic| walk_at "s") => `(tactic| first
  | (with_reducible refine sx_guard ?_ ?_)
  | (with_reducible refine sx_seq ?_)
  | (with_reducible refine sx_ret ?_)
  | (with_reducible refine sx_if ?_)
  | (with_reducible refine sx_next ?_)
  | (with_reducible refine sx_break ?_)
  | (with_reducible refine sx_cont ?_)
  | ((with_reducible refine' sx_append ?h1 ?_); (case h1 => exact rfl))
  | ((with_reducible refine' sx_setI ?h1 ?_); (case h1 => exact rfl))
  | ((with_reducible refine' sx_set ?h1 ?_); (case h1 => exact rfl))
  | (with_reducible refine sx_asg ?_)
  | ((with_reducible refine' sx_par ?h1 ?h2 ?_); (case h1 => exact rfl); (case h2 => exact rfl))
  | (with_reducible refine sx_drop ?_)
  | ((with_reducible refine' k_fldS (‹Tx _ _›) ?h1 ?h2 ?h3 ?_); (case h1 => exact rfl); (case h2 => decide); (case h3 => exact rfl))
  | ((with_reducible refine' k_fldO (‹Tx _ _›) ?h1 ?h3 ?_); (case h1 => exact rfl); (case h3 => exact rfl)))
/-! plain existentials that the rules leave -/
local macro_rules | `(tactic| walk_at "x") => `(tactic| first
  | (with_reducible refine x_bl ?_)
  | (with_reducible refine x_int ?_)
  | (with_reducible refine x_frac ?_)
  | (with_reducible refine x_lst ?_)
  | (with_reducible refine x_off ?_)
  | (with_reducible refine x_low ?_)
  | (with_reducible refine x_ownR ?_)
  | (with_reducible refine x_ownA ?_)
  | (with_reducible refine x_tup ?_)
  | (with_reducible refine x_kd ?_)
  | (with_reducible refine x_oneL ?_)
  | (with_reducible refine x_oneT ?_)
  | (with_reducible refine x_one ?_)
  | ((with_reducible refine' x_at ?h1 ?_); (case h1 => exact rfl))
  | ((with_reducible refine' x_dic ?h1 ?_); (case h1 => exact rfl))
  | (with_reducible refine (⟨rfl, ?_⟩ : Kd.l = Kd.l ∧ _))
  | ((with_reducible refine' x_len ?h1 ?_); (case h1 => exact rfl))
  | ((with_reducible refine' br_t ?h1 ?_); (case h1 => exact rfl))
  | ((with_reducible refine' br_f ?h1 ?_); (case h1 => exact rfl)))
local macro_rules | `(tactic| walk_at "f") => `(tactic| first
  | ((with_reducible refine' sx_forW ?h1 ?_); (case h1 => exact rfl))
  | (with_reducible refine sx_forGW ?_))
local macro_rules | `(tactic| walk_at "g") => `(tactic| repeat (first | walk_at "s" | walk_at "f" | walk_at "e" | walk_at "x"))
local macro_rules | `(tactic| walk_at "v") => `(tactic| repeat (first | walk_at "e" | walk_at "x"))
local macro_rules | `(tactic| walk_at "h") => `(tactic| repeat (first | walk_at "s" | walk_at "e" | walk_at "x"))
variable {P : Program} {w : World} {K : PySem.W.Frag} {mg : Str → Option Value} {base : Heap}

end

end K
end

section
set_option maxRecDepth 100000
set_option maxHeartbeats 4000000
namespace K
open PySem PySem.Spec PyProof.Rows L2 G

theorem dvd_EE : ∀ d : Nat, d ≤ 15 → 0 < d → d ∣ EE := by decide
theorem nice1 {q : Rat} (h1 : q.num.natAbs ≤ 32) (h2 : q.den ≤ 15) : Nice 1 q := by
  obtain ⟨m, hm⟩ := dvd_EE q.den h2 q.den_pos
  have hd : 0 < q.den := q.den_pos
  refine ⟨q.num * (m : Int), ?_, ?_⟩
  · rw [Int.natAbs_mul, Int.natAbs_natCast, Nat.pow_one, show MM = 32 * EE from rfl]
    refine Nat.mul_le_mul h1 ?_
    rw [hm]; exact Nat.le_mul_of_pos_left m hd
  · rw [Nat.pow_one, hm]
    push_cast
    rw [num_mul q]
    have e : (((q.den : Nat) : Int) : Rat) = ((q.den : Nat) : Rat) := Rat.intCast_natCast _
    have e2 : (((m : Nat) : Int) : Rat) = ((m : Nat) : Rat) := Rat.intCast_natCast _
    rw [e]; try rw [e2]
    grind
theorem OwnOk.whole_le {r : ORow} (h : OwnOk r) : whole r ≤ 15 := by
  have h1 := sum_le (l := r.map (·.1)) (b := 5) fun i hi => by obtain ⟨p, hp, rfl⟩ := List.mem_map.mp hi; exact h.w2 p hp
  have h2 := h.len
  rw [List.length_map] at h1
  unfold whole; omega
theorem OwnOk.whole_pos {r : ORow} (h : OwnOk r) : 0 < whole r := by
  have h1 := sum_pos (l := r.map (·.1)) fun i hi => by obtain ⟨p, hp, rfl⟩ := List.mem_map.mp hi; exact h.w1 p hp
  have h2 : 0 < r.length := List.length_pos_iff.mpr h.ne
  rw [List.length_map] at h1
  unfold whole; omega
theorem OwnOk.row {r : ORow} (h : OwnOk r) : RowOk r where
  ne := h.ne
  len := by have := h.len; omega
  w1 := h.w1
  w2 := fun p hp => by have := h.w2 p hp; omega
  n := fun p hp => by
    have w := h.ok p hp
    exact nice1 (by have := w.nn; have := w.n1; omega) (by have := w.d1; omega)
  sh := fun p hp => by
    have w0 := h.whole_pos
    have w1 := h.whole_le
    have a1 := h.w1 p hp
    have a2 := h.w2 p hp
    refine nice1 ?_ ?_
    · unfold share
      rw [divInt_num w0]
      exact Nat.le_trans (Int.natAbs_ediv_le_natAbs _ _) (by omega)
    · have e := divInt_den (n := p.1) w0
      have h2 := Int.ediv_le_self (a := whole r) ((Nat.gcd p.1.natAbs (whole r).natAbs : Nat) : Int) (by omega)
      show (share r p.1).den ≤ 15
      unfold share
      omega
theorem OwnOk.pos {r : ORow} (h : OwnOk r) : Pos r := fun p hp => Rat.num_nonneg.mp (h.ok p hp).nn
theorem sx_stay {C : Cl} {B : Bs} {Γ : List Sl} {t u : TS} {nx bk ct : List Sl → Prop} {rt : D → Prop} (h : SX C B Γ t (fun Γ' => Γ' = Γ) rt bk ct) (k : SX C B Γ u nx rt bk ct) : SX C B Γ (tSeq t u) nx rt bk ct := sx_cut (fun Γ' => Γ' = Γ) h fun Γ' e => e ▸ k
theorem lr_above {r : ORow} (h : RowOk r) : LR 10 ((aboveN r : Rat) / (whole r : Rat)) (.tup [.int (aboveW r), .int (whole r)]) := by
  have w0 := h.whole_pos
  have w1 := h.whole_le
  have a0 := sum_pos (l := (r.filter fun p => decide (0 < p.2.num)).map (·.1)) fun i hi => by obtain ⟨p, hp, rfl⟩ := List.mem_map.mp hi; exact h.w1 p (List.mem_filter.mp hp).1
  have a1 := sum_le (l := (r.filter fun p => decide (0 < p.2.num)).map (·.1)) (b := 99) fun i hi => by obtain ⟨p, hp, rfl⟩ := List.mem_map.mp hi; exact h.w2 p (List.mem_filter.mp hp).1
  have a2 := List.length_filter_le (fun p : Int × Rat => decide (0 < p.2.num)) r
  have a3 := h.len
  rw [List.length_map] at a0 a1
  refine ⟨aboveW r, whole r, rfl, w0, ?_, Nat.lt_of_le_of_lt (show (aboveW r).natAbs ≤ 594 by unfold aboveW; omega) (by decide), Nat.lt_of_le_of_lt (show (whole r).natAbs ≤ 594 by omega) (by decide)⟩
  have : (0 : Rat) < (whole r : Rat) := Rat.intCast_pos.mpr w0
  show (aboveN r : Rat) = _
  grind
theorem at_r1 {f : Nat → D} {m i : Nat} (h : i < m) : atI ((List.range m).map f) (i : Int) = some (f i) := atI_nat (by simp [h])
theorem at_r2 {g : Nat → Rat} {m i : Nat} (h : i < m) : atI (((List.range m).map g).map lowD) (i : Int) = some (lowD (g i)) := atI_nat (by simp [h])
theorem rowAt_mem {rs : List ORow} {i : Nat} (h : i < rs.length) : rowAt rs i ∈ rs := by
  have : rs[i]? = some rs[i] := by simp [h]
  rw [rowAt_of this]; exact List.getElem_mem h
section
local macro_rules | `(tactic| walk_at "e") => `(tactic| first
  | ((with_reducible refine' ek_var ?h1 ?_); (case h1 => exact rfl))
  | (with_reducible refine ek_int ?_)
  | (with_reducible refine ek_bl ?_)
  | (with_reducible refine ek_non ?_)
  | (with_reducible refine ek_str ?_)
  | (with_reducible refine ek_ty ?_)
  | (with_reducible refine ek_cls ?_)
  | (with_reducible refine ek_ix ?_)
  | (with_reducible refine ek_un ?_)
  | (with_reducible refine ek_tup ?_)
  | (with_reducible refine k_call ?_)
  | (with_reducible refine ek_len ?_)
  | (with_reducible refine ek_tuple ?_)
  | (with_reducible refine ek_sum ?_)
  | (with_reducible refine ek_all ?_)
  | (with_reducible refine ek_any ?_)
  | (with_reducible refine ek_chain ?_)
  | (with_reducible refine ek_andV ?_)
  | (with_reducible refine ek_orV ?_)
  | (with_reducible refine ek_notV ?_)
  | (with_reducible refine ek_if ?_)
  | (with_reducible refine ek_ef (ef_lst ?_))
  | (with_reducible refine ek_ef (ef_list ?_))
  | (with_reducible refine ek_ef (ef_cat ?_))
  | (with_reducible refine ek_ef (ef_rep ?_))
  | (with_reducible refine ek_ef (ef_slice ?_))
  | (with_reducible refine ek_ef (ef_rev ?_))
  | (with_reducible refine ek_ef (ef_lstRev ?_))
  | (with_reducible refine ek_ef (ef_map ?_))
  | (with_reducible refine ek_ef (ef_filt ?_))
  | (with_reducible refine ef_lst ?_)
  | (with_reducible refine ef_list ?_)
  | (with_reducible refine ef_cat ?_)
  | (with_reducible refine ef_rep ?_)
  | (with_reducible refine ef_slice ?_)
  | (with_reducible refine ef_rev ?_)
  | (with_reducible refine ef_lstRev ?_)
  | (with_reducible refine ef_map ?_)
  | (with_reducible refine ef_filt ?_)
  | ((with_reducible refine' el_var ?h1 ?_); (case h1 => exact rfl))
  | ((with_reducible refine' el_own ?h1 ?_); (case h1 => exact rfl))
  | (with_reducible refine el_ef (ef_lst ?_))
  | (with_reducible refine el_ef (ef_list ?_))
  | (with_reducible refine el_ef (ef_cat ?_))
  | (with_reducible refine el_ef (ef_rep ?_))
  | (with_reducible refine el_ef (ef_slice ?_))
  | (with_reducible refine el_ef (ef_rev ?_))
  | (with_reducible refine el_ef (ef_lstRev ?_))
  | (with_reducible refine el_ef (ef_map ?_))
  | (with_reducible refine el_ef (ef_filt ?_))
  | (with_reducible refine ek_op ?_)
  | (with_reducible refine ek_cb ?_)
  | (with_reducible refine el_ek ?_)
  | (with_reducible refine tk_test ?_)
  | (with_reducible refine tk_B ?_)
  | (with_reducible refine tk_and ?_)
  | (with_reducible refine tk_or ?_)
  | (with_reducible refine tk_not ?_)
  | (with_reducible refine tk_yes ?_)
  | (with_reducible refine ak_nil ?_)
  | (with_reducible refine ak_cons ?_)
  | (with_reducible refine k_num (‹Tx _ _›) ?_)
  | (with_reducible refine k_den (‹Tx _ _›) ?_)
  | (with_reducible refine k_mk2 ?_)
  | (with_reducible refine k_mkO ?_)
  | (with_reducible refine k_rows (‹Tx _ _›) ?_)
  | (with_reducible refine k_mk1 ?_)
  | (with_reducible refine k_bel ?_)
  | (with_reducible refine k_own ?_)
  | (with_reducible refine rk_U2 (k_own ?_))
  | (with_reducible refine rk_mul (Sz.mul (by assumption) (by assumption)) ?_)
  | (with_reducible refine rk_U1 (rk_mul (Sz.mul (by assumption) (by assumption)) ?_))
  | (with_reducible refine ek_dget ?_)
  | (with_reducible refine uk_neg ?_)
  | (with_reducible refine ek_disp ?_)
  | (with_reducible refine pk_cons ?_)
  | (with_reducible refine pk_nil ?_)
  | (with_reducible refine rk_mod (by assumption) ?_)
  | (with_reducible refine rk_add ?_)
  | (with_reducible refine rk_sub ?_)
  | (with_reducible refine rk_lt ?_)
  | (with_reducible refine rk_le ?_)
  | (with_reducible refine rk_gt ?_)
  | (with_reducible refine rk_ge ?_)
  | (with_reducible refine rk_eqI ?_)
  | (with_reducible refine rk_neI ?_)
  | (with_reducible refine rk_isN ?_)
  | (with_reducible refine rk_notN ?_)
  | (with_reducible refine rk_U1 (rk_add ?_))
  | (with_reducible refine rk_U1 (rk_sub ?_))
  | (with_reducible refine ck_gcd ?_)
  | (with_reducible refine ck_abs ?_)
  | (with_reducible refine ck_int ?_)
  | (with_reducible refine ik_seq ?_)
  | (with_reducible refine ik_range1 ?_)
  | (with_reducible refine ik_range2 ?_)
  | (with_reducible refine ik_enumA ?_)
  | (with_reducible refine ik_zip ?_)
  | (with_reducible refine ik_rev ?_)
  | ((with_reducible refine' cg_name ?_ ?h1 ?h2); (case h1 => exact rfl); (case h2 => decide))
  | ((with_reducible refine' cg_anyT ?h1 ?_); (case h1 => exact rfl))
  | ((with_reducible refine' cg_anyL ?h1 ?_); (case h1 => exact rfl))
  | ((with_reducible refine' cg_anyK ?h1 ?_); (case h1 => exact rfl))
  | ((with_reducible refine' cgs_cons ?_ ?h1 ?h2); (case h1 => exact rfl); (case h2 => decide))
  | (with_reducible refine cgs_nil ?_)
  | ((with_reducible refine' gk_name ?_ ?h1); (case h1 => exact rfl))
  | ((with_reducible refine' gk_anyT ?h1 ?_); (case h1 => exact rfl))
  | ((with_reducible refine' gk_anyL ?h1 ?_); (case h1 => exact rfl))
  | ((with_reducible refine' gk_anyK ?h1 ?_); (case h1 => exact rfl))
  | ((with_reducible refine' gks_cons ?_ ?h1); (case h1 => exact rfl))
  | ((with_reducible refine' gks_consA (n := 0) ?_ ?h1 ?h2); (case h1 => exact rfl); (case h2 => exact rfl))
  | ((with_reducible refine' gks_consB ?h0 ?_ ?h1 ?h2); (case h0 => exact rfl); (case h1 => exact rfl); (case h2 => exact rfl))
  | (with_reducible refine gks_nil ?_)
  | (with_reducible refine ok_none ?_)
  | (with_reducible refine ok_some ?_))
local macro_rules | `(tactic| walk_at "s") => `(tactic| first
  | (with_reducible refine sx_guard ?_ ?_)
  | (with_reducible refine sx_seq ?_)
  | (with_reducible refine sx_ret ?_)
  | (with_reducible refine sx_if ?_)
  | (with_reducible refine sx_next ?_)
  | (with_reducible refine sx_break ?_)
  | (with_reducible refine sx_cont ?_)
  | ((with_reducible refine' sx_append ?h1 ?_); (case h1 => exact rfl))
  | ((with_reducible refine' sx_setI ?h1 ?_); (case h1 => exact rfl))
  | ((with_reducible refine' sx_set ?h1 ?_); (case h1 => exact rfl))
  | (with_reducible refine sx_asg ?_)
  | ((with_reducible refine' sx_par ?h1 ?h2 ?_); (case h1 => exact rfl); (case h2 => exact rfl))
  | (with_reducible refine sx_drop ?_)
  | ((with_reducible refine' k_fldS (‹Tx _ _›) ?h1 ?h2 ?h3 ?_); (case h1 => exact rfl); (case h2 => decide); (case h3 => exact rfl))
  | ((with_reducible refine' k_fldO (‹Tx _ _›) ?h1 ?h3 ?_); (case h1 => exact rfl); (case h3 => exact rfl)))
/-! plain existentials that the rules leave -/
local macro_rules | `(tactic| walk_at "x") => `(tactic| first
  | (with_reducible refine x_bl ?_)
  | (with_reducible refine x_int ?_)
  | (with_reducible refine x_frac ?_)
  | (with_reducible refine x_lst ?_)
  | (with_reducible refine x_off ?_)
  | (with_reducible refine x_low ?_)
  | (with_reducible refine x_ownR ?_)
  | (with_reducible refine x_ownA ?_)
  | (with_reducible refine x_tup ?_)
  | (with_reducible refine x_kd ?_)
  | (with_reducible refine x_oneL ?_)
  | (with_reducible refine x_oneT ?_)
  | (with_reducible refine x_one ?_)
  | ((with_reducible refine' x_at ?h1 ?_); (case h1 => exact rfl))
  | ((with_reducible refine' x_dic ?h1 ?_); (case h1 => exact rfl))
  | (with_reducible refine (⟨rfl, ?_⟩ : Kd.l = Kd.l ∧ _))
  | ((with_reducible refine' x_len ?h1 ?_); (case h1 => exact rfl))
  | ((with_reducible refine' br_t ?h1 ?_); (case h1 => exact rfl))
  | ((with_reducible refine' br_f ?h1 ?_); (case h1 => exact rfl)))
local macro_rules | `(tactic| walk_at "f") => `(tactic| first
  | ((with_reducible refine' sx_forW ?h1 ?_); (case h1 => exact rfl))
  | (with_reducible refine sx_forGW ?_))
local macro_rules | `(tactic| walk_at "g") => `(tactic| repeat (first | walk_at "s" | walk_at "f" | walk_at "e" | walk_at "x"))
local macro_rules | `(tactic| walk_at "v") => `(tactic| repeat (first | walk_at "e" | walk_at "x"))
local macro_rules | `(tactic| walk_at "h") => `(tactic| repeat (first | walk_at "s" | walk_at "e" | walk_at "x"))
variable {P : Program} {w : World} {K : PySem.W.Frag} {mg : Str → Option Value} {base : Heap}

theorem ok_law (T : Tx K mg) (c__law_bag : Cal P w K mg base 1 "_law_bag" ["script"] (SpFam (CL K) S__law_bag)) (c__law_draw : Cal P w K mg base 1 "_law_draw" ["bag", "many"] (SpFam (CL K) S__law_draw)) (c__law_offer : Cal P w K mg base 3 "_law_offer" ["bag"] (SpFam (CL K) S__law_offer)) (m_Offers1 : CalM P w K mg base 8 "Offers" [] (SpFamI (CL K) (He.ga K "Offers") S_OffersD_initD)) (c__law_offered : Cal P w K mg base 4 "_law_offered" ["bag", "offers"] (SpFam (CL K) S__law_offered)) (c__law_turns : Cal P w K mg base 3 "_law_turns" ["offers", "many"] (SpFam (CL K) S__law_turns)) (c__law_due : Cal P w K mg base 3 "_law_due" ["offers", "table", "many"] (SpFam (CL K) S__law_due)) (c__law_pairs : Cal P w K mg base 3 "_law_pairs" ["values", "many"] (SpFam (CL K) S__law_pairs)) (c_taken_in_turn : Cal P w K mg base 10 "taken_in_turn" ["offers", "many"] (SpFam (CL K) S_taken_in_turn)) (c_mean_taken : Cal P w K mg base 10 "mean_taken" ["offers", "many"] (SpFam (CL K) S_mean_taken)) (c__law_equal : Cal P w K mg base 1 "_law_equal" ["x", "y"] (SpFam (CL K) S__law_equal)) (c__law_below : Cal P w K mg base 1 "_law_below" ["x", "y"] (SpFam (CL K) S__law_below)) (c__law_above : Cal P w K mg base 1 "_law_above" ["offer"] (SpFam (CL K) S__law_above)) (c__law_low : Cal P w K mg base 2 "_law_low" ["x"] (SpFam (CL K) S__law_low)) (c__law_plus : Cal P w K mg base 1 "_law_plus" ["x", "y"] (SpFam (CL K) S__law_plus)) (c__law_is : Cal P w K mg base 3 "_law_is" ["value", "due"] (SpFam (CL K) S__law_is)) (c_turn_worth : Cal P w K mg base 8 "turn_worth" ["offers", "many"] (SpFam (CL K) S_turn_worth)) {fd : FuncData} (FD : FnP K "law" s_law fd) : FnOk P w K mg base (L2.CX P w) 11 (He.ga K "law") fd ["script"] SpLaw := by
  refine fn_mkR (N := ["script", "bag", "own", "offers", "many", "table", "shares", "means", "told", "earned", "total_v", "taken", "at", "k"]) FD sc_law (by rintro vs H Q E ⟨a, o, xs, rfl, _⟩; rfl) (fun f cdv A outer s H E hr => ⟨_, (pss_cons (ps_set (i := 1) sc_law.nd rfl (by first | exact Or.inl rfl | exact Or.inr rfl) (pe_calC c__law_bag hr (by decide) (by rfl) (pa_cons (pv 0) pa_nil))) (pss_cons (ps_setLc (i := 2) (own := [("k", 13)]) (g := gName 13) (tt := tYes) rfl sc_law.nd rfl rfl (sw_true rfl rfl rfl (by decide +kernel)) (pi_range1 (by rfl) T.b_range (pa_cons (pe_op op_addI pe_int (pe_calC c__law_draw hr (by decide) (by rfl) (pa_cons (pv 1) (pa_cons pe_int pa_nil)))) pa_nil)) (blkOk_by (own := [("k", 13)]) (N := ["script", "bag", "own", "offers", "many", "table", "shares", "means", "told", "earned", "total_v", "taken", "at", "k"]) (sc := defScope s_law) (by decide +kernel)) (fun _ _ _ _ _ => (pg_name (i := 13) sc_law.nd rfl (by first | exact Or.inl rfl | exact Or.inr rfl))) (fun _ _ _ _ _ => pts_nil) (fun _ _ _ _ _ => (pe_calC c__law_offer hr (by decide) (by rfl) (pa_cons (pv 1) pa_nil)))) (pss_cons (ps_if (PW.pt (pw_and (pt_cmpR op_gtI (pe_callB (cr_lenK K rfl) (by rfl) T.b_len PySem.boot_len (pa_cons (pv 2) pa_nil)) pe_int (nomark _)) (pw_and1 (pt_cmpR op_eq (pe_calC c__law_draw hr (by decide) (by rfl) (pa_cons (pv 1) (pa_cons pe_int pa_nil))) pe_int (nomark _))))) (pss_cons (ps_asg (pe_ix (ix_seqK K rfl) (pe_ix (ix_seqK K rfl) (pe_dget (hu_of hr) (pe_ix (ix_seqK K rfl) (pv 2) pe_int (fun _ _ => rfl)) pe_str (fun _ _ => rfl)) pe_int (fun _ _ => rfl)) pe_int (fun _ _ => rfl)) (pg_sub (pe_ix (ix_seqK K rfl) (pe_dget (hu_of hr) (pe_ix (ix_seqK K rfl) (pv 2) pe_int (fun _ _ => rfl)) pe_str (fun _ _ => rfl)) pe_int (fun _ _ => rfl)) pe_int set_list)) (pss_one (ps_asg (pe_disp (pps_cons pe_str (pe_lst (pa_cons (pe_lst (pa_cons pe_int (pa_cons (pe_ix (ix_seqK K rfl) (pe_ix (ix_seqK K rfl) (pe_dget (hu_of hr) (pe_ix (ix_seqK K rfl) (pv 2) pe_int (fun _ _ => rfl)) pe_str (fun _ _ => rfl)) pe_int (fun _ _ => rfl)) pe_int (fun _ _ => rfl)) pa_nil))) pa_nil)) (pps_cons pe_str pe_int pps_nil)) (by rfl) (by rfl) (fun z => by cases z) (by decide)) (pg_sub (pv 2) pe_int set_list)))) pss_nil) (pss_cons (ps_set (i := 3) sc_law.nd rfl (by first | exact Or.inl rfl | exact Or.inr rfl) (pe_mkK K rfl m_Offers1 hr (by decide) (by rfl) (pa_cons (pe_calC c__law_offered hr (by decide) (by rfl) (pa_cons (pv 1) (pa_cons (pv 2) pa_nil))) pa_nil))) (pss_cons (ps_set (i := 4) sc_law.nd rfl (by first | exact Or.inl rfl | exact Or.inr rfl) (pe_op op_addI pe_int (pe_calC c__law_draw hr (by decide) (by rfl) (pa_cons (pv 1) (pa_cons pe_int pa_nil))))) (pss_cons (ps_set (i := 5) sc_law.nd rfl (by first | exact Or.inl rfl | exact Or.inr rfl) (pe_calC c__law_turns hr (by decide) (by rfl) (pa_cons (pv 2) (pa_cons (pv 4) pa_nil)))) (pss_cons (ps_asg (pe_calC c__law_due hr (by decide) (by rfl) (pa_cons (pv 2) (pa_cons (pv 5) (pa_cons (pv 4) pa_nil)))) (pg_anyK K rfl rfl (pgs_cons (pg_name (i := 6) sc_law.nd rfl (by first | exact Or.inl rfl | exact Or.inr rfl)) (pgs_cons (pg_name (i := 7) sc_law.nd rfl (by first | exact Or.inl rfl | exact Or.inr rfl)) pgs_nil)))) (pss_cons (ps_set (i := 8) sc_law.nd rfl (by first | exact Or.inl rfl | exact Or.inr rfl) (pe_calC c__law_pairs hr (by decide) (by rfl) (pa_cons (pe_calC c_taken_in_turn hr (by decide) (by rfl) (pa_cons (pv 3) (pa_cons (pv 4) pa_nil))) (pa_cons (pe_callB (cr_lenK K rfl) (by rfl) T.b_len PySem.boot_len (pa_cons (pv 2) pa_nil)) pa_nil)))) (pss_cons (ps_set (i := 9) sc_law.nd rfl (by first | exact Or.inl rfl | exact Or.inr rfl) (pe_calC c__law_pairs hr (by decide) (by rfl) (pa_cons (pe_calC c_mean_taken hr (by decide) (by rfl) (pa_cons (pv 3) (pa_cons (pv 4) pa_nil))) (pa_cons (pe_callB (cr_lenK K rfl) (by rfl) T.b_len PySem.boot_len (pa_cons (pv 2) pa_nil)) pa_nil)))) (pss_cons (ps_if (PW.pt (pw_or (pt_cmpR op_isNon (pv 8) pe_non (nomark _)) (pw_or1 (pt_cmpR op_isNon (pv 9) pe_non (nomark _))))) (pss_one (ps_ret pe_bl)) pss_nil) (pss_cons (ps_set (i := 10) sc_law.nd rfl (by first | exact Or.inl rfl | exact Or.inr rfl) (pe_tup (pa_cons pe_int (pa_cons pe_int pa_nil)))) (pss_cons (ps_set (i := 11) sc_law.nd rfl (by first | exact Or.inl rfl | exact Or.inr rfl) (pe_tup (pa_cons pe_int (pa_cons pe_int pa_nil)))) (pss_cons (ps_for PassesOwn.never rfl (pi_range1 (by rfl) T.b_range (pa_cons (pe_callB (cr_lenK K rfl) (by rfl) T.b_len PySem.boot_len (pa_cons (pv 2) pa_nil)) pa_nil)) (pg_name (i := 12) sc_law.nd rfl (by first | exact Or.inl rfl | exact Or.inr rfl)) (pss_cons (ps_if (PW.pt (pw_or (pt_not (pt_val (pe_calC c__law_equal hr (by decide) (by rfl) (pa_cons (pe_ix (ix_seqK K rfl) (pv 8) (pv 12) (fun _ _ => rfl)) (pa_cons (pe_ix (ix_seqK K rfl) (pv 6) (pv 12) (fun _ _ => rfl)) pa_nil))))) (pw_or (pt_not (pt_val (pe_calC c__law_equal hr (by decide) (by rfl) (pa_cons (pe_ix (ix_seqK K rfl) (pv 9) (pv 12) (fun _ _ => rfl)) (pa_cons (pe_ix (ix_seqK K rfl) (pv 7) (pv 12) (fun _ _ => rfl)) pa_nil))))) (pw_or1 (pt_val (pe_calC c__law_below hr (by decide) (by rfl) (pa_cons (pe_tup (pa_cons pe_int (pa_cons pe_int pa_nil))) (pa_cons (pe_ix (ix_seqK K rfl) (pv 8) (pv 12) (fun _ _ => rfl)) pa_nil)))))))) (pss_one (ps_ret pe_bl)) pss_nil) (pss_cons (ps_if (PW.pt (pw_and (pt_cmpR op_eq (pe_ix (ix_seqK K rfl) (pe_calC c__law_above hr (by decide) (by rfl) (pa_cons (pe_ix (ix_seqK K rfl) (pv 2) (pv 12) (fun _ _ => rfl)) pa_nil)) pe_int (fun _ _ => rfl)) pe_int (nomark _)) (pw_and1 (pt_cmpR op_ne (pe_ix (ix_seqK K rfl) (pe_ix (ix_seqK K rfl) (pv 8) (pv 12) (fun _ _ => rfl)) pe_int (fun _ _ => rfl)) pe_int (nomark _))))) (pss_one (ps_ret pe_bl)) pss_nil) (pss_cons (ps_if (PW.pt (pw_and (pt_cmpR op_geI (pv 4) (pe_callB (cr_lenK K rfl) (by rfl) T.b_len PySem.boot_len (pa_cons (pv 2) pa_nil)) (nomark _)) (pw_and1 (pt_not (pt_val (pe_calC c__law_equal hr (by decide) (by rfl) (pa_cons (pe_ix (ix_seqK K rfl) (pv 8) (pv 12) (fun _ _ => rfl)) (pa_cons (pe_calC c__law_above hr (by decide) (by rfl) (pa_cons (pe_ix (ix_seqK K rfl) (pv 2) (pv 12) (fun _ _ => rfl)) pa_nil)) pa_nil)))))))) (pss_one (ps_ret pe_bl)) pss_nil) (pss_cons (ps_set (i := 10) sc_law.nd rfl (by first | exact Or.inl rfl | exact Or.inr rfl) (pe_calC c__law_low hr (by decide) (by rfl) (pa_cons (pe_calC c__law_plus hr (by decide) (by rfl) (pa_cons (pv 10) (pa_cons (pe_ix (ix_seqK K rfl) (pv 9) (pv 12) (fun _ _ => rfl)) pa_nil))) pa_nil))) (pss_one (ps_set (i := 11) sc_law.nd rfl (by first | exact Or.inl rfl | exact Or.inr rfl) (pe_calC c__law_low hr (by decide) (by rfl) (pa_cons (pe_calC c__law_plus hr (by decide) (by rfl) (pa_cons (pv 11) (pa_cons (pe_ix (ix_seqK K rfl) (pv 8) (pv 12) (fun _ _ => rfl)) pa_nil))) pa_nil))))))))) (pss_cons (ps_if (PW.pt (pw_or (pt_not (pt_val (pe_calC c__law_is hr (by decide) (by rfl) (pa_cons (pe_calC c_turn_worth hr (by decide) (by rfl) (pa_cons (pv 3) (pa_cons (pv 4) pa_nil))) (pa_cons (pv 10) pa_nil))))) (pw_or1 (pt_not (pt_val (pe_calC c__law_equal hr (by decide) (by rfl) (pa_cons (pv 10) (pa_cons (pe_ix (ix_seqK K rfl) (pe_ix (ix_seqK K rfl) (pv 5) pe_int (fun _ _ => rfl)) (pv 4) (fun _ _ => rfl)) pa_nil)))))))) (pss_one (ps_ret pe_bl)) pss_nil) (pss_one (ps_ret (pe_not (pe_calC c__law_below hr (by decide) (by rfl) (pa_cons (pe_tup (pa_cons (pv 4) (pa_cons pe_int pa_nil))) (pa_cons (pv 11) pa_nil)))))))))))))))))))), ?_⟩)
  rintro vs H Q E ⟨a, o, xs, rfl, ha, hl, hQ⟩
  refine law_start (K := K) (nn := 0) (ys := xs.map fun i => (i.natAbs : Int)) (n := 7 + (xs.length : Nat)) (Γ1 := [.no, .d .pool, .no, .no, .no, .no, .no, .no, .no, .no, .no, .no, .no, .no]) ha hQ (by decide) (by rw [List.length_map]; exact hl) (by intro y hy; obtain ⟨i, _, rfl⟩ := List.mem_map.mp hy; omega) (by omega) (by omega) rfl (fun B => ?_) (fun b => ?_)
  · walk_at "g"
    exact ⟨xs, rfl, hl, rfl⟩
  refine sx_seq ?_
  refine' sx_setO ?h1 ?_
  case h1 => exact rfl
  refine ef_lc ?_
  walk_at "h"
  refine ⟨6, rfl, by decide, by decide, fun m hm0 hm1 => ?_⟩
  walk_at "h"
  refine ⟨1 + m, rfl, by omega, by omega, ?_⟩
  obtain ⟨n, hn⟩ : ∃ n : Nat, 1 + m = (n : Int) := ⟨(1 + m).toNat, by omega⟩
  rw [hn, rng1']
  refine ⟨fun i acc => ∃ rs : List ORow, acc = rs.map ownD ∧ rs.length = i ∧ ∀ r ∈ rs, OwnOk r, ⟨[], rfl, rfl, fun _ h => (nomatch h)⟩, fun W1 i d acc hd hJ => ?_, fun acc hJ => ?_⟩
  · obtain ⟨rs, rfl, hrl, hro⟩ := hJ
    have hi := (List.getElem?_eq_some_iff.mp hd).1
    rw [List.length_map, List.length_range] at hi
    walk_at "h"
    refine ⟨rfl, fun r hr => ?_⟩
    refine ⟨small1000 (by rw [List.length_map]; omega), rs ++ [r], by rw [List.map_append]; rfl, by simp [hrl], fun q hq => ?_⟩
    rcases List.mem_append.mp hq with hq | hq
    · exact hro q hq
    · cases List.mem_singleton.mp hq
      exact hr
  obtain ⟨rs, rfl, hrl, hro⟩ := hJ
  rw [List.length_map, List.length_range] at hrl
  refine sx_cut (fun Γ' => ∃ rs : List ORow, 1 ≤ rs.length ∧ rs.length ≤ 6 ∧ (∀ r ∈ rs, OwnOk r) ∧ Γ' = [.no, .d .pool, .own (rs.map ownD), .no, .no, .no, .no, .no, .no, .no, .no, .no, .no, .no]) ?_ ?_
  · walk_at "h"
    refine br_p (fun hlen => ?_) (fun _ => ?_)
    · have hlen : 1 < rs.length := by rw [List.length_map] at hlen; omega
      walk_at "h"
      refine ⟨3, rfl, by decide, by decide, fun d hd0 hd1 => ?_⟩
      walk_at "h"
      refine br_p (fun _ => ?_) (fun _ => ?_)
      · match rs, hlen, hrl, hro with
        | r0 :: r1 :: rest, _, hrl, hro =>
        have o0 := hro r0 List.mem_cons_self
        have o1 := hro r1 (List.mem_cons_of_mem _ List.mem_cons_self)
        match r0, r1, o0.ne, o1.ne, hro, o0, o1 with
        | (w0, x0) :: c0, (w1, x1) :: c1, _, _, hro, o0, o1 =>
        have hx := o1.ok (w1, x1) List.mem_cons_self
        refine sx_seq ?_
        refine sx_mut (K := K) (nn := 0) (rs := ((w0, x0) :: c0) :: ((w1, x1) :: c1) :: rest) (w0 := w0) (x0 := x0) (x1 := x1) (Γr := List.replicate 11 .no) (fun s hs => List.eq_of_mem_replicate hs) hro hx ?_ ?_ (fun rs' l1 ok' => ?_)
        · walk_at "h"
          refine x_at (atI_nat (i := 1) rfl) ?_
          walk_at "h"
          refine x_at (atI_nat (i := 0) rfl) ?_
          walk_at "h"
          rfl
        · walk_at "h"
          refine x_at (atI_nat (i := 0) rfl) ?_
          walk_at "h"
          refine x_at (atI_nat (i := 0) rfl) ?_
          rfl
        · match rs', l1, ok' with
          | s0 :: s1 :: srest, l1, ok' =>
          have p1 := ok' s1 (List.mem_cons_of_mem _ List.mem_cons_self)
          match s1, p1.ne, ok', p1 with
          | (v1, y1) :: e1, _, ok', p1 =>
          walk_at "h"
          refine x_at (atI_nat (i := 1) rfl) ?_
          walk_at "h"
          refine x_at (atI_nat (i := 0) rfl) ?_
          walk_at "h"
          refine ⟨keys2, by show 2 ≤ 15; decide, ?_⟩
          walk_at "h"
          refine ⟨_, 1, rfl, by rw [List.length_map]; exact ixN_eq' rfl (by simp), ?_⟩
          refine ⟨s0 :: [(1, y1)] :: srest, by simp, by simp at l1 hrl ⊢; omega, fun q hq => ?_, rfl⟩
          rcases List.mem_cons.mp hq with rfl | hq
          · exact ok' _ List.mem_cons_self
          rcases List.mem_cons.mp hq with rfl | hq
          · exact ⟨by simp, by simp, by simp, by simp, fun p hp => by cases List.mem_singleton.mp hp; exact p1.ok (v1, y1) List.mem_cons_self⟩
          · exact ok' q (List.mem_cons_of_mem _ (List.mem_cons_of_mem _ hq))
      · walk_at "h"
        exact ⟨rs, by omega, by omega, hro, rfl⟩
    · walk_at "h"
      exact ⟨rs, by omega, by omega, hro, rfl⟩
  · rintro Γ' ⟨rs, h1, h2, ok, rfl⟩
    refine sx_freeze 2 rfl ?_
    have okr : ∀ r ∈ rs, RowOk r := fun r hr => (ok r hr).row
    have okp : ∀ r ∈ rs, RowOk r ∧ Pos r := fun r hr => ⟨(ok r hr).row, (ok r hr).pos⟩
    walk_at "h"
    refine ⟨rs, rfl, ok, h2, fun k rws hrw hro => ?_⟩
    walk_at "v"
    have hlw : rws.length = rs.length := by rw [← hrw, List.length_map]
    refine ⟨k, rws, rfl, by omega, by omega, hro, ?_⟩
    rw [hrw]
    dsimp only
    rw [show D.obj 0 [("rows", .tup (rs.map rowD))] = offD rs from rfl]
    walk_at "h"
    refine ⟨4, rfl, by decide, by decide, fun m hm0 hm1 => ?_⟩
    walk_at "v"
    obtain ⟨n, hn⟩ : ∃ n : Nat, 1 + m = (n : Int) := ⟨(1 + m).toNat, by omega⟩
    rw [hn]
    walk_at "h"
    refine ⟨rs, n, rfl, okr, by omega, by omega, ?_⟩
    walk_at "h"
    refine ⟨rs, n, rfl, fun r hr => ⟨okr r hr, (ok r hr).len⟩, h2, by omega, ?_⟩
    walk_at "h"
    refine ⟨rs, n, rfl, okr, by omega, by omega, ?_⟩
    walk_at "h"
    refine ⟨(List.range rs.length).map (told rs n), by simp, by simp; omega, ?_⟩
    walk_at "h"
    refine ⟨rs, n, rfl, okr, by omega, by omega, ?_⟩
    walk_at "h"
    refine ⟨(List.range rs.length).map (meanT rs n), by simp, by simp; omega, ?_⟩
    walk_at "h"
    have nt : ∀ i, i < rs.length → Nice 26 (told rs n i) := fun i hi => (NiceF.sumN (fun l _ => Nice.mv (rowAt_ok okr hi) (ch_nice okr (Nat.le_of_lt hi)) l) (by omega)).mono (by omega)
    have nm : ∀ i, i < rs.length → Nice 26 (meanT rs n i) := fun i hi => (NiceF.sumN (fun l _ => Nice.gv (rowAt_ok okr hi) (ch_nice okr (Nat.le_of_lt hi)) l) (by omega)).mono (by omega)
    have st : ∀ j, j ≤ rs.length → Nice 27 (sumN (told rs n) j) := fun j hj => NiceF.sumN (fun i hi => nt i (by omega)) (by omega)
    have sm : ∀ j, j ≤ rs.length → Nice 27 (sumN (meanT rs n) j) := fun j hj => NiceF.sumN (fun i hi => nm i (by omega)) (by omega)
    walk_at "f"
    walk_at "h"
    refine ⟨(rs.length : Nat), by rw [List.length_map], by omega, by omega, ?_⟩
    refine ⟨Nat, List.range rs.length, _, fun j => [.no, .d .pool, .d (.lst (rs.map ownD)), .d (offD rs), .d (.int (n : Nat)), .d (tabL rs n), .d (.lst ((List.range rs.length).map fun i => lowD (lS rs n i))), .d (.lst ((List.range rs.length).map fun i => lowD (lM rs n i))), .d (.lst (((List.range rs.length).map (told rs n)).map lowD)), .d (.lst (((List.range rs.length).map (meanT rs n)).map lowD)), .d (lowD (sumN (meanT rs n) j)), .d (lowD (sumN (told rs n) j)), .no, .no], rng1', Wk.refl, fun j => rfl, fun B' j x hx => ?_, fun Γ' w => sx_weak w ?_⟩
    · obtain ⟨rfl, hj⟩ := rng_get' hx
      have okx := ok _ (rowAt_mem hj)
      have t1 := nt x hj
      have m1 := nm x hj
      have e1 : lS rs n x = told rs n x := lS_told okr hj
      have e2 : lM rs n x = meanT rs n x := lM_mean okr hj
      have e3 : LR (24 * 26 + 1) (told rs n x) (lowD (lS rs n x)) := by rw [e1]; exact LR.low t1
      have e4 : LR (24 * 26 + 1) (meanT rs n x) (lowD (lM rs n x)) := by rw [e2]; exact LR.low m1
      walk_at "h"
      refine x_at (at_r2 hj) ?_
      walk_at "h"
      refine x_at (at_r1 hj) ?_
      walk_at "h"
      refine ⟨_, _, _, _, _, _, rfl, LR.low t1, e3, by omega, by omega, ?_⟩
      walk_at "h"
      refine br_n (fun z => absurd rfl z) (fun _ => ?_)
      walk_at "h"
      refine x_at (at_r2 hj) ?_
      walk_at "h"
      refine x_at (at_r1 hj) ?_
      walk_at "h"
      refine ⟨_, _, _, _, _, _, rfl, LR.low m1, e4, by omega, by omega, ?_⟩
      walk_at "h"
      refine br_n (fun z => absurd rfl z) (fun _ => ?_)
      walk_at "h"
      refine x_at (at_r2 hj) ?_
      walk_at "h"
      refine ⟨_, _, _, _, _, _, rfl, LR.low (q := 1) (Nice.int (i := 1) (by decide)), LR.low t1, by omega, by omega, ?_⟩
      walk_at "h"
      refine br_p (fun z => absurd z (Rat.not_lt.mpr (told_le okr hj))) (fun _ => ?_)
      refine sx_next ?_
      refine sx_stay ?_ ?_
      · walk_at "h"
        refine x_at (own_at hj) ?_
        walk_at "h"
        refine ⟨_, rfl, by have := okx.len; omega, ?_⟩
        walk_at "h"
        refine br_p (fun z1 => ?_) (fun _ => ?_)
        · walk_at "h"
          refine x_at (at_r2 hj) ?_
          walk_at "h"
          have z2 : (told rs n x).num = 0 := by rw [told_zero okr hj z1]; rfl
          refine br_n (fun z => absurd z2 z) (fun _ => ?_)
          walk_at "h"
          rfl
        · walk_at "h"
          rfl
      refine sx_stay ?_ ?_
      · walk_at "h"
        refine br_p (fun z1 => ?_) (fun _ => ?_)
        · walk_at "h"
          refine x_at (at_r2 hj) ?_
          walk_at "h"
          refine x_at (own_at hj) ?_
          walk_at "h"
          refine ⟨_, rfl, by have := okx.len; omega, ?_⟩
          walk_at "h"
          refine ⟨_, _, _, _, _, _, rfl, LR.low t1, lr_above (okr _ (rowAt_mem hj)), by omega, by omega, ?_⟩
          walk_at "h"
          refine br_n (fun z => absurd (told_all okp (by rw [List.length_map] at z1; omega) hj) z) (fun _ => ?_)
          walk_at "h"
          rfl
        · walk_at "h"
          rfl
      have s1 := st x (by omega)
      have s2 := sm x (by omega)
      walk_at "h"
      refine x_at (at_r2 hj) ?_
      walk_at "h"
      refine ⟨_, _, _, _, _, _, rfl, LR.low s2, LR.low m1, by omega, by omega, fun z1 hz1 => ?_⟩
      walk_at "h"
      refine ⟨_, _, _, rfl, hz1, by omega, ?_⟩
      walk_at "h"
      refine x_at (at_r2 hj) ?_
      walk_at "h"
      refine ⟨_, _, _, _, _, _, rfl, LR.low s1, LR.low t1, by omega, by omega, fun z2 hz2 => ?_⟩
      walk_at "h"
      refine ⟨_, _, _, rfl, hz2, by omega, ?_⟩
      walk_at "h"
      show Wk _ [.no, _, _, _, _, _, _, _, _, _, .d (lowD (sumN (meanT rs n) (x + 1))), .d (lowD (sumN (told rs n) (x + 1))), .no, .no]
      rw [sumN_succ, sumN_succ]
      exact .same (.same (.same (.same (.same (.same (.same (.same (.same (.same (.same (.same (.no (.same .nil)))))))))))))
    · dsimp only
      rw [List.length_range]
      walk_at "h"
      refine ⟨rs, n, rfl, okr, by omega, by omega, ?_⟩
      walk_at "h"
      have e0 := mean_total (n := n) okp
      have tn := TT_nice okr 0 n
      have st := st rs.length (Nat.le_refl _)
      have sm := sm rs.length (Nat.le_refl _)
      refine ⟨_, _, _, _, rfl, tn.sz (by omega), LR.low sm, by omega, ?_⟩
      walk_at "h"
      refine br_n (fun z => absurd e0.symm z) (fun _ => ?_)
      unfold tabL
      walk_at "h"
      refine x_at (tabL_at (f := fun i => vecL (TT (rs.drop i)) (n + 1)) (i := 0) rfl (by omega)) ?_
      walk_at "h"
      refine x_at (atL (i := n) rfl (by omega)) ?_
      walk_at "h"
      refine ⟨_, _, _, _, _, _, rfl, LR.low sm, LR.low tn, by omega, by omega, ?_⟩
      walk_at "h"
      refine br_n (fun z => absurd e0 z) (fun _ => ?_)
      walk_at "h"
      refine ⟨_, _, _, _, _, _, rfl, LR.low (q := ((n : Int) : Rat)) (Nice.int (i := (n : Int)) (by omega)), LR.low st, by omega, by omega, ?_⟩
      walk_at "h"
      rw [decide_eq_false (show ¬ ((n : Int) : Rat) < sumN (told rs n) rs.length from Rat.not_lt.mpr (by rw [Rat.intCast_natCast]; exact told_total okr))]
      rfl

end

end K
end

set_option maxRecDepth 100000
set_option maxHeartbeats 0
namespace KH
open PySem PySem.Spec PyProof.Rows L2 G K
abbrev spl : Sp := SpLaw
theorem law_ok {P : Program} {w : World} {K : PySem.W.Frag} {mg : Str → Option Value} {base : Heap} (T : Tx K mg) {fd : FuncData} (FD : FnP K "law" s_law fd) : FnOk P w K mg base (L2.CX P w) 11 (He.ga K "law") fd ["script"] SpLaw := by
  have c_is_integer := ok_is_integer (P := P) (w := w) (base := base) T 
  have c_is_between := ok_is_between (P := P) (w := w) (base := base) T c_is_integer
  have c_is_sequence := ok_is_sequence (P := P) (w := w) (base := base) T 
  obtain ⟨fd_FracD_initD, F_FracD_initD⟩ := T.d_FracD_initD
  have I_FracD_initD := ok_FracD_initD (P := P) (w := w) (base := base) T c_is_integer F_FracD_initD
  have m_Frac1 : CalM P w K mg base 2 "Frac" [.int 1] (SpFamI (CL K) (He.ga K "Frac") S_FracD_initD) := by
    obtain ⟨ds, hv, hb⟩ := F_FracD_initD.binds1 (ps := ["self", "num", "den"]) 2 0 (by simp) rfl (fun T kV doc pm an cdv ct us its h1 h2 => match us, its, h1, h2 with | [_, _], [_], _, _ => ⟨_, rfl, rfl⟩)
    exact ⟨T.g_Frac, _, fd_FracD_initD, _, ds, T.mk_Frac, I_FracD_initD, hb, hv⟩
  have m_Frac2 : CalM P w K mg base 2 "Frac" [] (SpFamI (CL K) (He.ga K "Frac") S_FracD_initD) := by
    obtain ⟨ds, hv, hb⟩ := F_FracD_initD.binds1 (ps := ["self", "num", "den"]) 3 1 (by simp) rfl (fun T kV doc pm an cdv ct us its h1 h2 => match us, its, h1, h2 with | [_, _, _], [_], _, _ => ⟨_, rfl, rfl⟩)
    exact ⟨T.g_Frac, _, fd_FracD_initD, _, ds, T.mk_Frac, I_FracD_initD, hb, hv⟩
  obtain ⟨fd_FracD_addD, F_FracD_addD, B_FracD_addD⟩ := ok_FracD_addD (P := P) (w := w) (base := base) T m_Frac2
  have o_add : CalO P w K mg base 4 (He.ga K "Frac") .Add _ := ⟨T.op_Frac_Add.2.2, _, fd_FracD_addD, _, T.op_Frac_Add.1, T.op_Frac_Add.2.1, F_FracD_addD, B_FracD_addD⟩
  obtain ⟨fd_FracD_subD, F_FracD_subD, B_FracD_subD⟩ := ok_FracD_subD (P := P) (w := w) (base := base) T m_Frac2
  have o_sub : CalO P w K mg base 4 (He.ga K "Frac") .Sub _ := ⟨T.op_Frac_Sub.2.2, _, fd_FracD_subD, _, T.op_Frac_Sub.1, T.op_Frac_Sub.2.1, F_FracD_subD, B_FracD_subD⟩
  obtain ⟨fd_FracD_mulD, F_FracD_mulD, B_FracD_mulD⟩ := ok_FracD_mulD (P := P) (w := w) (base := base) T m_Frac2
  have o_mul : CalO P w K mg base 4 (He.ga K "Frac") .Mult _ := ⟨T.op_Frac_Mult.2.2, _, fd_FracD_mulD, _, T.op_Frac_Mult.1, T.op_Frac_Mult.2.1, F_FracD_mulD, B_FracD_mulD⟩
  obtain ⟨fd_Frac_is_below, F_Frac_is_below, B_Frac_is_below⟩ := ok_Frac_is_below (P := P) (w := w) (base := base) T 
  have c_Frac_is_below : CalT P w K mg base 1 (He.ga K "Frac") "is_below" _ := ⟨T.cl_Frac, _, fd_Frac_is_below, _, T.m_Frac_is_below, F_Frac_is_below, B_Frac_is_below⟩
  have c_as_frac := ok_as_frac (P := P) (w := w) (base := base) T c_is_integer m_Frac1
  have c_is_amount := ok_is_amount (P := P) (w := w) (base := base) T c_is_integer c_as_frac
  have c__law_gcd := ok__law_gcd (P := P) (w := w) (base := base) T 
  have c__law_low := ok__law_low (P := P) (w := w) (base := base) T c__law_gcd
  have c__law_plus := ok__law_plus (P := P) (w := w) (base := base) T 
  have c__law_minus := ok__law_minus (P := P) (w := w) (base := base) T 
  have c__law_times := ok__law_times (P := P) (w := w) (base := base) T 
  have c__law_below := ok__law_below (P := P) (w := w) (base := base) T 
  have c__law_equal := ok__law_equal (P := P) (w := w) (base := base) T 
  have c__law_greater := ok__law_greater (P := P) (w := w) (base := base) T c__law_below
  have c__law_pair := ok__law_pair (P := P) (w := w) (base := base) T c__law_gcd
  have c__law_pairs := ok__law_pairs (P := P) (w := w) (base := base) T c__law_pair
  have c__law_is := ok__law_is (P := P) (w := w) (base := base) T c__law_pair c__law_equal
  have c_greatest_of := ok_greatest_of (P := P) (w := w) (base := base) T c_Frac_is_below
  have c_total := ok_total (P := P) (w := w) (base := base) T m_Frac1 o_add
  have c_is_shown := ok_is_shown (P := P) (w := w) (base := base) T c_is_sequence c_is_between c_is_amount c_as_frac
  have c_is_offer := ok_is_offer (P := P) (w := w) (base := base) T c_is_sequence c_is_shown
  obtain ⟨fd_OffersD_initD, F_OffersD_initD⟩ := T.d_OffersD_initD
  have I_OffersD_initD := ok_OffersD_initD (P := P) (w := w) (base := base) T c_is_sequence c_is_offer c_as_frac F_OffersD_initD
  have m_Offers1 : CalM P w K mg base 8 "Offers" [] (SpFamI (CL K) (He.ga K "Offers") S_OffersD_initD) := ⟨T.g_Offers, _, fd_OffersD_initD, _, [], T.mk_Offers, I_OffersD_initD, F_OffersD_initD.bindsN (fun _ _ _ _ _ _ us hl => match us, hl with | [_, _], _ => rfl), .nil⟩
  have c_shown_shares := ok_shown_shares (P := P) (w := w) (base := base) T m_Frac2
  have c_row_before := ok_row_before (P := P) (w := w) (base := base) T m_Frac1 o_add c_shown_shares o_mul c_greatest_of c_total
  have c_turn_rows := ok_turn_rows (P := P) (w := w) (base := base) T m_Frac1 c_row_before
  have c_turn_worth := ok_turn_worth (P := P) (w := w) (base := base) T c_turn_rows
  have c_thresholds := ok_thresholds (P := P) (w := w) (base := base) T c_turn_rows o_sub
  have c_takings := ok_takings (P := P) (w := w) (base := base) T c_shown_shares c_Frac_is_below c_total o_mul
  have c_turns_taken := ok_turns_taken (P := P) (w := w) (base := base) T m_Frac1 c_thresholds c_takings o_mul o_add o_sub
  have c_taken_in_turn := ok_taken_in_turn (P := P) (w := w) (base := base) T c_turns_taken
  have c_mean_taken := ok_mean_taken (P := P) (w := w) (base := base) T c_turns_taken
  have c__law_turns := ok__law_turns (P := P) (w := w) (base := base) T c__law_greater c__law_plus c__law_times c__law_low
  have c__law_above := ok__law_above (P := P) (w := w) (base := base) T 
  have c__law_due := ok__law_due (P := P) (w := w) (base := base) T c__law_minus c__law_low c__law_times c__law_below c__law_plus
  have c__law_bag := ok__law_bag (P := P) (w := w) (base := base) T 
  have c__law_draw := ok__law_draw (P := P) (w := w) (base := base) T 
  have c__law_offer := ok__law_offer (P := P) (w := w) (base := base) T c__law_draw c__law_low
  have c__law_offered := ok__law_offered (P := P) (w := w) (base := base) T m_Frac2 c__law_draw
  exact ok_law (P := P) (w := w) (base := base) T c__law_bag c__law_draw c__law_offer m_Offers1 c__law_offered c__law_turns c__law_due c__law_pairs c_taken_in_turn c_mean_taken c__law_equal c__law_below c__law_above c__law_low c__law_plus c__law_is c_turn_worth FD
end KH
open PySem PySem.W PySem.Calls PyProof.Rows
set_option maxRecDepth 100000 in
set_option maxHeartbeats 0 in
theorem PySem.Challenge.cw_nextprices_k79_whole_taken_in_turn_holds : PySem.Challenge.rw_nextprices_k79_whole_taken_in_turn.Holds := by
  w_on; o_law
  refine HandSHeadRun.head_imp (r := OpenLaw.row PySem.Challenge.rw_nextprices_k79_whole_taken_in_turn) (q := KH.qv) (H := KH.hk) (ob := KH.ob) (M := 6000) (loose := KH.loose) (d := HandSHeadRun.topDef (OpenLaw.row PySem.Challenge.rw_nextprices_k79_whole_taken_in_turn).prog 59) (kwd := []) KH.ob_eq KH.run
    (by kernel_rfl) (by kernel_rfl) (by kernel_rfl) (by rfl) (by first | assumption | decide +kernel) (by decide +kernel) ⟨rfl, rfl, rfl, rfl, rfl, by decide +kernel⟩ ?hw ?hc
  case hw => w_witness2
  case hc =>
    refine HG.walk_ofX (l := PySem.Challenge.rw_nextprices_k79_whole_taken_in_turn) (n := 63) (k := 11) (x := "script") (CX := fun w => L2.CX (PySem.Challenge.rw_nextprices_k79_whole_taken_in_turn).prog w) rfl (by decide) (by kernel_rfl) ⟨rfl, by decide, by decide⟩ ?F HG.cx_none
    intro w mg fa h Y G hmg0
    obtain ⟨K, KX, hL, c⟩ := Y
    have hmg : mg ("law" : PySem.Str) = some (.ref fa) := by
      have e : (HandSHeadRun.topDef (OpenLaw.row PySem.Challenge.rw_nextprices_k79_whole_taken_in_turn).prog 59).name = ("law" : PySem.Str) := by kernel_rfl
      rw [← e]
      exact hmg0
    have T := KH.facts KX G c
    have e := hmg.symm.trans T.g_law
    injection e with e
    injection e with e
    subst e
    obtain ⟨fd, FD⟩ := T.d_law
    refine ⟨K, fd, KH.spl, KX, fun s u => FD.bindsA (ps := ["script"]) (fun _ _ _ _ _ _ us hl => match us, hl with | [_], _ => rfl) s [u] rfl, fun H a ns hl hO hS => ?_, fun base _ _ => ?_⟩
    · obtain ⟨o, z⟩ := HG.script_frz hL hO hS
      exact ⟨a, o, ns, rfl, z, hl, fun _ => rfl⟩
    · exact KH.law_ok (P := (PySem.Challenge.rw_nextprices_k79_whole_taken_in_turn).prog) (w := w) (base := base) T FD
