import PyProof.Rows.All
import Wide.All
import OpenK.AllK
import Wide.FinOn
import HandS.ForMost
import HandS.ForExc
import HandS.Lambda
import HandS.EndTab
import HandS.HotCalls
import HandS.ExcIs
import HandS.ExcInit
import HandS.Gcd
import HandS.Wide
import HandS.HeadWalk
import HandS.HeadHook4
import HandS.Style
import HandS.Deep
import HandS.WideBits
import HandS.IsInst
import KE.KExcIs
import KE.KExcInit
import PyProof.ReprRoads
import HandS.Small
import KE.KStateDown
import HandS.Head0
import HandS.Head1
import HandS.Head2
import HandS.HeadEnd
import PyProof.Rows.ReprOcc
import PySem.Challenge.RW_freewalls_k01_errors_as_told
set_option Elab.async false
set_option linter.all false
set_option maxRecDepth 100000
set_option maxHeartbeats 0
/-! MnA: values D, their reading Rel over a frozen part Z of the abstract heap, states Xst and Stt, results and what they promise. -/
namespace Mn
open PySem PySem.Spec PyProof.Rows L2

/-- a value as the plain functions see it -/
inductive D where
  | non | bl (b : Bool) | int (i : Int) | str (s : Str)
  | lst (ds : List D) | tup (ds : List D) | scr (ns : List Int)
  | dct (kvs : List (Key × D))
  | fn (i : Nat) | cls (i : Nat)
  | ins (c : Nat) (fs : List (Str × D))
  | pen
  /-- an exception that is handled: where it stands, its own dict, its fields -/
  | exc (a : Addr) (od : Option Addr) (fs : List (Str × D))

/-- where the text's own defs and classes stand; the tables of code objects -/
structure Adr where
  fa : Nat → Addr
  ca : Nat → Addr
  T : List (Addr × Str)
/-- the frozen part of the heap; where the pen stands -/
structure Fz where
  F : Hp
  pa : Option Addr
structure Fz.Le (Y Z : Fz) : Prop where
  f : Same Y.F Z.F
  p : ∀ a, Y.pa = some a → Z.pa = some a
theorem Fz.Le.refl (Z : Fz) : Fz.Le Z Z := ⟨Same.refl _, fun _ h => h⟩
theorem Fz.Le.trans {Y Z W : Fz} (a : Fz.Le Y Z) (b : Fz.Le Z W) : Fz.Le Y W := ⟨a.f.trans b.f, fun c h => b.p c (a.p c h)⟩

mutual
inductive Rel (K : PySem.W.Frag) (A : Adr) (Z : Fz) : D → V → Prop where
  | non : Rel K A Z .non .non
  | bl (b : Bool) : Rel K A Z (.bl b) (.bl b)
  | int (i : Int) : Rel K A Z (.int i) (.int i)
  | str (x : Str) : Rel K A Z (.str x) (.str x)
  | lst {a : Addr} {vs : List V} {ds : List D} (h : Z.F a = some (.lst vs)) (r : RelAll K A Z ds vs) : Rel K A Z (.lst ds) (.ref a)
  | scr {a : Addr} {ns : List Int} (h : SqL K Z.F a (ns.map V.int)) : Rel K A Z (.scr ns) (.ref a)
  | tup {a : Addr} {vs : List V} {ds : List D} (h : SqT K Z.F a vs) (r : RelAll K A Z ds vs) : Rel K A Z (.tup ds) (.ref a)
  | dct {a : Addr} {ws : List (Key × V)} {kvs : List (Key × D)} (h : Z.F a = some (.dK ws)) (r : RelKV K A Z kvs ws) : Rel K A Z (.dct kvs) (.ref a)
  | fn (i : Nat) : Rel K A Z (.fn i) (.ref (A.fa i))
  | cls (i : Nat) : Rel K A Z (.cls i) (.ref (A.ca i))
  | ins {a dx : Addr} {c : Nat} {fs : List (Str × D)} {gs : List (Str × V)} (h : Z.F a = some (.ins (A.ca c) dx gs)) (r : RelFs K A Z fs gs) : Rel K A Z (.ins c fs) (.ref a)
  | pen {a : Addr} (h : Z.pa = some a) : Rel K A Z .pen (.ref a)
  | exc0 (a : Addr) : Rel K A Z (.exc a none []) (.ref a)
  | exc {a dd : Addr} {fs : List (Str × D)} {gs : List (Str × V)} (h : Z.F dd = some (.xd gs)) (r : RelFs K A Z fs gs) : Rel K A Z (.exc a (some dd) fs) (.ref a)
inductive RelAll (K : PySem.W.Frag) (A : Adr) (Z : Fz) : List D → List V → Prop where
  | nil : RelAll K A Z [] []
  | cons {d : D} {ds : List D} {v : V} {vs : List V} (h : Rel K A Z d v) (r : RelAll K A Z ds vs) : RelAll K A Z (d :: ds) (v :: vs)
inductive RelKV (K : PySem.W.Frag) (A : Adr) (Z : Fz) : List (Key × D) → List (Key × V) → Prop where
  | nil : RelKV K A Z [] []
  | cons {k : Key} {d : D} {ds : List (Key × D)} {v : V} {vs : List (Key × V)} (h : Rel K A Z d v) (r : RelKV K A Z ds vs) : RelKV K A Z ((k, d) :: ds) ((k, v) :: vs)
inductive RelFs (K : PySem.W.Frag) (A : Adr) (Z : Fz) : List (Str × D) → List (Str × V) → Prop where
  | nil : RelFs K A Z [] []
  | cons {k : Str} {d : D} {ds : List (Str × D)} {v : V} {vs : List (Str × V)} (h : Rel K A Z d v) (r : RelFs K A Z ds vs) : RelFs K A Z ((k, d) :: ds) ((k, v) :: vs)
end

theorem SqL.mono {K : PySem.W.Frag} {H H' : Hp} {a : Addr} {xs : List V} (e : Same H H') (h : SqL K H a xs) : SqL K H' a xs := Same.seq e h
theorem SqT.mono {K : PySem.W.Frag} {H H' : Hp} {a : Addr} {xs : List V} (e : Same H H') (h : SqT K H a xs) : SqT K H' a xs := by
  rcases h with (h | ⟨o, h⟩) | h
  · exact .inl (.inl (e _ _ h))
  · exact .inl (.inr ⟨o, e _ _ h⟩)
  · exact .inr h

section
variable {K : PySem.W.Frag} {A : Adr} {Y Z : Fz}
mutual
theorem Rel.mono (e : Fz.Le Y Z) : ∀ {d : D} {v : V}, Rel K A Y d v → Rel K A Z d v
  | _, _, .non => .non
  | _, _, .bl b => .bl b
  | _, _, .int i => .int i
  | _, _, .str x => .str x
  | _, _, .lst h r => .lst (e.f _ _ h) (RelAll.mono e r)
  | _, _, .scr h => .scr (SqL.mono e.f h)
  | _, _, .tup h r => .tup (SqT.mono e.f h) (RelAll.mono e r)
  | _, _, .dct h r => .dct (e.f _ _ h) (RelKV.mono e r)
  | _, _, .fn i => .fn i
  | _, _, .cls i => .cls i
  | _, _, .ins h r => .ins (e.f _ _ h) (RelFs.mono e r)
  | _, _, .pen h => .pen (e.p _ h)
  | _, _, .exc0 a => .exc0 a
  | _, _, .exc h r => .exc (e.f _ _ h) (RelFs.mono e r)
theorem RelAll.mono (e : Fz.Le Y Z) : ∀ {ds : List D} {vs : List V}, RelAll K A Y ds vs → RelAll K A Z ds vs
  | _, _, .nil => .nil
  | _, _, .cons h r => .cons (Rel.mono e h) (RelAll.mono e r)
theorem RelKV.mono (e : Fz.Le Y Z) : ∀ {ds : List (Key × D)} {vs : List (Key × V)}, RelKV K A Y ds vs → RelKV K A Z ds vs
  | _, _, .nil => .nil
  | _, _, .cons h r => .cons (Rel.mono e h) (RelKV.mono e r)
theorem RelFs.mono (e : Fz.Le Y Z) : ∀ {ds : List (Str × D)} {vs : List (Str × V)}, RelFs K A Y ds vs → RelFs K A Z ds vs
  | _, _, .nil => .nil
  | _, _, .cons h r => .cons (Rel.mono e h) (RelFs.mono e r)
end
theorem RelAll.length : ∀ {ds : List D} {vs : List V}, RelAll K A Z ds vs → ds.length = vs.length
  | _, _, .nil => rfl
  | _, _, .cons _ r => by rw [List.length_cons, List.length_cons, RelAll.length r]
theorem RelAll.get : ∀ {ds : List D} {vs : List V} {i : Nat} {d : D}, RelAll K A Z ds vs → ds[i]? = some d → ∃ v, vs[i]? = some v ∧ Rel K A Z d v
  | _, _, 0, d, .cons h _, e => by simp at e; subst e; exact ⟨_, rfl, h⟩
  | _, _, i + 1, d, .cons _ r, e => by
    obtain ⟨v, h1, h2⟩ := RelAll.get (i := i) (d := d) r (by simpa using e)
    exact ⟨v, by simpa using h1, h2⟩
theorem RelAll.getV : ∀ {ds : List D} {vs : List V} {i : Nat} {v : V}, RelAll K A Z ds vs → vs[i]? = some v → ∃ d, ds[i]? = some d ∧ Rel K A Z d v
  | _, _, 0, d, .cons h _, e => by simp at e; subst e; exact ⟨_, rfl, h⟩
  | _, _, i + 1, d, .cons _ r, e => by
    obtain ⟨v, h1, h2⟩ := RelAll.getV (i := i) (v := d) r (by simpa using e)
    exact ⟨v, by simpa using h1, h2⟩
theorem RelAll.append : ∀ {ds es : List D} {vs ws : List V}, RelAll K A Z ds vs → RelAll K A Z es ws → RelAll K A Z (ds ++ es) (vs ++ ws)
  | _, _, _, _, .nil, s => s
  | _, _, _, _, .cons r t, s => .cons r (RelAll.append t s)
theorem RelAll.set {d : D} {v : V} (h : Rel K A Z d v) : ∀ {ds : List D} {vs : List V} (i : Nat), RelAll K A Z ds vs → RelAll K A Z (ds.set i d) (vs.set i v)
  | _, _, _, .nil => .nil
  | _, _, 0, .cons _ r => .cons h r
  | _, _, i + 1, .cons q r => .cons q (RelAll.set h i r)
theorem RelAll.take : ∀ {ds : List D} {vs : List V} (n : Nat), RelAll K A Z ds vs → RelAll K A Z (ds.take n) (vs.take n)
  | _, _, 0, _ => .nil
  | _, _, _ + 1, .nil => .nil
  | _, _, n + 1, .cons r t => .cons r (RelAll.take n t)
theorem RelAll.drop : ∀ {ds : List D} {vs : List V} (n : Nat), RelAll K A Z ds vs → RelAll K A Z (ds.drop n) (vs.drop n)
  | _, _, 0, r => r
  | _, _, _ + 1, .nil => .nil
  | _, _, n + 1, .cons _ t => RelAll.drop n t
theorem RelAll.ints : ∀ (ns : List Int), RelAll K A Z (ns.map D.int) (ns.map V.int)
  | [] => .nil
  | n :: r => .cons (.int n) (RelAll.ints r)
theorem RelAll.replicate {d : D} {v : V} (h : Rel K A Z d v) : ∀ n : Nat, RelAll K A Z (List.replicate n d) (List.replicate n v)
  | 0 => .nil
  | n + 1 => .cons h (RelAll.replicate h n)
end

/-- the pen's record -/
structure PenR where
  cells : List Int
  at_ : Int
  digits : Int
  count : Int
  fold : Int
abbrev Pn := Option PenR
/-- a slot: without a value; a value that is never changed; a list or dict of the def's own -/
inductive Cell where
  | no | val (d : D) | own (d : D)

/-- the pen at a -/
def PenAt (K : PySem.W.Frag) (Z : Fz) (H : Hp) (a : Addr) (r : PenR) : Prop :=
  ∃ ac, H a = some (.dK [(.inr "cells", .ref ac), (.inr "at", .int r.at_), (.inr "digits", .int r.digits), (.inr "count", .int r.count), (.inr "fold", .int r.fold)]) ∧ Z.F ac = some (.lst (r.cells.map V.int))
def PenOk (K : PySem.W.Frag) (Z : Fz) (H : Hp) (p : Pn) : Prop :=
  match p with
  | none => Z.pa = none
  | some r => ∃ a, Z.pa = some a ∧ Z.F a = none ∧ PenAt K Z H a r

/-- the state against that at an entry (H0, Z0) -/
structure Xst (K : PySem.W.Frag) (A : Adr) (H0 : Hp) (Z0 Z : Fz) (H : Hp) (p : Pn) : Prop where
  le : Fz.Le Z0 Z
  sub : ∀ a o, Z.F a = some o → H a = some o
  pen : PenOk K Z H p
  fr : ∀ a o, H0 a = some o → Z.pa ≠ some a → (∀ ps, o ≠ .tbl ps) → H a = some o
  th : ∀ a, H a = none → H0 a = none
  fz : ∀ a, H0 a ≠ none → Z0.F a = none → Z.F a = none
  pz : ∀ a, Z.pa = some a → Z0.pa = some a ∨ H0 a = none
  tabs : LamX.Tabs A.T H
section
variable {K : PySem.W.Frag} {A : Adr} {H0 H H1 : Hp} {Z0 Z Z1 : Fz} {p p1 : Pn}
theorem Xst.after (x : Xst K A H0 Z0 Z H p) (y : Xst K A H Z Z1 H1 p1) : Xst K A H0 Z0 Z1 H1 p1 where
  le := x.le.trans y.le
  sub := y.sub
  pen := y.pen
  fr := fun a o h hp hn => y.fr a o (x.fr a o h (fun e => hp (y.le.p a e)) hn) hp hn
  th := fun a h => x.th a (y.th a h)
  fz := fun a h hz => y.fz a (fun e => h (x.th a e)) (x.fz a h hz)
  pz := fun a h => (y.pz a h).elim (x.pz a) fun e => .inr (x.th a e)
  tabs := y.tabs
theorem Xst.here (x : Xst K A H0 Z0 Z H p) : Xst K A H Z Z H p where
  le := Fz.Le.refl _
  sub := x.sub
  pen := x.pen
  fr := fun a o h _ _ => h
  th := fun a h => h
  fz := fun a _ hz => hz
  pz := fun a h => .inl h
  tabs := x.tabs
/-- what is no pen and stands at H stands at H1 -/
theorem Xst.keep (y : Xst K A H Z Z1 H1 p1) (x : Xst K A H0 Z0 Z H p) {a : Addr} {o : HO} (h : H a = some o) (hd : ∀ kvs, o ≠ .dK kvs) (ht : ∀ ps, o ≠ .tbl ps) : H1 a = some o := by
  refine y.fr a o h (fun e => ?_) ht
  rcases y.pz a e with q | q
  · have hp := x.pen
    cases p with
    | none => exact absurd (hp.symm.trans q) (by simp)
    | some r =>
      obtain ⟨b, h1, h2, ac, h3, h4⟩ := hp
      rw [q] at h1; cases h1
      rw [h] at h3
      exact hd _ (Option.some.inj h3)
  · rw [h] at q; cases q
theorem Xst.sqL (y : Xst K A H Z Z1 H1 p1) (x : Xst K A H0 Z0 Z H p) {a : Addr} {xs : List V} (h : SqL K H a xs) : SqL K H1 a xs := by
  rcases h with (h | ⟨o, h⟩) | h
  · exact .inl (.inl (y.keep x h (fun _ q => nomatch q) fun _ q => nomatch q))
  · exact .inl (.inr ⟨o, y.keep x h (fun _ q => nomatch q) fun _ q => nomatch q⟩)
  · exact .inr h
/-- a new object comes to the frozen part -/
theorem Xst.frozen (x : Xst K A H0 Z0 Z H p) {a : Addr} {o : HO} (hn : H a = none) : Xst K A H0 Z0 ⟨upd Z.F a o, Z.pa⟩ (upd H a o) p := by
  have hz : Z.F a = none := by
    cases e : Z.F a with
    | none => rfl
    | some u => rw [x.sub a u e] at hn; cases hn
  have hne : ∀ b u, H b = some u → b ≠ a := fun b u e q => by rw [q, hn] at e; cases e
  have le1 : Fz.Le Z ⟨upd Z.F a o, Z.pa⟩ := ⟨fun b u e => by show upd Z.F a o b = some u; rw [upd_ne (fun q => by rw [q, hz] at e; cases e)]; exact e, fun _ h => h⟩
  refine ⟨x.le.trans le1, fun b u e => ?_, ?_, fun b u h hp hn' => ?_, fun b h => ?_, fun b h hb => ?_, fun b h => x.pz b h, ?_⟩
  · by_cases q : b = a
    · subst q
      have e' : upd Z.F b o b = some u := e
      rw [upd_same] at e' ⊢; exact e'
    · have e' : upd Z.F a o b = some u := e
      rw [upd_ne q] at e' ⊢; exact x.sub b u e'
  · have hp := x.pen
    cases p with
    | none => exact hp
    | some r =>
      obtain ⟨b, h1, h2, ac, h3, h4⟩ := hp
      have nb := hne b _ h3
      refine ⟨b, h1, ?_, ac, ?_, le1.f _ _ h4⟩
      · show upd Z.F a o b = none; rw [upd_ne nb]; exact h2
      · rw [upd_ne nb]; exact h3
  · have e := x.fr b u h hp hn'
    rw [upd_ne (hne b u e)]; exact e
  · by_cases q : b = a
    · subst q; rw [upd_same] at h; cases h
    · rw [upd_ne q] at h; exact x.th b h
  · have nb : b ≠ a := fun q => h (by rw [q]; exact x.th a hn)
    show upd Z.F a o b = none
    rw [upd_ne nb]; exact x.fz b h hb
  · exact x.tabs.ext fun b u e => by rw [upd_ne (hne b u e)]; exact e
/-- a new object that is not frozen -/
theorem Xst.fresh (x : Xst K A H0 Z0 Z H p) {a : Addr} {o : HO} (hn : H a = none) : Xst K A H0 Z0 Z (upd H a o) p := by
  have hne : ∀ b u, H b = some u → b ≠ a := fun b u e q => by rw [q, hn] at e; cases e
  refine ⟨x.le, fun b u e => ?_, ?_, fun b u h hp hn' => ?_, fun b h => ?_, x.fz, x.pz, ?_⟩
  · have e' := x.sub b u e
    rw [upd_ne (hne b u e')]; exact e'
  · have hp := x.pen
    cases p with
    | none => exact hp
    | some r =>
      obtain ⟨b, h1, h2, ac, h3, h4⟩ := hp
      exact ⟨b, h1, h2, ac, by rw [upd_ne (hne b _ h3)]; exact h3, h4⟩
  · have e := x.fr b u h hp hn'
    rw [upd_ne (hne b u e)]; exact e
  · by_cases q : b = a
    · subst q; rw [upd_same] at h; cases h
    · rw [upd_ne q] at h; exact x.th b h
  · exact x.tabs.ext fun b u e => by rw [upd_ne (hne b u e)]; exact e
end

/-- a list or dict of one's own at a -/
def OwnAt (K : PySem.W.Frag) (A : Adr) (Z : Fz) (H : Hp) (d : D) (a : Addr) : Prop :=
  match d with
  | .lst ds => ∃ vs, H a = some (.lst vs) ∧ RelAll K A Z ds vs
  | .dct kvs => ∃ ws, H a = some (.dK ws) ∧ RelKV K A Z kvs ws
  | .ins c fs => ∃ dx gs, H a = some (.ins (A.ca c) dx gs) ∧ RelFs K A Z fs gs
  | _ => False
def CellOk (K : PySem.W.Frag) (A : Adr) (H0 : Hp) (Z : Fz) (H : Hp) (x : Option V) : Cell → Prop
  | .no => True
  | .val d => ∃ v, x = some v ∧ Rel K A Z d v
  | .own d => ∃ a, x = some (.ref a) ∧ OwnAt K A Z H d a ∧ H0 a = none ∧ Z.F a = none ∧ Z.pa ≠ some a
structure Stt (K : PySem.W.Frag) (A : Adr) (H0 : Hp) (Z0 Z : Fz) (σ : L2.St) (H : Hp) (env : List Cell) (p : Pn) : Prop where
  x : Xst K A H0 Z0 Z H p
  len : env.length = σ.length
  cells : ∀ (i : Nat) (c : Cell) (y : Option V), env[i]? = some c → σ[i]? = some y → CellOk K A H0 Z H y c
  apart : ∀ (i j : Nat) (d e : D) (a : Addr), i ≠ j → env[i]? = some (.own d) → env[j]? = some (.own e) → σ[i]? = some (some (.ref a)) → σ[j]? ≠ some (some (.ref a))
section
variable {K : PySem.W.Frag} {A : Adr} {H0 H H1 : Hp} {Z0 Z Z1 : Fz} {p p1 : Pn} {σ : L2.St} {env : List Cell}
theorem OwnAt.there {d : D} {a : Addr} (h : OwnAt K A Z H d a) : ∃ o, H a = some o ∧ ∀ ps, o ≠ .tbl ps := by
  cases d <;> first | exact h.elim | skip
  · obtain ⟨vs, e, _⟩ := h; exact ⟨_, e, fun _ q => nomatch q⟩
  · obtain ⟨vs, e, _⟩ := h; exact ⟨_, e, fun _ q => nomatch q⟩
  · obtain ⟨dx, gs, e, _⟩ := h; exact ⟨_, e, fun _ q => nomatch q⟩
theorem OwnAt.move {d : D} {a : Addr} (h : OwnAt K A Z H d a) (le : Fz.Le Z Z1) (k : ∀ o, H a = some o → H1 a = some o) : OwnAt K A Z1 H1 d a := by
  cases d <;> first | exact h.elim | skip
  · obtain ⟨vs, e, r⟩ := h; exact ⟨vs, k _ e, r.mono le⟩
  · obtain ⟨vs, e, r⟩ := h; exact ⟨vs, k _ e, r.mono le⟩
  · obtain ⟨dx, gs, e, r⟩ := h; exact ⟨dx, gs, k _ e, r.mono le⟩
theorem Stt.after (s : Stt K A H0 Z0 Z σ H env p) (y : Xst K A H Z Z1 H1 p1) : Stt K A H0 Z0 Z1 σ H1 env p1 := by
  refine ⟨s.x.after y, s.len, fun i c v e1 e2 => ?_, s.apart⟩
  have q := s.cells i c v e1 e2
  cases c with
  | no => trivial
  | val d => obtain ⟨w, h1, h2⟩ := q; exact ⟨w, h1, h2.mono y.le⟩
  | own d =>
    obtain ⟨a, h1, h2, h3, h4, h5⟩ := q
    obtain ⟨o, ho, hb⟩ := h2.there
    have np : Z1.pa ≠ Option.some a := fun z => by
      rcases y.pz a z with z | z
      · exact h5 z
      · rw [ho] at z; cases z
    exact ⟨a, h1, h2.move y.le fun o' ho' => y.fr a o' ho' np (by rw [ho] at ho'; cases ho'; exact hb), h3, y.fz a (by rw [ho]; simp) h4, np⟩
end

/-! ### results -/
inductive R (α : Type) where
  | ok (a : α) (p : Pn)
  | ex (c : Nat) (fs : List (Str × D)) (p : Pn)
  | bad
def R.bind {α β : Type} (r : R α) (k : α → Pn → R β) : R β :=
  match r with
  | .ok a p => k a p
  | .ex c fs p => .ex c fs p
  | .bad => .bad
abbrev EX (α : Type) := List Cell → Pn → R α
def EX.bind {α β : Type} (m : EX α) (k : α → EX β) : EX β := fun env p => (m env p).bind fun a p' => k a env p'
def EX.pure {α : Type} (a : α) : EX α := fun _ p => .ok a p
def EX.bad {α : Type} : EX α := fun _ _ => .bad

/-- an exception's own dict -/
def ExAt (K : PySem.W.Frag) (A : Adr) (Z : Fz) (H : Hp) (od : Option Addr) (fs : List (Str × D)) : Prop :=
  match od with
  | none => fs = []
  | some dx => ∃ gs, Z.F dx = some (.xd gs) ∧ RelFs K A Z fs gs
/-- what a result promises to what follows; Rl: how the answer is read (the heap ahead, the frozen part and the heap behind, the answer, its reading) -/
def Post {α β : Type} (K : PySem.W.Frag) (A : Adr) (E : XK) (Rl : Hp → Fz → Hp → α → β → Prop) (Z : Fz) (H : Hp) (r : R α) (Q : β → Hp → Prop) : Prop :=
  match r with
  | .ok a p => ∀ b H' Z', Xst K A H Z Z' H' p → Rl H Z' H' a b → Q b H'
  | .ex c fs p => ∀ od H' Z', Xst K A H Z Z' H' p → ExAt K A Z' H' od fs → E (.ref (A.ca c)) od H'
  | .bad => False
/-- of an elder heap it is true, too -/
def Down {α β : Type} (Rl : Hp → Fz → Hp → α → β → Prop) : Prop := ∀ (H H1 : Hp), (∀ a, H1 a = none → H a = none) → ∀ Z' H' a b, Rl H1 Z' H' a b → Rl H Z' H' a b
theorem Post.shift {α β : Type} {K : PySem.W.Frag} {A : Adr} {E : XK} {Rl : Hp → Fz → Hp → α → β → Prop} (dn : Down Rl) {Z Z1 : Fz} {H H1 : Hp} {p1 : Pn} {r : R α} {Q : β → Hp → Prop} (h : Post K A E Rl Z H r Q) (y : Xst K A H Z Z1 H1 p1) : Post K A E Rl Z1 H1 r Q := by
  cases r with
  | ok a p => exact fun b H' Z' x q => h b H' Z' (y.after x) (dn H H1 y.th Z' H' a b q)
  | ex c fs p => exact fun b H' Z' x q => h b H' Z' (y.after x) q
  | bad => exact h

section
variable (K : PySem.W.Frag) (A : Adr)
/-- kept for good -/
def RlE (_ : Hp) (Z : Fz) (_ : Hp) (d : D) (v : V) : Prop := Rel K A Z d v
/-- looked at at once: it may be one's own -/
def RlB (_ : Hp) (Z : Fz) (H : Hp) (d : D) (v : V) : Prop := Rel K A Z d v ∨ (∃ a, v = .ref a ∧ Z.pa ≠ some a ∧ OwnAt K A Z H d a)
/-- a new list or dict that nobody else has -/
def RlO (H0 : Hp) (Z : Fz) (H : Hp) (d : D) (v : V) : Prop := ∃ a, v = .ref a ∧ OwnAt K A Z H d a ∧ H0 a = none ∧ Z.F a = none ∧ Z.pa ≠ some a
def RlA (_ : Hp) (Z : Fz) (_ : Hp) (d : List D) (v : List V) : Prop := RelAll K A Z d v
/-- arguments looked at at once -/
def RlAB (_ : Hp) (Z : Fz) (H : Hp) (d : List D) (v : List V) : Prop := Paired (RlB K A H Z H) d v
def RlT (_ : Hp) (_ : Fz) (_ : Hp) (a b : Bool) : Prop := a = b
variable {K A}
theorem RlE.dn : Down (RlE K A) := fun _ _ _ _ _ _ _ h => h
theorem RlB.dn : Down (RlB K A) := fun _ _ _ _ _ _ _ h => h
theorem RlA.dn : Down (RlA K A) := fun _ _ _ _ _ _ _ h => h
theorem RlAB.dn : Down (RlAB K A) := fun _ _ _ _ _ _ _ h => h
theorem RlT.dn : Down RlT := fun _ _ _ _ _ _ _ h => h
theorem RlO.dn : Down (RlO K A) := fun _ _ th _ _ _ _ ⟨a, h1, h2, h3, h4⟩ => ⟨a, h1, h2, th a h3, h4⟩
/-- a new object is frozen -/
theorem Xst.freeze {H0 H : Hp} {Z0 Z : Fz} {p : Pn} {a : Addr} {o : HO} (x : Xst K A H0 Z0 Z H p) (h : H a = some o) (h0 : H0 a = none) (hz : Z.F a = none) (hp : Z.pa ≠ some a) : Xst K A H0 Z0 ⟨upd Z.F a o, Z.pa⟩ H p := by
  have le1 : Fz.Le Z ⟨upd Z.F a o, Z.pa⟩ := ⟨fun b u e => by show upd Z.F a o b = some u; rw [upd_ne (fun q => by rw [q, hz] at e; cases e)]; exact e, fun _ h => h⟩
  refine ⟨x.le.trans le1, fun b u e => ?_, ?_, fun b u h hp' hn' => x.fr b u h hp' hn', x.th, fun b h' hb => ?_, fun b h => x.pz b h, x.tabs⟩
  · by_cases q : b = a
    · subst q
      have e' : upd Z.F b o b = some u := e
      rw [upd_same] at e'; rw [h]; exact e'
    · have e' : upd Z.F a o b = some u := e
      rw [upd_ne q] at e'; exact x.sub b u e'
  · have hp1 := x.pen
    cases p with
    | none => exact hp1
    | some r =>
      obtain ⟨b, h1, h2, ac, h3, h4⟩ := hp1
      have nb : b ≠ a := fun q => hp (by rw [← q]; exact h1)
      exact ⟨b, h1, by show upd Z.F a o b = none; rw [upd_ne nb]; exact h2, ac, h3, le1.f _ _ h4⟩
  · have nb : b ≠ a := fun q => h' (by rw [q]; exact h0)
    show upd Z.F a o b = none
    rw [upd_ne nb]; exact x.fz b h' hb
theorem le_upd {Z : Fz} {a : Addr} {o : HO} (hz : Z.F a = none) : Fz.Le Z ⟨upd Z.F a o, Z.pa⟩ :=
  ⟨fun b u e => by show upd Z.F a o b = some u; rw [upd_ne (fun q => by rw [q, hz] at e; cases e)]; exact e, fun _ h => h⟩
/-- what is one's own, frozen -/
theorem OwnAt.rel {Z : Fz} {H : Hp} {d : D} {a : Addr} {o : HO} (h : OwnAt K A Z H d a) (ho : H a = some o) (hz : Z.F a = none) : Rel K A ⟨upd Z.F a o, Z.pa⟩ d (.ref a) := by
  cases d <;> first | exact h.elim | skip
  · obtain ⟨vs, e, r⟩ := h
    rw [ho] at e; cases e
    exact .lst (a := a) (by show upd Z.F a _ a = _; exact upd_same) (r.mono (le_upd hz))
  · obtain ⟨vs, e, r⟩ := h
    rw [ho] at e; cases e
    exact .dct (a := a) (by show upd Z.F a _ a = _; exact upd_same) (r.mono (le_upd hz))
  · obtain ⟨dx, gs, e, r⟩ := h
    rw [ho] at e; cases e
    exact .ins (a := a) (by show upd Z.F a _ a = _; exact upd_same) (r.mono (le_upd hz))
end

/-- an expression's reading by what it answers -/
def tR {α β : Type} (K : PySem.W.Frag) (A : Adr) (E : XK) (Rl : Hp → Fz → Hp → α → β → Prop) (m : EX α) : L2.St → Hp → (β → Hp → Prop) → Prop := fun σ H Q =>
  ∃ H0 Z0 Z env p, Stt K A H0 Z0 Z σ H env p ∧ Post K A E Rl Z H (m env p) Q
abbrev Tk (X : Cx) (E : XK) : Prop := Takes X fun c d _ H => E c d H
/-- an expression: its value is never changed afterwards -/
def SE (A : Adr) (X : Cx) (e : Expr) (m : EX D) : Prop := ∀ E, Tk X E → PE X e (tR X.K A E (RlE X.K A) m)
/-- an expression whose value is looked at at once -/
def SB (A : Adr) (X : Cx) (e : Expr) (m : EX D) : Prop := ∀ E, Tk X E → PE X e (tR X.K A E (RlB X.K A) m)
/-- an expression that makes a list or dict -/
def SO (A : Adr) (X : Cx) (e : Expr) (m : EX D) : Prop := ∀ E, Tk X E → PE X e (tR X.K A E (RlO X.K A) m)
def STt (A : Adr) (X : Cx) (e : Expr) (m : EX Bool) : Prop := ∀ E, Tk X E → PT X e (tR X.K A E RlT m)
def STw (A : Adr) (X : Cx) (e : Expr) (m : EX Bool) : Prop := ∀ E, Tk X E → PW X e (tR X.K A E RlT m)
def SA (A : Adr) (X : Cx) (es : List Expr) (m : EX (List D)) : Prop := ∀ E, Tk X E → PA X es (tR X.K A E (RlA X.K A) m)
def SAB (A : Adr) (X : Cx) (es : List Expr) (m : EX (List D)) : Prop := ∀ E, Tk X E → PA X es (tR X.K A E (RlAB X.K A) m)

section
variable {A : Adr} {X : Cx}
/-- the answer read otherwise -/
theorem Post.read {α β : Type} {K : PySem.W.Frag} {E : XK} {R1 R2 : Hp → Fz → Hp → α → β → Prop} {H : Hp} {Z : Fz} {r : R α} {Q : β → Hp → Prop} (h : Post K A E R2 Z H r Q) (f : ∀ Z' H' a b, R1 H Z' H' a b → R2 H Z' H' a b) : Post K A E R1 Z H r Q := by
  cases r with
  | ok a p => exact fun b H' Z' x q => h b H' Z' x (f _ _ _ _ q)
  | ex c fs p => exact h
  | bad => exact h
theorem sb_of {e : Expr} {m : EX D} (h : SE A X e m) : SB A X e m := fun E tk => ⟨fun pins s σ H Q I q => (h E tk).run pins s σ H Q I (by
  obtain ⟨H0, Z0, Z, env, p, s, q⟩ := q
  exact ⟨H0, Z0, Z, env, p, s, q.read fun _ _ _ _ r => .inl r⟩)⟩
theorem sb_so {e : Expr} {m : EX D} (h : SO A X e m) : SB A X e m := fun E tk => ⟨fun pins s σ H Q I q => (h E tk).run pins s σ H Q I (by
  obtain ⟨H0, Z0, Z, env, p, s, q⟩ := q
  exact ⟨H0, Z0, Z, env, p, s, q.read fun _ _ _ _ ⟨a, h1, h2, _, _, h5⟩ => .inr ⟨a, h1, h5, h2⟩⟩)⟩
theorem se_so {e : Expr} {m : EX D} (h : SO A X e m) : SE A X e m := fun E tk => ⟨fun pins s σ H Q I q => (h E tk).run pins s σ H Q I (by
  obtain ⟨H0, Z0, Z, env, p, s, q⟩ := q
  refine ⟨H0, Z0, Z, env, p, s, ?_⟩
  revert q
  cases m env p with
  | ok a p =>
    refine fun q b H' Z' x ⟨a, h1, h2, h3, h4, h5⟩ => ?_
    obtain ⟨o, ho, _⟩ := h2.there
    subst h1
    exact q _ H' _ (x.freeze ho h3 h4 h5) (h2.rel ho h4)
  | ex c fs p => exact fun q => q
  | bad => exact fun q => q)⟩
/-- THE STEP: the first part's answer, then what follows with it -/
theorem step {K : PySem.W.Frag} {α β γ δ : Type} {E : XK} {R1 : Hp → Fz → Hp → α → β → Prop} {R2 : Hp → Fz → Hp → γ → δ → Prop} (dn : Down R2) {m : EX α} {k : α → EX γ} {σ : L2.St} {H : Hp} {Q : δ → Hp → Prop}
    (h : tR K A E R2 (EX.bind m k) σ H Q) :
    tR K A E R1 m σ H fun b H1 => ∃ a H0 Z0 Z Z1 p0 env p1, Stt K A H0 Z0 Z1 σ H1 env p1 ∧ Xst K A H0 Z0 Z H p0 ∧ Xst K A H Z Z1 H1 p1 ∧ R1 H Z1 H1 a b ∧ Post K A E R2 Z1 H1 (k a env p1) Q := by
  obtain ⟨H0, Z0, Z, env, p, s, q⟩ := h
  refine ⟨H0, Z0, Z, env, p, s, ?_⟩
  unfold EX.bind at q
  revert q
  cases m env p with
  | ok a p' => exact fun q b H' Z' x r => ⟨a, H0, Z0, Z, Z', p, env, p', s.after x, s.x, x, r, Post.shift dn q x⟩
  | ex c fs p => exact fun q => q
  | bad => exact fun q => q
/-- what was looked at stays as it was -/
theorem RlB.after {K : PySem.W.Frag} {H0 Hb H H1 : Hp} {Z0 Z Z1 : Fz} {p p1 : Pn} {d : D} {v : V} (h : RlB K A Hb Z H d v) (x : Xst K A H0 Z0 Z H p) (y : Xst K A H Z Z1 H1 p1) : RlB K A Hb Z1 H1 d v := by
  rcases h with h | ⟨a, h1, h2, h3⟩
  · exact .inl (h.mono y.le)
  · obtain ⟨o, ho, hb⟩ := h3.there
    have np : Z1.pa ≠ some a := fun z => by
      rcases y.pz a z with z | z
      · exact h2 z
      · rw [ho] at z; cases z
    exact .inr ⟨a, h1, np, h3.move y.le fun o' ho' => y.fr a o' ho' np (by rw [ho] at ho'; cases ho'; exact hb)⟩
theorem RlB.re {K : PySem.W.Frag} {Hb Hc H : Hp} {Z : Fz} {d : D} {v : V} (h : RlB K A Hb Z H d v) : RlB K A Hc Z H d v := h
end
end Mn

/-! MnB: rules for expressions. -/
namespace Mn
open PySem PySem.Spec PyProof.Rows L2

section
variable {A : Adr} {X : Cx} {K : PySem.W.Frag}

theorem pe_imp {e : Expr} {t t' : TE} (h : PE X e t) (f : ∀ σ H Q, t' σ H Q → t σ H Q) : PE X e t' := ⟨fun pins s σ H Q I q => h.run pins s σ H Q I (f _ _ _ q)⟩
theorem pt_imp {e : Expr} {t t' : TT} (h : PT X e t) (f : ∀ σ H Q, t' σ H Q → t σ H Q) : PT X e t' := ⟨fun pins s σ H Q I q => h.run pins s σ H Q I (f _ _ _ q)⟩
theorem pw_imp {e : Expr} {t t' : TT} (h : PW X e t) (f : ∀ σ H Q, t' σ H Q → t σ H Q) : PW X e t' := ⟨fun w pins s σ H Q I q => h.run w pins s σ H Q I (f _ _ _ q)⟩
theorem pa_imp {e : List Expr} {t t' : TA} (h : PA X e t) (f : ∀ σ H Q, t' σ H Q → t σ H Q) : PA X e t' := ⟨fun pos pins s σ H Q I q => h.run pos pins s σ H Q I (f _ _ _ q)⟩

theorem Post.mono {α β : Type} {E : XK} {Rl : Hp → Fz → Hp → α → β → Prop} {H : Hp} {Z : Fz} {r : R α} {Q Q' : β → Hp → Prop} (h : Post K A E Rl Z H r Q) (f : ∀ b H', Q b H' → Q' b H') : Post K A E Rl Z H r Q' := by
  cases r with
  | ok a p => exact fun b H' Z' x q => f _ _ (h b H' Z' x q)
  | ex c fs p => exact h
  | bad => exact h
/-- the first part, then the rest -/
theorem bindP {α β γ δ : Type} {E : XK} {R1 : Hp → Fz → Hp → α → β → Prop} {R2 : Hp → Fz → Hp → γ → δ → Prop} (dn : Down R2) {m : EX α} {k : α → EX γ} {H : Hp} {Z : Fz} {env : List Cell} {p : Pn} {Q : δ → Hp → Prop} {Q' : β → Hp → Prop}
    (h : Post K A E R2 Z H ((EX.bind m k) env p) Q) (f : ∀ b H1 a Z1 p1, Xst K A H Z Z1 H1 p1 → R1 H Z1 H1 a b → Post K A E R2 Z1 H1 (k a env p1) Q → Q' b H1) : Post K A E R1 Z H (m env p) Q' := by
  unfold EX.bind at h
  revert h
  cases m env p with
  | ok a p' => exact fun h b H' Z' x r => f b H' a Z' p' x r (Post.shift dn h x)
  | ex c fs p => exact fun h => h
  | bad => exact fun h => h
def lift {α : Type} (o : Option α) : EX α := fun _ p => match o with | some a => .ok a p | none => .bad
/-- the last part answers -/
theorem liftP {α β : Type} {E : XK} {Rl : Hp → Fz → Hp → α → β → Prop} {o : Option α} {H : Hp} {Z : Fz} {env : List Cell} {p : Pn} {Q : β → Hp → Prop} (h : Post K A E Rl Z H (lift o env p) Q) :
    ∃ a, o = some a ∧ ∀ b H' Z', Xst K A H Z Z' H' p → Rl H Z' H' a b → Q b H' := by
  cases o with
  | none => exact h.elim
  | some a => exact ⟨a, rfl, h⟩

/-! ### constants and names -/
def mC (d : D) : EX D := fun _ p => .ok d p
theorem se_c {e : Expr} {d : D} {v : V} (h : PE X e (tC v)) (r : ∀ Z, Rel X.K A Z d v) : SE A X e (mC d) := fun E _ => pe_imp h fun σ H Q ⟨H0, Z0, Z, env, p, s, q⟩ => q v H Z s.x.here (r Z)
theorem se_int {i j pos} : SE A X (.Constant (.int i) j pos) (mC (.int i)) := se_c pe_int fun _ => .int _
theorem se_bl {b j pos} : SE A X (.Constant (.bool b) j pos) (mC (.bl b)) := se_c pe_bl fun _ => .bl _
theorem se_non {j pos} : SE A X (.Constant .none j pos) (mC .non) := se_c pe_non fun _ => .non
theorem se_str {x j pos} : SE A X (.Constant (.str x) j pos) (mC (.str x)) := se_c pe_str fun _ => .str _
/-- a name whose value is kept -/
def mV (i : Nat) : EX D := fun env p => match env[i]? with | some (.val d) => .ok d p | _ => .bad
/-- .. is looked at -/
def mW (i : Nat) : EX D := fun env p => match env[i]? with | some (.val d) => .ok d p | some (.own d) => .ok d p | _ => .bad
theorem Stt.val {H0 H : Hp} {Z0 Z : Fz} {σ : L2.St} {env : List Cell} {p : Pn} (s : Stt K A H0 Z0 Z σ H env p) {i : Nat} {d : D} (h : env[i]? = some (.val d)) : ∃ v, σ[i]? = some (some v) ∧ Rel K A Z d v := by
  have hi : i < σ.length := by rw [← s.len]; exact (List.getElem?_eq_some_iff.mp h).1
  obtain ⟨v, h1, h2⟩ := s.cells i _ _ h (List.getElem?_eq_getElem hi)
  exact ⟨v, by rw [List.getElem?_eq_getElem hi, h1], h2⟩
theorem Stt.own {H0 H : Hp} {Z0 Z : Fz} {σ : L2.St} {env : List Cell} {p : Pn} (s : Stt K A H0 Z0 Z σ H env p) {i : Nat} {d : D} (h : env[i]? = some (.own d)) :
    ∃ a, σ[i]? = some (some (.ref a)) ∧ OwnAt K A Z H d a ∧ H0 a = none ∧ Z.F a = none ∧ Z.pa ≠ some a := by
  have hi : i < σ.length := by rw [← s.len]; exact (List.getElem?_eq_some_iff.mp h).1
  obtain ⟨a, h1, h2, h3, h4, h5⟩ := s.cells i _ _ h (List.getElem?_eq_getElem hi)
  exact ⟨a, by rw [List.getElem?_eq_getElem hi, h1], h2, h3, h4, h5⟩
theorem se_v {x : Str} {pos : Pos} (i : Nat) (hN : X.N[i]? = some x := by rfl) (hv : Vis X.env.scope x := by first | exact Or.inl rfl | exact Or.inr (Or.inl rfl) | exact Or.inr (Or.inr rfl)) (hd : (x == ("__debug__" : Str)) = false := by decide)
    (hcd : (x == ("__classdict__" : Str)) = false := by decide) : SE A X (.Name x pos) (mV i) := fun E _ => pe_imp (pe_var hN hv hd hcd) fun σ H Q ⟨H0, Z0, Z, env, p, s, q⟩ => by
  unfold mV at q
  cases h : env[i]? with
  | none => rw [h] at q; exact q.elim
  | some c =>
    rw [h] at q
    cases c with
    | no => exact q.elim
    | own d => exact q.elim
    | val d =>
      obtain ⟨v, h1, h2⟩ := s.val h
      exact ⟨v, h1, q v H Z s.x.here h2⟩
theorem sb_v {x : Str} {pos : Pos} (i : Nat) (hN : X.N[i]? = some x := by rfl) (hv : Vis X.env.scope x := by first | exact Or.inl rfl | exact Or.inr (Or.inl rfl) | exact Or.inr (Or.inr rfl)) (hd : (x == ("__debug__" : Str)) = false := by decide)
    (hcd : (x == ("__classdict__" : Str)) = false := by decide) : SB A X (.Name x pos) (mW i) := fun E _ => pe_imp (pe_var hN hv hd hcd) fun σ H Q ⟨H0, Z0, Z, env, p, s, q⟩ => by
  unfold mW at q
  cases h : env[i]? with
  | none => rw [h] at q; exact q.elim
  | some c =>
    rw [h] at q
    cases c with
    | no => exact q.elim
    | own d =>
      obtain ⟨a, h1, h2, h3, h4, h5⟩ := s.own h
      exact ⟨.ref a, h1, q _ H Z s.x.here (.inr ⟨a, rfl, h5, h2⟩)⟩
    | val d =>
      obtain ⟨v, h1, h2⟩ := s.val h
      exact ⟨v, h1, q v H Z s.x.here (.inl h2)⟩
/-- a def, a class, a module's constant -/
theorem se_glob {x : Str} {v : V} {u : Value} {d : D} {pos : Pos} (hg : Gl X x) (hm : X.mg x = some u) (r : RelV v u) (rd : ∀ Z, Rel X.K A Z d v) (hd : (x == ("__debug__" : Str)) = false := by decide) : SE A X (.Name x pos) (mC d) := se_c (pe_glob hg hm r hd) rd

/-! ### two operands -/
def m2 (f : D → D → Option D) (ma mb : EX D) : EX D := ma.bind fun x => mb.bind fun y => lift (f x y)
def m1 (f : D → Option D) (ma : EX D) : EX D := ma.bind fun x => lift (f x)
/-- r does what f says -/
structure Op2 (K : PySem.W.Frag) (A : Adr) (Rl : Hp → Fz → Hp → D → V → Prop) (f : D → D → Option D) (r : R2) : Prop where
  go : ∀ {H0 H : Hp} {Z0 Z : Fz} {p : Pn} {x y : V} {d e g : D} {Q : VK}, Xst K A H0 Z0 Z H p → RlB K A H Z H d x → RlB K A H Z H e y → f d e = some g → (∀ v H' Z', Xst K A H Z Z' H' p → Rl H Z' H' g v → Q v H') → r x y H Q
structure Op1 (K : PySem.W.Frag) (A : Adr) (Rl : Hp → Fz → Hp → D → V → Prop) (f : D → Option D) (r : V → Hp → VK → Prop) : Prop where
  go : ∀ {H0 H : Hp} {Z0 Z : Fz} {p : Pn} {x : V} {d g : D} {Q : VK}, Xst K A H0 Z0 Z H p → RlB K A H Z H d x → f d = some g → (∀ v H' Z', Xst K A H Z Z' H' p → Rl H Z' H' g v → Q v H') → r x H Q
section
variable {Rl : Hp → Fz → Hp → D → V → Prop} {f : D → D → Option D} {r : R2} {a b : Expr} {ma mb : EX D} {pos : Pos}
theorem two {E : XK} (dn : Down Rl) (hs : Op2 X.K A Rl f r) {σ : L2.St} {H : Hp} {Q : VK} (h : tR X.K A E Rl (m2 f ma mb) σ H Q) :
    tOp r (tR X.K A E (RlB X.K A) ma) (tR X.K A E (RlB X.K A) mb) σ H Q := by
  obtain ⟨H0, Z0, Z, env, p, s, q⟩ := h
  refine ⟨H0, Z0, Z, env, p, s, bindP dn q fun x H1 d Z1 p1 y1 r1 q1 => ?_⟩
  refine ⟨H0, Z0, Z1, env, p1, s.after y1, bindP dn q1 fun y H2 e Z2 p2 y2 r2 q2 => ?_⟩
  obtain ⟨g, hg, q3⟩ := liftP q2
  exact hs.go ((s.after y1).after y2).x (RlB.re (r1.after (s.after y1).x y2)) (RlB.re r2) hg q3
theorem one {E : XK} {f : D → Option D} {r : V → Hp → VK → Prop} (dn : Down Rl) (hs : Op1 X.K A Rl f r) {σ : L2.St} {H : Hp} {Q : VK} (h : tR X.K A E Rl (m1 f ma) σ H Q) :
    tUn r (tR X.K A E (RlB X.K A) ma) σ H Q := by
  obtain ⟨H0, Z0, Z, env, p, s, q⟩ := h
  refine ⟨H0, Z0, Z, env, p, s, bindP dn q fun x H1 d Z1 p1 y1 r1 q1 => ?_⟩
  obtain ⟨g, hg, q3⟩ := liftP q1
  exact hs.go (s.after y1).x (RlB.re r1) hg q3
theorem se_op {op : Operator} (ho : OpR X (binaryOp op) r) (hs : Op2 X.K A (RlE X.K A) f r) (ha : SB A X a ma) (hb : SB A X b mb) : SE A X (.BinOp a op b pos) (m2 f ma mb) := fun E tk => pe_imp (pe_op ho (ha E tk) (hb E tk)) fun _ _ _ h => two RlE.dn hs h
theorem so_op {op : Operator} (ho : OpR X (binaryOp op) r) (hs : Op2 X.K A (RlO X.K A) f r) (ha : SB A X a ma) (hb : SB A X b mb) : SO A X (.BinOp a op b pos) (m2 f ma mb) := fun E tk => pe_imp (pe_op ho (ha E tk) (hb E tk)) fun _ _ _ h => two RlO.dn hs h
theorem se_un {op : UnaryOp} {f : D → Option D} {r : V → Hp → VK → Prop} (ho : UnR X (unaryOp op) r) (hs : Op1 X.K A (RlE X.K A) f r) (ha : SB A X a ma) : SE A X (.UnaryOp op a pos) (m1 f ma) := fun E tk => pe_imp (pe_un ho (ha E tk)) fun _ _ _ h => one RlE.dn hs h
theorem se_cmp {op : CmpOp} (ho : OpR X (compareOp op) r) (hs : Op2 X.K A (RlE X.K A) f r) (ha : SB A X a ma) (hb : SB A X b mb) (hm : behindInMarks op b = false) : SE A X (.Compare a [op] [b] pos) (m2 f ma mb) := fun E tk => pe_imp (pe_cmpR ho (ha E tk) (hb E tk) hm) fun _ _ _ h => two RlE.dn hs h
theorem se_ix (hr : IxR X r) (hs : Op2 X.K A (RlE X.K A) f r) (ha : SB A X a ma) (hb : SB A X b mb) (hp : PlainIx b) : SE A X (.Subscript a b pos) (m2 f ma mb) := fun E tk => pe_imp (pe_ix hr (ha E tk) (hb E tk) hp) fun _ _ _ h => two RlE.dn hs h
end

/-! ### tests -/
def dBl : D → Option Bool
  | .bl b => some b
  | _ => none
def mT (m : EX D) : EX Bool := m.bind fun d => lift (dBl d)
theorem dBl_some {d : D} {b : Bool} (h : dBl d = some b) : d = .bl b := by
  cases d <;> simp [dBl] at h
  subst h; rfl
theorem bl_of {Z : Fz} {b : Bool} {v : V} (h : Rel K A Z (.bl b) v) : v = .bl b := by cases h; rfl
theorem blB_of {Hb H : Hp} {Z : Fz} {b : Bool} {v : V} (h : RlB K A Hb Z H (.bl b) v) : v = .bl b := by
  rcases h with h | ⟨_, _, _, h⟩
  · exact bl_of h
  · exact h.elim
theorem testP {E : XK} {m : EX D} {σ : L2.St} {H : Hp} {Q : Bool → Hp → Prop} (h : tR K A E RlT (mT m) σ H Q) : tR K A E (RlE K A) m σ H fun x H' => ∃ k, x = .bl k ∧ Q k H' := by
  obtain ⟨H0, Z0, Z, env, p, s, q⟩ := h
  refine ⟨H0, Z0, Z, env, p, s, bindP RlT.dn q fun x H1 d Z1 p1 y1 r1 q1 => ?_⟩
  obtain ⟨b, hb, q2⟩ := liftP q1
  rw [dBl_some hb] at r1
  exact ⟨b, bl_of r1, q2 b H1 Z1 (s.after y1).x.here rfl⟩
theorem st_cmp {f : D → D → Option D} {r : R2} {a b : Expr} {ma mb : EX D} {pos : Pos} {op : CmpOp} (ho : OpR X (compareOp op) r) (hs : Op2 X.K A (RlE X.K A) f r) (ha : SB A X a ma) (hb : SB A X b mb) (hm : behindInMarks op b = false) : STt A X (.Compare a [op] [b] pos) (mT (m2 f ma mb)) :=
  fun E tk => pt_imp (pt_cmpR ho (ha E tk) (hb E tk) hm) fun σ H Q h => two (Q := fun x H' => ∃ k, x = .bl k ∧ Q k H') RlE.dn hs (testP h)
/-- an expression that gives True or False -/
theorem st_val {e : Expr} {m : EX D} (h : SE A X e m) (he : ∀ whole, isTrue e X.env whole = (do let v ← whole; standAt e.pos; holding [v] (truthy v)) := by intro _; rfl) : STt A X e (mT m) :=
  fun E tk => pt_imp (pt_val (h E tk) he) fun σ H Q h => testP h
def dTru : D → Option Bool
  | .non => some false
  | .bl b => some b
  | .int i => some (i != 0)
  | .str x => if x.length ≤ sizeLine then some ((x.length : Int) != 0) else none
  | .lst ds => some (!ds.isEmpty)
  | .tup ds => some (!ds.isEmpty)
  | .dct ds => some (!ds.isEmpty)
  | _ => none
def mTru (m : EX D) : EX Bool := m.bind fun d => lift (dTru d)
theorem RelAll.isEmpty {Z : Fz} {ds : List D} {vs : List V} (r : RelAll K A Z ds vs) : (!ds.isEmpty) = !vs.isEmpty := by cases r <;> rfl
theorem RelKV.isEmpty {Z : Fz} {ds : List (Key × D)} {vs : List (Key × V)} (r : RelKV K A Z ds vs) : (!ds.isEmpty) = !vs.isEmpty := by cases r <;> rfl
theorem SqT.sub {H0 H : Hp} {Z0 Z : Fz} {p : Pn} (x : Xst K A H0 Z0 Z H p) {a : Addr} {vs : List V} (h : SqT K Z.F a vs) : SqT K H a vs := SqT.mono x.sub h
theorem SqL.sub {H0 H : Hp} {Z0 Z : Fz} {p : Pn} (x : Xst K A H0 Z0 Z H p) {a : Addr} {vs : List V} (h : SqL K Z.F a vs) : SqL K H a vs := SqL.mono x.sub h
/-- a list that is looked at -/
theorem RlB.lst {Hb H0 H : Hp} {Z0 Z : Fz} {p : Pn} {ds : List D} {v : V} (x : Xst K A H0 Z0 Z H p) (h : RlB K A Hb Z H (.lst ds) v) : ∃ a vs, v = .ref a ∧ H a = some (.lst vs) ∧ RelAll K A Z ds vs := by
  rcases h with h | ⟨a, h1, h2, vs, h3, h4⟩
  · cases h with
    | lst h r => exact ⟨_, _, rfl, x.sub _ _ h, r⟩
  · exact ⟨a, vs, h1, h3, h4⟩
theorem RlB.dct {Hb H0 H : Hp} {Z0 Z : Fz} {p : Pn} {ds : List (Key × D)} {v : V} (x : Xst K A H0 Z0 Z H p) (h : RlB K A Hb Z H (.dct ds) v) : ∃ a vs, v = .ref a ∧ H a = some (.dK vs) ∧ RelKV K A Z ds vs := by
  rcases h with h | ⟨a, h1, h2, vs, h3, h4⟩
  · cases h with
    | dct h r => exact ⟨_, _, rfl, x.sub _ _ h, r⟩
  · exact ⟨a, vs, h1, h3, h4⟩
theorem RlB.tup {Hb H0 H : Hp} {Z0 Z : Fz} {p : Pn} {ds : List D} {v : V} (x : Xst K A H0 Z0 Z H p) (h : RlB K A Hb Z H (.tup ds) v) : ∃ a vs, v = .ref a ∧ SqT K H a vs ∧ RelAll K A Z ds vs ∧ Rel K A Z (.tup ds) v := by
  rcases h with h | ⟨a, h1, h2, h3⟩
  · cases h with
    | tup h r => exact ⟨_, _, rfl, SqT.sub x h, r, .tup h r⟩
  · exact h3.elim
theorem RlB.scr {Hb H0 H : Hp} {Z0 Z : Fz} {p : Pn} {ns : List Int} {v : V} (x : Xst K A H0 Z0 Z H p) (h : RlB K A Hb Z H (.scr ns) v) : ∃ a, v = .ref a ∧ SqL K H a (ns.map V.int) := by
  rcases h with h | ⟨a, h1, h2, h3⟩
  · cases h with
    | scr h => exact ⟨_, rfl, SqL.sub x h⟩
  · exact h3.elim
theorem RlB.int {Hb H : Hp} {Z : Fz} {i : Int} {v : V} (h : RlB K A Hb Z H (.int i) v) : v = .int i := by
  rcases h with h | ⟨_, _, _, h⟩
  · cases h; rfl
  · exact h.elim
theorem RlB.str {Hb H : Hp} {Z : Fz} {i : Str} {v : V} (h : RlB K A Hb Z H (.str i) v) : v = .str i := by
  rcases h with h | ⟨_, _, _, h⟩
  · cases h; rfl
  · exact h.elim
theorem RlB.non {Hb H : Hp} {Z : Fz} {v : V} (h : RlB K A Hb Z H .non v) : v = .non := by
  rcases h with h | ⟨_, _, _, h⟩
  · cases h; rfl
  · exact h.elim
theorem dTru_ok {H0 H : Hp} {Z0 Z : Fz} {p : Pn} {d : D} {v : V} {b : Bool} (x : Xst K A H0 Z0 Z H p) (h : RlB K A H Z H d v) (e : dTru d = some b) : TruV K v H b := by
  cases d with
  | non =>
    rw [h.non]
    show b = false
    simp only [dTru, Option.some.injEq] at e
    exact e.symm
  | bl c => rw [blB_of h]; simp [dTru] at e; exact e.symm
  | int i => rw [h.int]; simp only [dTru, Option.some.injEq] at e; exact e.symm
  | str s =>
    rw [h.str]
    simp only [dTru] at e
    split at e
    · rename_i hl; cases e; exact ⟨hl, rfl⟩
    · cases e
  | lst ds =>
    obtain ⟨a, vs, rfl, h1, h2⟩ := h.lst x
    simp only [dTru, Option.some.injEq] at e
    exact .inl ⟨vs, SqL.of h1, by rw [← e]; exact h2.isEmpty⟩
  | tup ds =>
    obtain ⟨a, vs, rfl, h1, h2, _⟩ := h.tup x
    simp only [dTru, Option.some.injEq] at e
    exact .inr (.inl ⟨vs, h1, by rw [← e]; exact h2.isEmpty⟩)
  | dct ds =>
    obtain ⟨a, vs, rfl, h1, h2⟩ := h.dct x
    simp only [dTru, Option.some.injEq] at e
    exact .inr (.inr ⟨vs, h1, by rw [← e]; exact h2.isEmpty⟩)
  | _ => simp [dTru] at e
theorem st_tru {e : Expr} {m : EX D} (h : SB A X e m) (he : ∀ whole, isTrue e X.env whole = (do let v ← whole; standAt e.pos; holding [v] (truthy v)) := by intro _; rfl) : STt A X e (mTru m) :=
  fun E tk => pt_imp (pt_truth (h E tk) he) fun σ H Q h => by
    obtain ⟨H0, Z0, Z, env, p, s, q⟩ := h
    refine ⟨H0, Z0, Z, env, p, s, bindP RlT.dn q fun x H1 d Z1 p1 y1 r1 q1 => ?_⟩
    obtain ⟨b, hb, q2⟩ := liftP q1
    exact ⟨b, dTru_ok (s.after y1).x (RlB.re r1) hb, q2 b H1 Z1 (s.after y1).x.here rfl⟩
def mNot (m : EX Bool) : EX Bool := m.bind fun b => fun _ p => .ok (!b) p
def mAnd (m k : EX Bool) : EX Bool := m.bind fun b => if b then k else fun _ p => .ok false p
def mOr (m k : EX Bool) : EX Bool := m.bind fun b => if b then fun _ p => .ok true p else k
theorem st_not {a : Expr} {m : EX Bool} {pos : Pos} (h : STt A X a m) : STt A X (.UnaryOp .Not a pos) (mNot m) := fun E tk => pt_imp (pt_not (h E tk)) fun σ H Q h => by
  obtain ⟨H0, Z0, Z, env, p, s, q⟩ := h
  exact ⟨H0, Z0, Z, env, p, s, bindP RlT.dn q fun x H1 d Z1 p1 y1 r1 q1 => by
    cases (show d = x from r1); exact q1 (!x) H1 Z1 (s.after y1).x.here rfl⟩
theorem sw_and1 {a : Expr} {m : EX Bool} {pos : Pos} (h : STt A X a m) : STw A X (.BoolOp .And [a] pos) m := fun E tk => pw_and1 (h E tk)
theorem sw_or1 {a : Expr} {m : EX Bool} {pos : Pos} (h : STt A X a m) : STw A X (.BoolOp .Or [a] pos) m := fun E tk => pw_or1 (h E tk)
theorem sw_and {a b : Expr} {rest : List Expr} {m k : EX Bool} {pos : Pos} (h : STt A X a m) (hk : STw A X (.BoolOp .And (b :: rest) pos) k) : STw A X (.BoolOp .And (a :: b :: rest) pos) (mAnd m k) := fun E tk => pw_imp (pw_and (h E tk) (hk E tk)) fun σ H Q h => by
  obtain ⟨H0, Z0, Z, env, p, s, q⟩ := h
  exact ⟨H0, Z0, Z, env, p, s, bindP RlT.dn q fun x H1 d Z1 p1 y1 r1 q1 => by
    cases (show d = x from r1)
    cases x with
    | true => rw [if_pos rfl]; exact ⟨H0, Z0, Z1, env, p1, s.after y1, q1⟩
    | false => rw [if_neg Bool.false_ne_true]; exact q1 false H1 Z1 (s.after y1).x.here rfl⟩
theorem sw_or {a b : Expr} {rest : List Expr} {m k : EX Bool} {pos : Pos} (h : STt A X a m) (hk : STw A X (.BoolOp .Or (b :: rest) pos) k) : STw A X (.BoolOp .Or (a :: b :: rest) pos) (mOr m k) := fun E tk => pw_imp (pw_or (h E tk) (hk E tk)) fun σ H Q h => by
  obtain ⟨H0, Z0, Z, env, p, s, q⟩ := h
  exact ⟨H0, Z0, Z, env, p, s, bindP RlT.dn q fun x H1 d Z1 p1 y1 r1 q1 => by
    cases (show d = x from r1)
    cases x with
    | true => rw [if_pos rfl]; exact q1 true H1 Z1 (s.after y1).x.here rfl
    | false => rw [if_neg Bool.false_ne_true]; exact ⟨H0, Z0, Z1, env, p1, s.after y1, q1⟩⟩
theorem st_w {e : Expr} {m : EX Bool} (h : STw A X e m) : STt A X e m := fun E tk => PW.pt (h E tk)
/-- a and b, a or b, not a as values: all but the last are True or False -/
def mAndV (m k : EX D) : EX D := m.bind fun d => match d with | .bl true => k | .bl false => mC (.bl false) | _ => EX.bad
def mOrV (m k : EX D) : EX D := m.bind fun d => match d with | .bl true => mC (.bl true) | .bl false => k | _ => EX.bad
theorem se_one {op} {a : Expr} {m : EX D} {pos : Pos} (h : SE A X a m) : SE A X (.BoolOp op [a] pos) m := fun E tk => pe_one (h E tk)
theorem se_and {a b : Expr} {rest : List Expr} {m k : EX D} {pos : Pos} (h : SE A X a m) (hk : SE A X (.BoolOp .And (b :: rest) pos) k) : SE A X (.BoolOp .And (a :: b :: rest) pos) (mAndV m k) := fun E tk => pe_imp (pe_and (h E tk) (hk E tk)) fun σ H Q h => by
  obtain ⟨H0, Z0, Z, env, p, s, q⟩ := h
  refine ⟨H0, Z0, Z, env, p, s, bindP RlE.dn q fun x H1 d Z1 p1 y1 r1 q1 => ?_⟩
  cases d <;> first | exact q1.elim | skip
  rename_i b
  cases b with
  | true => exact ⟨true, bl_of r1, by rw [if_pos rfl]; exact ⟨H0, Z0, Z1, env, p1, s.after y1, q1⟩⟩
  | false => exact ⟨false, bl_of r1, by rw [if_neg Bool.false_ne_true]; exact q1 _ H1 Z1 (s.after y1).x.here (.bl _)⟩
theorem se_or {a b : Expr} {rest : List Expr} {m k : EX D} {pos : Pos} (h : SE A X a m) (hk : SE A X (.BoolOp .Or (b :: rest) pos) k) : SE A X (.BoolOp .Or (a :: b :: rest) pos) (mOrV m k) := fun E tk => pe_imp (pe_or (h E tk) (hk E tk)) fun σ H Q h => by
  obtain ⟨H0, Z0, Z, env, p, s, q⟩ := h
  refine ⟨H0, Z0, Z, env, p, s, bindP RlE.dn q fun x H1 d Z1 p1 y1 r1 q1 => ?_⟩
  cases d <;> first | exact q1.elim | skip
  rename_i b
  cases b with
  | true => exact ⟨true, bl_of r1, by rw [if_pos rfl]; exact q1 _ H1 Z1 (s.after y1).x.here (.bl _)⟩
  | false => exact ⟨false, bl_of r1, by rw [if_neg Bool.false_ne_true]; exact ⟨H0, Z0, Z1, env, p1, s.after y1, q1⟩⟩
def dNot : D → Option D
  | .bl b => some (.bl (!b))
  | _ => none
theorem se_not {a : Expr} {m : EX D} {pos : Pos} (h : SE A X a m) : SE A X (.UnaryOp .Not a pos) (m1 dNot m) := fun E tk => pe_imp (pe_not (h E tk)) fun σ H Q h => by
  obtain ⟨H0, Z0, Z, env, p, s, q⟩ := h
  refine ⟨H0, Z0, Z, env, p, s, bindP RlE.dn q fun x H1 d Z1 p1 y1 r1 q1 => ?_⟩
  obtain ⟨g, hg, q2⟩ := liftP q1
  cases d <;> simp [dNot] at hg
  subst hg
  exact ⟨_, bl_of r1, q2 _ H1 Z1 (s.after y1).x.here (.bl _)⟩
def mIf {α : Type} (t : EX Bool) (a b : EX α) : EX α := t.bind fun c => if c then a else b
theorem s_ifE {Rl : Hp → Fz → Hp → D → V → Prop} (dn : Down Rl) {c a b : Expr} {mc : EX Bool} {ma mb : EX D} {pos : Pos} (hc : STt A X c mc) (ha : ∀ E, Tk X E → PE X a (tR X.K A E Rl ma)) (hb : ∀ E, Tk X E → PE X b (tR X.K A E Rl mb)) : ∀ E, Tk X E → PE X (.IfExp c a b pos) (tR X.K A E Rl (mIf mc ma mb)) := fun E tk => pe_imp (pe_ifExp (hc E tk) (ha E tk) (hb E tk)) fun σ H Q h => by
  obtain ⟨H0, Z0, Z, env, p, s, q⟩ := h
  refine ⟨H0, Z0, Z, env, p, s, bindP dn q fun x H1 d Z1 p1 y1 r1 q1 => ?_⟩
  cases (show d = x from r1)
  cases x with
  | true => rw [if_pos rfl]; exact ⟨H0, Z0, Z1, env, p1, s.after y1, q1⟩
  | false => rw [if_neg Bool.false_ne_true]; exact ⟨H0, Z0, Z1, env, p1, s.after y1, q1⟩
theorem se_if {c a b : Expr} {mc : EX Bool} {ma mb : EX D} {pos : Pos} (hc : STt A X c mc) (ha : SE A X a ma) (hb : SE A X b mb) : SE A X (.IfExp c a b pos) (mIf mc ma mb) := s_ifE RlE.dn hc ha hb
theorem sb_if {c a b : Expr} {mc : EX Bool} {ma mb : EX D} {pos : Pos} (hc : STt A X c mc) (ha : SB A X a ma) (hb : SB A X b mb) : SB A X (.IfExp c a b pos) (mIf mc ma mb) := s_ifE RlB.dn hc ha hb
theorem so_if {c a b : Expr} {mc : EX Bool} {ma mb : EX D} {pos : Pos} (hc : STt A X c mc) (ha : SO A X a ma) (hb : SO A X b mb) : SO A X (.IfExp c a b pos) (mIf mc ma mb) := s_ifE RlO.dn hc ha hb

/-! ### lists of expressions, displays -/
def mNil : EX (List D) := fun _ p => .ok [] p
def mCons (m : EX D) (k : EX (List D)) : EX (List D) := m.bind fun x => k.bind fun xs => fun _ p => .ok (x :: xs) p
theorem sa_nil : SA A X [] mNil := fun E _ => pa_imp pa_nil fun σ H Q ⟨H0, Z0, Z, env, p, s, q⟩ => q [] H Z s.x.here .nil
theorem sa_cons {e : Expr} {es : List Expr} {m : EX D} {k : EX (List D)} (h : SE A X e m) (hk : SA A X es k) (hs : starEach (e :: es) X.env = (false, eval e X.env) :: starEach es X.env := by rfl) : SA A X (e :: es) (mCons m k) := fun E tk => pa_imp (pa_cons (h E tk) (hk E tk) hs) fun σ H Q h => by
  obtain ⟨H0, Z0, Z, env, p, s, q⟩ := h
  refine ⟨H0, Z0, Z, env, p, s, bindP RlA.dn q fun x H1 d Z1 p1 y1 r1 q1 => ?_⟩
  refine ⟨H0, Z0, Z1, env, p1, s.after y1, bindP RlA.dn q1 fun y H2 e Z2 p2 y2 r2 q2 => ?_⟩
  exact q2 _ H2 Z2 ((s.after y1).after y2).x.here (.cons (r1.mono y2.le) r2)
theorem sab_nil : SAB A X [] mNil := fun E _ => pa_imp pa_nil fun σ H Q ⟨H0, Z0, Z, env, p, s, q⟩ => q [] H Z s.x.here .nil
theorem sab_cons {e : Expr} {es : List Expr} {m : EX D} {k : EX (List D)} (h : SB A X e m) (hk : SAB A X es k) (hs : starEach (e :: es) X.env = (false, eval e X.env) :: starEach es X.env := by rfl) : SAB A X (e :: es) (mCons m k) := fun E tk => pa_imp (pa_cons (h E tk) (hk E tk) hs) fun σ H Q h => by
  obtain ⟨H0, Z0, Z, env, p, s, q⟩ := h
  refine ⟨H0, Z0, Z, env, p, s, bindP RlAB.dn q fun x H1 d Z1 p1 y1 r1 q1 => ?_⟩
  refine ⟨H0, Z0, Z1, env, p1, s.after y1, bindP RlAB.dn q1 fun y H2 e Z2 p2 y2 r2 q2 => ?_⟩
  exact q2 _ H2 Z2 ((s.after y1).after y2).x.here (.cons (RlB.re (r1.after (s.after y1).x y2)) r2)
def dTup (ds : List D) : Option D := if ds.length ≤ sizeLine then some (.tup ds) else none
def dLst (ds : List D) : Option D := if ds.length ≤ sizeLine then some (.lst ds) else none
def mTup (m : EX (List D)) : EX D := m.bind fun ds => lift (dTup ds)
def mLst (m : EX (List D)) : EX D := m.bind fun ds => lift (dLst ds)
theorem se_tup {es : List Expr} {x1 pos} {m : EX (List D)} (h : SA A X es m) : SE A X (.Tuple es x1 pos) (mTup m) := fun E tk => pe_imp (pe_tup (h E tk)) fun σ H Q h => by
  obtain ⟨H0, Z0, Z, env, p, s, q⟩ := h
  refine ⟨H0, Z0, Z, env, p, s, bindP RlE.dn q fun x H1 d Z1 p1 y1 r1 q1 => ?_⟩
  obtain ⟨g, hg, q2⟩ := liftP q1
  simp only [dTup] at hg
  split at hg
  · rename_i hl
    cases hg
    refine ⟨by rw [← RelAll.length r1]; exact hl, fun l hl' => ?_⟩
    have x2 := (s.after y1).x.here.frozen (o := .tup x) hl'
    exact q2 _ _ _ x2 (.tup (a := l) (SqT.of (by show upd Z1.F l _ l = _; exact upd_same)) (r1.mono (le_upd (by
      cases e : Z1.F l with
      | none => rfl
      | some u => rw [(s.after y1).x.sub _ _ e] at hl'; cases hl'))))
  · cases hg
theorem Xst.fnone {H0 H : Hp} {Z0 Z : Fz} {p : Pn} (x : Xst K A H0 Z0 Z H p) {a : Addr} (h : H a = none) : Z.F a = none := by
  cases e : Z.F a with
  | none => rfl
  | some u => rw [x.sub _ _ e] at h; cases h
theorem Xst.pnone {H0 H : Hp} {Z0 Z : Fz} {p : Pn} (x : Xst K A H0 Z0 Z H p) {a : Addr} (h : H a = none) : Z.pa ≠ some a := fun e => by
  have hp := x.pen
  cases p with
  | none => have hp' : Z.pa = none := hp; rw [hp'] at e; cases e
  | some r =>
    obtain ⟨b, h1, h2, ac, h3, _⟩ := hp
    rw [e] at h1; cases h1
    rw [h] at h3; cases h3
/-- a new list of one's own -/
theorem Xst.newL {H0 H : Hp} {Z0 Z : Fz} {p : Pn} (x : Xst K A H0 Z0 Z H p) {l : Addr} {vs : List V} {ds : List D} (hl : H l = none) (r : RelAll K A Z ds vs) : Xst K A H Z Z (upd H l (.lst vs)) p ∧ RlO K A H Z (upd H l (.lst vs)) (.lst ds) (.ref l) :=
  ⟨x.here.fresh hl, l, rfl, ⟨vs, upd_same, r⟩, hl, x.fnone hl, x.pnone hl⟩
/-- a new tuple -/
theorem Xst.newT {H0 H : Hp} {Z0 Z : Fz} {p : Pn} (x : Xst K A H0 Z0 Z H p) {l : Addr} {vs : List V} {ds : List D} (hl : H l = none) (r : RelAll K A Z ds vs) : Xst K A H Z ⟨upd Z.F l (.tup vs), Z.pa⟩ (upd H l (.tup vs)) p ∧ Rel K A ⟨upd Z.F l (.tup vs), Z.pa⟩ (.tup ds) (.ref l) :=
  ⟨x.here.frozen hl, .tup (a := l) (SqT.of (by show upd Z.F l _ l = _; exact upd_same)) (r.mono (le_upd (x.fnone hl)))⟩
theorem so_lst {es : List Expr} {pos} {m : EX (List D)} (h : SA A X es m) : SO A X (.List es pos) (mLst m) := fun E tk => pe_imp (pe_lst (h E tk)) fun σ H Q h => by
  obtain ⟨H0, Z0, Z, env, p, s, q⟩ := h
  refine ⟨H0, Z0, Z, env, p, s, bindP RlO.dn q fun x H1 d Z1 p1 y1 r1 q1 => ?_⟩
  obtain ⟨g, hg, q2⟩ := liftP q1
  simp only [dLst] at hg
  split at hg
  · rename_i hl
    cases hg
    refine ⟨by rw [← RelAll.length r1]; exact hl, fun l hl' => ?_⟩
    obtain ⟨x2, o2⟩ := (s.after y1).x.newL hl' r1
    exact q2 _ _ _ x2 o2
  · cases hg
end
end Mn

/-! MnC: operators, comparisons, subscripts, calls of what is built in. -/
namespace Mn
open PySem PySem.Spec PyProof.Rows L2

/-! ### what the operators do -/
def mulOk (i j : Int) : Bool := decide ((Builtin.Int.intBits i : Int) + (Builtin.Int.intBits j : Int) ≤ 134217728)
theorem mulOk_x {i j : Int} (h : mulOk i j = true) : CMulX i j := of_decide_eq_true (p := (Builtin.Int.intBits i : Int) + (Builtin.Int.intBits j : Int) ≤ 134217728) h
def dAdd : D → D → Option D
  | .int i, .int j => some (.int (i + j))
  | .str x, .str y => if x.length + y.length ≤ sizeLine then some (.str (x ++ y)) else none
  | .tup x, .tup y => if x ≠ [] ∧ x.length + y.length ≤ sizeLine then some (.tup (x ++ y)) else none
  | _, _ => none
/-- of two lists: a new one -/
def dCat : D → D → Option D
  | .lst x, .lst y => if x.length + y.length ≤ sizeLine then some (.lst (x ++ y)) else none
  | _, _ => none
def dSub : D → D → Option D
  | .int i, .int j => some (.int (i - j))
  | _, _ => none
def dMul : D → D → Option D
  | .int i, .int j => if mulOk i j then some (.int (i * j)) else none
  | _, _ => none
/-- a list, so many times -/
def dRep : D → D → Option D
  | .lst x, .int k => if -(2 ^ 63) ≤ k ∧ k < 2 ^ 63 ∧ x.length * k.toNat ≤ sizeLine then some (.lst (List.replicate k.toNat x).flatten) else none
  | _, _ => none
def dDiv : D → D → Option D
  | .int i, .int j => if j ≠ 0 ∧ Builtin.divisionGoesByPylong i j = false then some (.int (i.fdiv j)) else none
  | _, _ => none
def dMod : D → D → Option D
  | .int i, .int j => if j ≠ 0 then some (.int (i.fmod j)) else none
  | _, _ => none
def dPow : D → D → Option D
  | .int i, .int j => if 0 ≤ j ∧ j ≤ 1000000 ∧ i.natAbs < 2 ^ 64 then some (.int (i ^ j.toNat)) else none
  | _, _ => none
def dNeg : D → Option D
  | .int i => some (.int (-i))
  | _ => none
mutual
def toPy : D → Option PyData
  | .non => some .none
  | .bl b => some (.bool b)
  | .int i => some (.int i)
  | .str x => some (.str x)
  | .lst ds => (toPyAll ds).map .list
  | .tup ds => (toPyAll ds).map .tuple
  | _ => none
def toPyAll : List D → Option (List PyData)
  | [] => some []
  | d :: ds => (toPy d).bind fun a => (toPyAll ds).map (a :: ·)
end
def eqD (x y : D) : Option Bool := (toPy x).bind fun a => (toPy y).bind fun b => if SeqAt.shaped a && SeqAt.shaped b then some (PyData.eqv a b) else none
def dEq (x y : D) : Option D := (eqD x y).map .bl
def dNe (x y : D) : Option D := (eqD x y).map fun b => .bl (!b)
def dLt : D → D → Option D
  | .int i, .int j => some (.bl (decide (i < j)))
  | _, _ => none
def dLe : D → D → Option D
  | .int i, .int j => some (.bl (decide (i ≤ j)))
  | _, _ => none
def dGt : D → D → Option D
  | .int i, .int j => some (.bl (decide (j < i)))
  | _, _ => none
def dGe : D → D → Option D
  | .int i, .int j => some (.bl (decide (j ≤ i)))
  | _, _ => none
def isNon : D → Bool
  | .non => true
  | _ => false
def dIsN (d _e : D) : Option D := some (.bl (isNon d))
def dNotN (d _e : D) : Option D := some (.bl (!isNon d))
def dIx : D → D → Option D
  | .lst ds, .int i => atI ds i
  | .tup ds, .int i => atI ds i
  | .scr ns, .int i => (atI ns i).map .int
  | .str x, .int i => if x.length ≤ sizeLine then (atI x.cps.toList i).map fun c => .str ⟨#[c]⟩ else none
  | _, _ => none

section
variable {A : Adr} {X : Cx} {K : PySem.W.Frag}
theorem op1_mk {Rl : Hp → Fz → Hp → D → V → Prop} {f : D → Option D} {r : V → Hp → VK → Prop} (h : ∀ (H0 H : Hp) (Z0 Z : Fz) (p : Pn) (x : V) (d g : D) (Q : VK), Xst K A H0 Z0 Z H p → RlB K A H Z H d x → f d = some g → (∀ v H' Z', Xst K A H Z Z' H' p → Rl H Z' H' g v → Q v H') → r x H Q) : Op1 K A Rl f r := ⟨fun {H0 H Z0 Z p x d g Q} a b c q => h H0 H Z0 Z p x d g Q a b c q⟩
theorem op2_mk {Rl : Hp → Fz → Hp → D → V → Prop} {f : D → D → Option D} {r : R2} (h : ∀ (H0 H : Hp) (Z0 Z : Fz) (p : Pn) (x y : V) (d e g : D) (Q : VK), Xst K A H0 Z0 Z H p → RlB K A H Z H d x → RlB K A H Z H e y → f d e = some g → (∀ v H' Z', Xst K A H Z Z' H' p → Rl H Z' H' g v → Q v H') → r x y H Q) : Op2 K A Rl f r := ⟨fun {H0 H Z0 Z p x y d e g Q} a b b' c q => h H0 H Z0 Z p x y d e g Q a b b' c q⟩
theorem Rel.int_of {Z : Fz} {i : Int} {v : V} (h : Rel K A Z (.int i) v) : v = .int i := by cases h; rfl
/-! ### ints -/
theorem o2_int {f : D → D → Option D} {g : Int → Int → Int} {C : Int → Int → Prop} (hf : ∀ d e w, f d e = some w → ∃ i j, d = .int i ∧ e = .int j ∧ C i j ∧ w = .int (g i j)) : Op2 K A (RlE K A) f (rI C fun i j => .int (g i j)) := by
  refine ⟨?_⟩
  intro H0 H Z0 Z p x y d e w Q xs rx ry hw q
  obtain ⟨i, j, rfl, rfl, hc, rfl⟩ := hf _ _ _ hw
  exact ⟨i, j, rx.int, ry.int, hc, q _ H Z xs.here (.int _)⟩
theorem o2_int0 {f : D → D → Option D} {g : Int → Int → Int} (hf : ∀ d e w, f d e = some w → ∃ i j, d = .int i ∧ e = .int j ∧ w = .int (g i j)) : Op2 K A (RlE K A) f (rI0 fun i j => .int (g i j)) := by
  refine ⟨?_⟩
  intro H0 H Z0 Z p x y d e w Q xs rx ry hw q
  obtain ⟨i, j, rfl, rfl, rfl⟩ := hf _ _ _ hw
  exact ⟨i, j, rx.int, ry.int, q _ H Z xs.here (.int _)⟩
theorem o2_intB {f : D → D → Option D} {g : Int → Int → Bool} (hf : ∀ d e w, f d e = some w → ∃ i j, d = .int i ∧ e = .int j ∧ w = .bl (g i j)) : Op2 K A (RlE K A) f (rI0 fun i j => .bl (g i j)) := by
  refine ⟨?_⟩
  intro H0 H Z0 Z p x y d e w Q xs rx ry hw q
  obtain ⟨i, j, rfl, rfl, rfl⟩ := hf _ _ _ hw
  exact ⟨i, j, rx.int, ry.int, q _ H Z xs.here (.bl _)⟩
/-- of two ways that which is met -/
theorem Op2.or {Rl : Hp → Fz → Hp → D → V → Prop} {f g h : D → D → Option D} {r r' : R2} (a : Op2 K A Rl f r) (b : Op2 K A Rl g r') (hf : ∀ d e w, h d e = some w → f d e = some w ∨ g d e = some w) : Op2 K A Rl h (fun x y H Q => r x y H Q ∨ r' x y H Q) := by
  refine ⟨?_⟩
  intro H0 H Z0 Z p x y d e w Q xs rx ry hw q
  rcases hf _ _ _ hw with z | z
  · exact .inl (a.go xs rx ry z q)
  · exact .inr (b.go xs rx ry z q)
abbrev rAddS : R2 := fun x y H Q => ∃ i j, x = .str i ∧ y = .str j ∧ i.length + j.length ≤ sizeLine ∧ Q (.str (i ++ j)) H
theorem op_addA : OpR X (binaryOp .Add) (fun x y H Q => (rI0 fun i j => .int (i + j)) x y H Q ∨ (rAddS x y H Q ∨ rCatT X.K x y H Q)) := op_add.or (op_add_str.or op_catT)
theorem RelAll.nil_iff {Z : Fz} {ds : List D} {vs : List V} (r : RelAll K A Z ds vs) : vs = [] ↔ ds = [] := by cases r <;> simp
theorem o2_add : Op2 K A (RlE K A) dAdd (fun x y H Q => (rI0 fun i j => .int (i + j)) x y H Q ∨ (rAddS x y H Q ∨ rCatT K x y H Q)) := by
  refine ⟨?_⟩
  intro H0 H Z0 Z p x y d e w Q xs rx ry hw q
  cases d <;> cases e <;> simp only [dAdd, reduceCtorEq] at hw
  · cases hw
    exact .inl ⟨_, _, rx.int, ry.int, q _ H Z xs.here (.int _)⟩
  · split at hw
    · rename_i hl
      cases hw
      exact .inr (.inl ⟨_, _, rx.str, ry.str, hl, q _ H Z xs.here (.str _)⟩)
    · cases hw
  · split at hw
    · rename_i hl
      cases hw
      obtain ⟨a, vs, rfl, h1, h2, h3⟩ := rx.tup xs
      obtain ⟨b, ws, rfl, k1, k2, _⟩ := ry.tup xs
      refine .inr (.inr ⟨a, b, vs, ws, rfl, rfl, h1, k1, fun z => hl.1 (h2.nil_iff.mp z), by rw [← h2.length, ← k2.length]; exact hl.2, fun z => ?_, fun _ l hl' => ?_⟩)
      · have z' := k2.nil_iff.mp z
        subst z'
        rw [List.append_nil] at q
        exact q _ H Z xs.here h3
      · obtain ⟨x2, r2⟩ := xs.newT hl' (h2.append k2)
        exact q _ _ _ x2 r2
    · cases hw
theorem se_add {a b : Expr} {ma mb : EX D} {pos : Pos} (ha : SB A X a ma) (hb : SB A X b mb) : SE A X (.BinOp a .Add b pos) (m2 dAdd ma mb) := se_op op_addA o2_add ha hb
theorem o2_cat : Op2 K A (RlO K A) dCat rCat := by
  refine ⟨?_⟩
  intro H0 H Z0 Z p x y d e w Q xs rx ry hw q
  cases d <;> cases e <;> simp only [dCat, reduceCtorEq] at hw
  split at hw
  · rename_i hl
    cases hw
    obtain ⟨a, vs, rfl, h1, h2⟩ := rx.lst xs
    obtain ⟨b, ws, rfl, k1, k2⟩ := ry.lst xs
    refine ⟨a, b, vs, ws, rfl, rfl, h1, k1, by rw [← h2.length, ← k2.length]; exact hl, fun l hl' => ?_⟩
    obtain ⟨x2, r2⟩ := xs.newL hl' (h2.append k2)
    exact q _ _ _ x2 r2
  · cases hw
theorem so_cat {a b : Expr} {ma mb : EX D} {pos : Pos} (ha : SB A X a ma) (hb : SB A X b mb) : SO A X (.BinOp a .Add b pos) (m2 dCat ma mb) := so_op op_cat o2_cat ha hb
theorem RelAll.flat {Z : Fz} {ds : List D} {vs : List V} (r : RelAll K A Z ds vs) : ∀ k : Nat, RelAll K A Z (List.replicate k ds).flatten (List.replicate k vs).flatten
  | 0 => .nil
  | k + 1 => by rw [List.replicate_succ, List.replicate_succ, List.flatten_cons, List.flatten_cons]; exact r.append (RelAll.flat r k)
theorem o2_rep : Op2 K A (RlO K A) dRep rRep := by
  refine ⟨?_⟩
  intro H0 H Z0 Z p x y d e w Q xs rx ry hw q
  cases d <;> cases e <;> simp only [dRep, reduceCtorEq] at hw
  split at hw
  · rename_i hl
    cases hw
    obtain ⟨a, vs, rfl, h1, h2⟩ := rx.lst xs
    refine ⟨a, _, vs, rfl, ry.int, h1, hl.1, hl.2.1, by rw [← h2.length]; exact hl.2.2, fun l hl' => ?_⟩
    obtain ⟨x2, r2⟩ := xs.newL hl' (h2.flat _)
    exact q _ _ _ x2 r2
  · cases hw
theorem so_rep {a b : Expr} {ma mb : EX D} {pos : Pos} (ha : SB A X a ma) (hb : SB A X b mb) : SO A X (.BinOp a .Mult b pos) (m2 dRep ma mb) := so_op op_rep o2_rep ha hb
theorem se_sub {a b : Expr} {ma mb : EX D} {pos : Pos} (ha : SB A X a ma) (hb : SB A X b mb) : SE A X (.BinOp a .Sub b pos) (m2 dSub ma mb) := se_op op_sub (o2_int0 fun d e w h => by
  cases d <;> cases e <;> simp only [dSub, reduceCtorEq] at h
  cases h; exact ⟨_, _, rfl, rfl, rfl⟩) ha hb
theorem se_mul {a b : Expr} {ma mb : EX D} {pos : Pos} (ha : SB A X a ma) (hb : SB A X b mb) : SE A X (.BinOp a .Mult b pos) (m2 dMul ma mb) := se_op op_mulX (o2_int fun d e w h => by
  cases d <;> cases e <;> simp only [dMul, reduceCtorEq] at h
  split at h
  · rename_i hl; cases h; exact ⟨_, _, rfl, rfl, mulOk_x hl, rfl⟩
  · cases h) ha hb
theorem op_fdivP : OpR X (binaryOp .FloorDiv) (rI (fun i j => j ≠ 0 ∧ Builtin.divisionGoesByPylong i j = false) fun i j => .int (i.fdiv j)) := opI fun _ _ _ _ _ _ _ hc q => floordiv_int hc.1 q (.inl hc.2)
theorem se_div {a b : Expr} {ma mb : EX D} {pos : Pos} (ha : SB A X a ma) (hb : SB A X b mb) : SE A X (.BinOp a .FloorDiv b pos) (m2 dDiv ma mb) := se_op op_fdivP (o2_int fun d e w h => by
  cases d <;> cases e <;> simp only [dDiv, reduceCtorEq] at h
  split at h
  · rename_i hl; cases h; exact ⟨_, _, rfl, rfl, hl, rfl⟩
  · cases h) ha hb
theorem se_mod {a b : Expr} {ma mb : EX D} {pos : Pos} (ha : SB A X a ma) (hb : SB A X b mb) : SE A X (.BinOp a .Mod b pos) (m2 dMod ma mb) := se_op op_modN (o2_int fun d e w h => by
  cases d <;> cases e <;> simp only [dMod, reduceCtorEq] at h
  split at h
  · rename_i hl; cases h; exact ⟨_, _, rfl, rfl, hl, rfl⟩
  · cases h) ha hb
theorem se_pow {a b : Expr} {ma mb : EX D} {pos : Pos} (ha : SB A X a ma) (hb : SB A X b mb) : SE A X (.BinOp a .Pow b pos) (m2 dPow ma mb) := se_op op_pow (o2_int fun d e w h => by
  cases d <;> cases e <;> simp only [dPow, reduceCtorEq] at h
  split at h
  · rename_i hl; cases h; exact ⟨_, _, rfl, rfl, hl, rfl⟩
  · cases h) ha hb
theorem se_neg {a : Expr} {ma : EX D} {pos : Pos} (ha : SB A X a ma) : SE A X (.UnaryOp .USub a pos) (m1 dNeg ma) := se_un un_neg (op1_mk fun H0 H Z0 Z p x d w Q xs rx hw q => by
  cases d <;> simp only [dNeg, reduceCtorEq] at hw
  cases hw
  exact ⟨_, rx.int, q _ H Z xs.here (.int _)⟩) ha
/-! ### comparisons -/
mutual
theorem dp_of {Z : Fz} {H : Hp} (sub : ∀ a o, Z.F a = some o → H a = some o) : ∀ {d : D} {v : V} {q : PyData}, Rel K A Z d v → toPy d = some q → Dp K H v q
  | _, _, q, .non, e => by simp only [toPy, Option.some.injEq] at e; subst e; exact .non
  | _, _, q, .bl b, e => by simp only [toPy, Option.some.injEq] at e; subst e; exact .bl b
  | _, _, q, .int i, e => by simp only [toPy, Option.some.injEq] at e; subst e; exact .int i
  | _, _, q, .str i, e => by simp only [toPy, Option.some.injEq] at e; subst e; exact .str i
  | .lst ds, _, q, .lst h r, e => by
    simp only [toPy, Option.map_eq_some_iff] at e
    obtain ⟨qs, e1, rfl⟩ := e
    exact .lst (SqL.of (sub _ _ h)) (dp_all sub r e1)
  | .tup ds, _, q, .tup h r, e => by
    simp only [toPy, Option.map_eq_some_iff] at e
    obtain ⟨qs, e1, rfl⟩ := e
    exact .tup (SqT.mono sub h) (dp_all sub r e1)
  | _, _, q, .scr h, e => by simp [toPy] at e
  | _, _, q, .dct h r, e => by simp [toPy] at e
  | _, _, q, .fn i, e => by simp [toPy] at e
  | _, _, q, .cls i, e => by simp [toPy] at e
  | _, _, q, .ins h r, e => by simp [toPy] at e
  | _, _, q, .pen h, e => by simp [toPy] at e
  | _, _, q, .exc0 a, e => by simp [toPy] at e
  | _, _, q, .exc h r, e => by simp [toPy] at e
theorem dp_all {Z : Fz} {H : Hp} (sub : ∀ a o, Z.F a = some o → H a = some o) : ∀ {ds : List D} {vs : List V} {qs : List PyData}, RelAll K A Z ds vs → toPyAll ds = some qs → DpAll K H vs qs
  | _, _, _, .nil, e => by simp only [toPyAll, Option.some.injEq] at e; subst e; exact .nil
  | _, _, _, .cons h r, e => by
    simp only [toPyAll, Option.bind_eq_some_iff, Option.map_eq_some_iff] at e
    obtain ⟨a, e1, b, e2, rfl⟩ := e
    exact .cons (dp_of sub h e1) (dp_all sub r e2)
end
theorem dpB {Hb H0 H : Hp} {Z0 Z : Fz} {p : Pn} {d : D} {v : V} {q : PyData} (x : Xst K A H0 Z0 Z H p) (h : RlB K A Hb Z H d v) (e : toPy d = some q) : Dp K H v q := by
  rcases h with h | ⟨a, h1, h2, h3⟩
  · exact dp_of x.sub h e
  · cases d <;> first | exact h3.elim | skip
    · obtain ⟨vs, h4, r⟩ := h3
      simp only [toPy, Option.map_eq_some_iff] at e
      obtain ⟨qs, e1, rfl⟩ := e
      subst h1
      exact .lst (SqL.of h4) (dp_all x.sub r e1)
    · simp [toPy] at e
    · simp [toPy] at e
theorem eqD_some {d e : D} {b : Bool} (h : eqD d e = some b) : ∃ q r, toPy d = some q ∧ toPy e = some r ∧ SeqAt.shaped q = true ∧ SeqAt.shaped r = true ∧ PyData.eqv q r = b := by
  unfold eqD at h
  simp only [Option.bind_eq_some_iff] at h
  obtain ⟨q, h1, r, h2, h3⟩ := h
  split at h3
  · rename_i hl
    rw [Bool.and_eq_true] at hl
    exact ⟨q, r, h1, h2, hl.1, hl.2, Option.some.inj h3⟩
  · cases h3
theorem o2_eq : Op2 K A (RlE K A) dEq (rEqD K) := by
  refine ⟨?_⟩
  intro H0 H Z0 Z p x y d e w Q xs rx ry hw q
  simp only [dEq, Option.map_eq_some_iff] at hw
  obtain ⟨b, h1, rfl⟩ := hw
  obtain ⟨qa, qb, h2, h3, h4, h5, rfl⟩ := eqD_some h1
  exact ⟨qa, qb, dpB xs rx h2, dpB xs ry h3, h4, h5, q _ H Z xs.here (.bl _)⟩
theorem o2_ne : Op2 K A (RlE K A) dNe (rNeD K) := by
  refine ⟨?_⟩
  intro H0 H Z0 Z p x y d e w Q xs rx ry hw q
  simp only [dNe, Option.map_eq_some_iff] at hw
  obtain ⟨b, h1, rfl⟩ := hw
  obtain ⟨qa, qb, h2, h3, h4, h5, rfl⟩ := eqD_some h1
  exact ⟨qa, qb, dpB xs rx h2, dpB xs ry h3, h4, h5, q _ H Z xs.here (.bl _)⟩
theorem o2_lt : Op2 K A (RlE K A) dLt (rI0 fun i j => .bl (decide (i < j))) := o2_intB fun d e w h => by
  cases d <;> cases e <;> simp only [dLt, reduceCtorEq] at h
  cases h; exact ⟨_, _, rfl, rfl, rfl⟩
theorem o2_le : Op2 K A (RlE K A) dLe (rI0 fun i j => .bl (decide (i ≤ j))) := o2_intB fun d e w h => by
  cases d <;> cases e <;> simp only [dLe, reduceCtorEq] at h
  cases h; exact ⟨_, _, rfl, rfl, rfl⟩
theorem o2_gt : Op2 K A (RlE K A) dGt (rI0 fun i j => .bl (decide (j < i))) := o2_intB fun d e w h => by
  cases d <;> cases e <;> simp only [dGt, reduceCtorEq] at h
  cases h; exact ⟨_, _, rfl, rfl, rfl⟩
theorem o2_ge : Op2 K A (RlE K A) dGe (rI0 fun i j => .bl (decide (j ≤ i))) := o2_intB fun d e w h => by
  cases d <;> cases e <;> simp only [dGe, reduceCtorEq] at h
  cases h; exact ⟨_, _, rfl, rfl, rfl⟩
theorem isNon_of {H0 H : Hp} {Z0 Z : Fz} {p : Pn} {d : D} {v : V} (x : Xst K A H0 Z0 Z H p) (h : RlB K A H Z H d v) : decide (v = .non) = isNon d := by
  rcases h with h | ⟨a, h1, h2, h3⟩
  · cases h <;> simp [isNon]
  · subst h1
    cases d <;> first | exact h3.elim | simp [isNon]
/-- is None, is not None -/
theorem se_isN {a : Expr} {ma : EX D} {j pos' pos} (ha : SB A X a ma) : SE A X (.Compare a [.Is] [.Constant .none j pos'] pos) (m1 (fun d => some (.bl (isNon d))) ma) := fun E tk => pe_imp (pe_cmp (pc_isN (ha E tk))) fun σ H Q h =>
  one (r := fun x H Q => Q (.bl (decide (x = .non))) H) RlE.dn (op1_mk fun H0 H Z0 Z p x d w Q xs rx hw q => by
    cases hw; rw [isNon_of xs rx]; exact q _ H Z xs.here (.bl _)) h
theorem se_notN {a : Expr} {ma : EX D} {j pos' pos} (ha : SB A X a ma) : SE A X (.Compare a [.IsNot] [.Constant .none j pos'] pos) (m1 (fun d => some (.bl (!isNon d))) ma) := fun E tk => pe_imp (pe_cmp (pc_notN (ha E tk))) fun σ H Q h =>
  one (r := fun x H Q => Q (.bl (!decide (x = .non))) H) RlE.dn (op1_mk fun H0 H Z0 Z p x d w Q xs rx hw q => by
    cases hw; rw [isNon_of xs rx]; exact q _ H Z xs.here (.bl _)) h
theorem st_isN {a : Expr} {ma : EX D} {j pos' pos} (ha : SB A X a ma) : STt A X (.Compare a [.Is] [.Constant .none j pos'] pos) (mT (m1 (fun d => some (.bl (isNon d))) ma)) := fun E tk => pt_imp (pt_cmp (pc_isN (ha E tk))) fun σ H Q h =>
  one (r := fun x H Q => Q (.bl (decide (x = .non))) H) (Q := fun x H' => ∃ k, x = .bl k ∧ Q k H') RlE.dn (op1_mk fun H0 H Z0 Z p x d w Q xs rx hw q => by
    cases hw; rw [isNon_of xs rx]; exact q _ H Z xs.here (.bl _)) (testP h)
theorem st_notN {a : Expr} {ma : EX D} {j pos' pos} (ha : SB A X a ma) : STt A X (.Compare a [.IsNot] [.Constant .none j pos'] pos) (mT (m1 (fun d => some (.bl (!isNon d))) ma)) := fun E tk => pt_imp (pt_cmp (pc_notN (ha E tk))) fun σ H Q h =>
  one (r := fun x H Q => Q (.bl (!decide (x = .non))) H) (Q := fun x H' => ∃ k, x = .bl k ∧ Q k H') RlE.dn (op1_mk fun H0 H Z0 Z p x d w Q xs rx hw q => by
    cases hw; rw [isNon_of xs rx]; exact q _ H Z xs.here (.bl _)) (testP h)

/-! ### subscripts -/
theorem RelAll.atI {Z : Fz} {ds : List D} {vs : List V} {i : Int} {g : D} (r : RelAll K A Z ds vs) (h : L2.atI ds i = some g) : ∃ v, L2.atI vs i = some v ∧ Rel K A Z g v := by
  unfold L2.atI at h ⊢
  rw [r.length] at h
  cases e : ixN vs.length i with
  | none => rw [e] at h; cases h
  | some j =>
    rw [e] at h
    exact r.get h
theorem o2_ix : Op2 K A (RlE K A) dIx (rIx K) := by
  refine ⟨?_⟩
  intro H0 H Z0 Z p x y d e w Q xs rx ry hw q
  cases d <;> cases e <;> simp only [dIx, reduceCtorEq] at hw
  · split at hw
    · rename_i hl
      simp only [Option.map_eq_some_iff] at hw
      obtain ⟨c, h1, rfl⟩ := hw
      exact .inr (.inr ⟨_, _, c, rx.str, ry.int, hl, h1, q _ H Z xs.here (.str _)⟩)
    · cases hw
  · obtain ⟨a, vs, rfl, h1, h2⟩ := rx.lst xs
    obtain ⟨v, h3, h4⟩ := h2.atI hw
    exact .inl ⟨a, vs, _, v, rfl, ry.int, SqL.of h1, h3, q _ H Z xs.here h4⟩
  · obtain ⟨a, vs, rfl, h1, h2, _⟩ := rx.tup xs
    obtain ⟨v, h3, h4⟩ := h2.atI hw
    exact .inr (.inl ⟨a, vs, _, v, rfl, ry.int, h1, h3, q _ H Z xs.here h4⟩)
  · simp only [Option.map_eq_some_iff] at hw
    obtain ⟨c, h1, rfl⟩ := hw
    obtain ⟨a, rfl, h2⟩ := rx.scr xs
    refine .inl ⟨a, _, _, V.int c, rfl, ry.int, h2, ?_, q _ H Z xs.here (.int _)⟩
    unfold L2.atI at h1 ⊢
    rw [List.length_map]
    cases e : ixN (List.length _) _ with
    | none => rw [e] at h1; cases h1
    | some j => 
      rw [e] at h1
      show (List.map V.int _)[j]? = _
      rw [List.getElem?_map]
      have h1' : _ = some c := h1
      rw [Option.bind_some] at h1'
      rw [h1']; rfl
theorem se_at {a b : Expr} {ma mb : EX D} {pos : Pos} (ha : SB A X a ma) (hb : SB A X b mb) (hp : PlainIx b := by exact fun _ _ => rfl) : SE A X (.Subscript a b pos) (m2 dIx ma mb) := se_ix ix_seq o2_ix ha hb hp

/-! ### calls of what is built in -/
def mCall (f : List D → Option D) (m : EX (List D)) : EX D := m.bind fun ds => lift (f ds)
structure CallS (K : PySem.W.Frag) (A : Adr) (Rl : Hp → Fz → Hp → D → V → Prop) (f : List D → Option D) (r : List V → Hp → VK → Prop) : Prop where
  go : ∀ {H0 H : Hp} {Z0 Z : Fz} {p : Pn} {vs : List V} {ds : List D} {g : D} {Q : VK}, Xst K A H0 Z0 Z H p → Paired (RlB K A H Z H) ds vs → f ds = some g → (∀ v H' Z', Xst K A H Z Z' H' p → Rl H Z' H' g v → Q v H') → r vs H Q
theorem callP {Rl : Hp → Fz → Hp → D → V → Prop} {f : List D → Option D} {r : List V → Hp → VK → Prop} {E : XK} {m : EX (List D)} (dn : Down Rl) (hs : CallS K A Rl f r) {σ : L2.St} {H : Hp} {Q : VK} (h : tR K A E Rl (mCall f m) σ H Q) : tCB r (tR K A E (RlAB K A) m) σ H Q := by
  obtain ⟨H0, Z0, Z, env, p, s, q⟩ := h
  refine ⟨H0, Z0, Z, env, p, s, bindP dn q fun x H1 d Z1 p1 y1 r1 q1 => ?_⟩
  obtain ⟨g, hg, q3⟩ := liftP q1
  exact hs.go (s.after y1).x r1 hg q3
section
variable {Rl : Hp → Fz → Hp → D → V → Prop} {f : List D → Option D} {r : List V → Hp → VK → Prop} {x : Str} {id T : String} {e : Expr} {es : List Expr} {m : EX (List D)} {p pos : Pos}
theorem s_callB (dn : Down Rl) (hc : CallR X (.builtin id) r) (hs : CallS X.K A Rl f r) (hg : Gl X x) (hm : X.mg x = none) (hv : bootBuiltins x = some (.builtin id)) (ha : SAB A X (e :: es) m) (hn : x ≠ "__name__" := by decide) (hdb : (x == ("__debug__" : Str)) = false := by decide)
    (he : starEach (e :: es) X.env = (false, eval e X.env) :: starEach es X.env := by rfl) (hpl : (backTo pos (starEach es X.env)).any (·.1) = false := by rfl) : ∀ E, Tk X E → PE X (.Call (.Name x p) (e :: es) [] pos) (tR X.K A E Rl (mCall f m)) :=
  fun E tk => pe_imp (pe_callB hc hg hm hv (ha E tk) hn hdb he hpl) fun σ H Q h => callP dn hs h
theorem s_callTy (dn : Down Rl) (hc : CallR X (.type T) r) (hs : CallS X.K A Rl f r) (hg : Gl X x) (hm : X.mg x = none) (hv : bootBuiltins x = some (.type T)) (ha : SAB A X (e :: es) m) (hn : x ≠ "__name__" := by decide) (hdb : (x == ("__debug__" : Str)) = false := by decide)
    (he : starEach (e :: es) X.env = (false, eval e X.env) :: starEach es X.env := by rfl) (hpl : (backTo pos (starEach es X.env)).any (·.1) = false := by rfl) : ∀ E, Tk X E → PE X (.Call (.Name x p) (e :: es) [] pos) (tR X.K A E Rl (mCall f m)) :=
  fun E tk => pe_imp (pe_callTy hc hg hm hv (ha E tk) hn hdb he hpl) fun σ H Q h => callP dn hs h
theorem s_callF (dn : Down Rl) (hc : CallR X (.builtin id) r) (hs : CallS X.K A Rl f r) (hg : Gl X x) (hm : X.mg x = some (.builtin id)) (ha : SAB A X (e :: es) m) (hdb : (x == ("__debug__" : Str)) = false := by decide)
    (he : starEach (e :: es) X.env = (false, eval e X.env) :: starEach es X.env := by rfl) (hpl : (backTo pos (starEach es X.env)).any (·.1) = false := by rfl) : ∀ E, Tk X E → PE X (.Call (.Name x p) (e :: es) [] pos) (tR X.K A E Rl (mCall f m)) :=
  fun E tk => pe_imp (pe_callBfun hc hg hm (ha E tk) hdb he hpl) fun σ H Q h => callP dn hs h
end
def f1 (f : D → Option D) : List D → Option D
  | [d] => f d
  | _ => none
def f2 (f : D → D → Option D) : List D → Option D
  | [d, e] => f d e
  | _ => none
theorem cs1 {Rl : Hp → Fz → Hp → D → V → Prop} {f : D → Option D} {r : V → Hp → VK → Prop} {r' : List V → Hp → VK → Prop} (h : Op1 K A Rl f r) (hr : ∀ x H Q, r x H Q → r' [x] H Q) : CallS K A Rl (f1 f) r' := by
  refine ⟨?_⟩
  intro H0 H Z0 Z p vs ds g Q xs rs hg q
  match ds, rs with
  | [d], .cons r1 .nil => exact hr _ _ _ (h.go xs r1 hg q)
theorem cs2 {Rl : Hp → Fz → Hp → D → V → Prop} {f : D → D → Option D} {r : R2} {r' : List V → Hp → VK → Prop} (h : Op2 K A Rl f r) (hr : ∀ x y H Q, r x y H Q → r' [x, y] H Q) : CallS K A Rl (f2 f) r' := by
  refine ⟨?_⟩
  intro H0 H Z0 Z p vs ds g Q xs rs hg q
  match ds, rs with
  | [d, e], .cons r1 (.cons r2 .nil) => exact hr _ _ _ _ (h.go xs r1 r2 hg q)
def dLen : D → Option D
  | .str x => if x.length ≤ sizeLine then some (.int x.length) else none
  | .lst ds => some (.int ds.length)
  | .tup ds => some (.int ds.length)
  | .scr ns => some (.int ns.length)
  | _ => none
theorem cs_len : CallS K A (RlE K A) (f1 dLen) (fun xs H Q => ∃ x n, xs = [x] ∧ LenV K x H n ∧ Q (.int n) H) := cs1 (r := fun x H Q => ∃ n, LenV K x H n ∧ Q (.int n) H) (op1_mk fun H0 H Z0 Z p x d w Q xs rx hw q => by
  cases d <;> simp only [dLen, reduceCtorEq] at hw
  · split at hw
    · rename_i hl
      cases hw
      rw [rx.str]
      exact ⟨_, ⟨hl, rfl⟩, q _ H Z xs.here (.int _)⟩
    · cases hw
  · cases hw
    obtain ⟨a, vs, rfl, h1, h2⟩ := rx.lst xs
    exact ⟨_, .inl ⟨vs, SqL.of h1, rfl⟩, by rw [← h2.length]; exact q _ H Z xs.here (.int _)⟩
  · cases hw
    obtain ⟨a, vs, rfl, h1, h2, _⟩ := rx.tup xs
    exact ⟨_, .inr ⟨vs, h1, rfl⟩, by rw [← h2.length]; exact q _ H Z xs.here (.int _)⟩
  · cases hw
    obtain ⟨a, rfl, h2⟩ := rx.scr xs
    exact ⟨_, .inl ⟨_, h2, rfl⟩, by rw [List.length_map]; exact q _ H Z xs.here (.int _)⟩) fun x H Q ⟨n, h1, h2⟩ => ⟨x, n, rfl, h1, h2⟩
def dInt : D → Option D
  | .int i => some (.int i)
  | .bl b => some (.int (if b then 1 else 0))
  | _ => none
theorem cs_int : CallS K A (RlE K A) (f1 dInt) (fun xs H Q => (∃ i, xs = [.int i] ∧ Q (.int i) H) ∨ ∃ k, xs = [.bl k] ∧ Q (.int (if k then 1 else 0)) H) := cs1 (r := fun x H Q => (∃ i, x = .int i ∧ Q (.int i) H) ∨ ∃ k, x = .bl k ∧ Q (.int (if k then 1 else 0)) H) (op1_mk fun H0 H Z0 Z p x d w Q xs rx hw q => by
  cases d <;> simp only [dInt, reduceCtorEq] at hw
  · cases hw
    exact .inr ⟨_, blB_of rx, q _ H Z xs.here (.int _)⟩
  · cases hw
    exact .inl ⟨_, rx.int, q _ H Z xs.here (.int _)⟩) fun x H Q h => by
      rcases h with ⟨i, rfl, h⟩ | ⟨i, rfl, h⟩
      · exact .inl ⟨i, rfl, h⟩
      · exact .inr ⟨i, rfl, h⟩
def dAbs : D → Option D
  | .int i => some (.int (if i < 0 then -i else i))
  | _ => none
theorem cs_abs : CallS K A (RlE K A) (f1 dAbs) (fun xs H Q => ∃ i, xs = [.int i] ∧ Q (.int (if i < 0 then -i else i)) H) := cs1 (r := fun x H Q => ∃ i, x = .int i ∧ Q (.int (if i < 0 then -i else i)) H) (op1_mk fun H0 H Z0 Z p x d w Q xs rx hw q => by
  cases d <;> simp only [dAbs, reduceCtorEq] at hw
  cases hw
  exact ⟨_, rx.int, q _ H Z xs.here (.int _)⟩) fun x H Q ⟨i, h1, h⟩ => ⟨i, by rw [h1], h⟩
def dGcd : D → D → Option D
  | .int a, .int b => some (.int ((Nat.gcd a.natAbs b.natAbs : Nat) : Int))
  | _, _ => none
theorem cs_gcd : CallS K A (RlE K A) (f2 dGcd) rGcd := cs2 (r := fun x y H Q => ∃ a b : Int, x = .int a ∧ y = .int b ∧ Q (.int ((Nat.gcd a.natAbs b.natAbs : Nat) : Int)) H) (op2_mk fun H0 H Z0 Z p x y d e w Q xs rx ry hw q => by
  cases d <;> cases e <;> simp only [dGcd, reduceCtorEq] at hw
  cases hw
  exact ⟨_, _, rx.int, ry.int, q _ H Z xs.here (.int _)⟩) fun x y H Q ⟨a, b, h1, h2, h⟩ => ⟨a, b, by rw [h1, h2], h⟩
def dTupOf : D → Option D
  | .lst ds => some (.tup ds)
  | .tup ds => some (.tup ds)
  | .scr ns => some (.tup (ns.map .int))
  | _ => none
theorem cs_tup : CallS K A (RlE K A) (f1 dTupOf) (fun xs H Q => ∃ p ys, xs = [.ref p] ∧ ((SqL K H p ys ∧ ∀ l, H l = none → Q (.ref l) (upd H l (.tup ys))) ∨ (SqT K H p ys ∧ Q (.ref p) H))) := cs1 (r := fun x H Q => ∃ p ys, x = .ref p ∧ ((SqL K H p ys ∧ ∀ l, H l = none → Q (.ref l) (upd H l (.tup ys))) ∨ (SqT K H p ys ∧ Q (.ref p) H))) (op1_mk fun H0 H Z0 Z p x d w Q xs rx hw q => by
  cases d <;> simp only [dTupOf, reduceCtorEq] at hw
  · cases hw
    obtain ⟨a, vs, rfl, h1, h2⟩ := rx.lst xs
    refine ⟨a, vs, rfl, .inl ⟨SqL.of h1, fun l hl => ?_⟩⟩
    obtain ⟨x2, r2⟩ := xs.newT hl h2
    exact q _ _ _ x2 r2
  · cases hw
    obtain ⟨a, vs, rfl, h1, h2, h3⟩ := rx.tup xs
    exact ⟨a, vs, rfl, .inr ⟨h1, q _ H Z xs.here h3⟩⟩
  · cases hw
    obtain ⟨a, rfl, h2⟩ := rx.scr xs
    refine ⟨a, _, rfl, .inl ⟨h2, fun l hl => ?_⟩⟩
    obtain ⟨x2, r2⟩ := xs.newT hl (RelAll.ints _)
    exact q _ _ _ x2 r2) fun x H Q ⟨p, ys, h1, h⟩ => ⟨p, ys, by rw [h1], h⟩
def dLstOf : D → Option D
  | .lst ds => some (.lst ds)
  | .tup ds => some (.lst ds)
  | .scr ns => some (.lst (ns.map .int))
  | _ => none
theorem cs_lst : CallS K A (RlO K A) (f1 dLstOf) (fun xs H Q => ∃ p ys, xs = [.ref p] ∧ (SqL K H p ys ∨ SqT K H p ys) ∧ ∀ l, H l = none → Q (.ref l) (upd H l (.lst ys))) := cs1 (r := fun x H Q => ∃ p ys, x = .ref p ∧ (SqL K H p ys ∨ SqT K H p ys) ∧ ∀ l, H l = none → Q (.ref l) (upd H l (.lst ys))) (op1_mk fun H0 H Z0 Z p x d w Q xs rx hw q => by
  cases d <;> simp only [dLstOf, reduceCtorEq] at hw
  · cases hw
    obtain ⟨a, vs, rfl, h1, h2⟩ := rx.lst xs
    refine ⟨a, vs, rfl, .inl (SqL.of h1), fun l hl => ?_⟩
    obtain ⟨x2, r2⟩ := xs.newL hl h2
    exact q _ _ _ x2 r2
  · cases hw
    obtain ⟨a, vs, rfl, h1, h2, h3⟩ := rx.tup xs
    refine ⟨a, vs, rfl, .inr h1, fun l hl => ?_⟩
    obtain ⟨x2, r2⟩ := xs.newL hl h2
    exact q _ _ _ x2 r2
  · cases hw
    obtain ⟨a, rfl, h2⟩ := rx.scr xs
    refine ⟨a, _, rfl, .inl h2, fun l hl => ?_⟩
    obtain ⟨x2, r2⟩ := xs.newL hl (RelAll.ints _)
    exact q _ _ _ x2 r2) fun x H Q ⟨p, ys, h1, h⟩ => ⟨p, ys, by rw [h1], h⟩
/-! ### isinstance of a class that is built in -/
def tyN : D → Option String
  | .non => some "NoneType"
  | .bl _ => some "bool"
  | .int _ => some "int"
  | .str _ => some "str"
  | .lst _ => some "list"
  | .scr _ => some "list"
  | .tup _ => some "tuple"
  | .dct _ => some "dict"
  | .pen => some "dict"
  | _ => none
end
end Mn

/-! MnD: statements. -/
namespace Mn
open PySem PySem.Spec PyProof.Rows L2

inductive RS where
  | nx (env : List Cell) (p : Pn) | rt (d : D) (p : Pn) | bk (env : List Cell) (p : Pn) | ct (env : List Cell) (p : Pn)
  | ex (c : Nat) (fs : List (Str × D)) (p : Pn) | bad
abbrev SX := List Cell → Pn → RS
/-- an expression's result, then a statement's -/
def R.then {α : Type} (r : R α) (k : α → Pn → RS) : RS :=
  match r with
  | .ok a p => k a p
  | .ex c fs p => .ex c fs p
  | .bad => .bad
def SX.of {α : Type} (m : EX α) (k : α → List Cell → Pn → RS) : SX := fun env p => (m env p).then fun a p' => k a env p'

section
variable (K : PySem.W.Frag) (A : Adr) (E : XK) (H0 : Hp) (Z0 : Fz)
def PostS (Z : Fz) (D : Ends) : RS → Prop
  | .nx env p => ∀ σ' H' Z', Fz.Le Z Z' → Stt K A H0 Z0 Z' σ' H' env p → D.nx σ' H'
  | .rt d p => ∀ v H' Z', Xst K A H0 Z0 Z' H' p → Rel K A Z' d v → D.rt v H'
  | .bk env p => ∀ σ' H' Z', Fz.Le Z Z' → Stt K A H0 Z0 Z' σ' H' env p → D.bk σ' H'
  | .ct env p => ∀ σ' H' Z', Fz.Le Z Z' → Stt K A H0 Z0 Z' σ' H' env p → D.ct σ' H'
  | .ex c fs p => ∀ od H' Z', Xst K A H0 Z0 Z' H' p → ExAt K A Z' H' od fs → E (.ref (A.ca c)) od H'
  | .bad => False
end
def tS (K : PySem.W.Frag) (A : Adr) (E : XK) (m : SX) : TS := fun D σ H => ∃ H0 Z0 Z env p, Stt K A H0 Z0 Z σ H env p ∧ PostS K A E H0 Z0 Z D (m env p)
def SS (A : Adr) (X : Cx) (st : Stmt) (m : SX) : Prop := ∀ E, Tk X E → PS X st (tS X.K A E m)
def SSs (A : Adr) (X : Cx) (st : List Stmt) (m : SX) : Prop := ∀ E, Tk X E → PSs X st (tS X.K A E m)

section
variable {A : Adr} {X : Cx} {K : PySem.W.Frag}
theorem ps_imp {e : Stmt} {t t' : TS} (h : PS X e t) (f : ∀ D σ H, t' D σ H → t D σ H) : PS X e t' := ⟨fun pins s σ H D I q => h.run pins s σ H D I (f _ _ _ q)⟩
theorem pss_imp {e : List Stmt} {t t' : TS} (h : PSs X e t) (f : ∀ D σ H, t' D σ H → t D σ H) : PSs X e t' := ⟨fun pins s σ H D I q => h.run pins s σ H D I (f _ _ _ q)⟩
theorem PostS.le {E : XK} {H0 : Hp} {Z0 Z Z1 : Fz} {D : Ends} {r : RS} (h : PostS K A E H0 Z0 Z D r) (l : Fz.Le Z Z1) : PostS K A E H0 Z0 Z1 D r := by
  cases r with
  | nx env p => exact fun σ' H' Z' l' s => h σ' H' Z' (l.trans l') s
  | bk env p => exact fun σ' H' Z' l' s => h σ' H' Z' (l.trans l') s
  | ct env p => exact fun σ' H' Z' l' s => h σ' H' Z' (l.trans l') s
  | rt d p => exact h
  | ex c fs p => exact h
  | bad => exact h
/-- an expression, then what the statement does with it -/
theorem ofP {α β : Type} {E : XK} {Rl : Hp → Fz → Hp → α → β → Prop} {m : EX α} {k : α → List Cell → Pn → RS} {H0 H : Hp} {Z0 Z : Fz} {σ : L2.St} {env : List Cell} {p : Pn} {D : Ends} {Q : β → Hp → Prop} (s : Stt K A H0 Z0 Z σ H env p) (h : PostS K A E H0 Z0 Z D (SX.of m k env p))
    (f : ∀ b H1 a Z1 p1, Xst K A H Z Z1 H1 p1 → Stt K A H0 Z0 Z1 σ H1 env p1 → Rl H Z1 H1 a b → PostS K A E H0 Z0 Z1 D (k a env p1) → Q b H1) : Post K A E Rl Z H (m env p) Q := by
  unfold SX.of R.then at h
  revert h
  cases m env p with
  | ok a p' => exact fun h b H' Z' x r => f b H' a Z' p' x (s.after x) r (PostS.le h x.le)
  | ex c fs p => exact fun h od H' Z' x r => h od H' Z' (s.x.after x) r
  | bad => exact fun h => h

/-! ### blocks -/
def sNil : SX := fun env p => .nx env p
def sSeq (m k : SX) : SX := fun env p => match m env p with | .nx env' p' => k env' p' | r => r
theorem sss_nil : SSs A X [] sNil := fun E tk => pss_imp pss_nil fun D σ H ⟨H0, Z0, Z, env, p, s, q⟩ => q σ H Z (Fz.Le.refl _) s
theorem sss_cons {st : Stmt} {rest : List Stmt} {m k : SX} (h : SS A X st m) (hk : SSs A X rest k) : SSs A X (st :: rest) (sSeq m k) := fun E tk => pss_imp (pss_cons (h E tk) (hk E tk)) fun D σ H ⟨H0, Z0, Z, env, p, s, q⟩ => by
  refine ⟨H0, Z0, Z, env, p, s, ?_⟩
  unfold sSeq at q
  revert q
  cases m env p with
  | nx env' p' => exact fun q σ' H' Z' l s' => ⟨H0, Z0, Z', env', p', s', q.le l⟩
  | _ => exact fun q => q
theorem sss_one {st : Stmt} {m : SX} (h : SS A X st m) : SSs A X [st] m := fun E tk => pss_one (h E tk)
theorem ss_pass {pos} : SS A X (.Pass pos) sNil := fun E tk => ps_imp ps_pass fun D σ H ⟨H0, Z0, Z, env, p, s, q⟩ => q σ H Z (Fz.Le.refl _) s
theorem ss_break {pos} : SS A X (.Break pos) (fun env p => .bk env p) := fun E tk => ps_imp ps_break fun D σ H ⟨H0, Z0, Z, env, p, s, q⟩ => q σ H Z (Fz.Le.refl _) s
theorem ss_continue {pos} : SS A X (.Continue pos) (fun env p => .ct env p) := fun E tk => ps_imp ps_continue fun D σ H ⟨H0, Z0, Z, env, p, s, q⟩ => q σ H Z (Fz.Le.refl _) s
def sDrop (m : EX D) : SX := SX.of m fun _ env p => .nx env p
theorem ss_expr {e : Expr} {m : EX D} {pos : Pos} (h : SB A X e m) (hs : swapsWith e none pos.line X.env = pure false := by rfl) : SS A X (.Expr e pos) (sDrop m) := fun E tk => ps_imp (ps_expr (h E tk) hs) fun D σ H ⟨H0, Z0, Z, env, p, s, q⟩ =>
  ⟨H0, Z0, Z, env, p, s, ofP s q fun b H1 a Z1 p1 x s1 r q1 => q1 σ H1 Z1 (Fz.Le.refl _) s1⟩
def sRet (m : EX D) : SX := SX.of m fun d _ p => .rt d p
theorem ss_ret {e : Expr} {m : EX D} {pos : Pos} (h : SE A X e m) : SS A X (.Return (some e) pos) (sRet m) := fun E tk => ps_imp (ps_ret (h E tk)) fun D σ H ⟨H0, Z0, Z, env, p, s, q⟩ =>
  ⟨H0, Z0, Z, env, p, s, ofP s q fun b H1 a Z1 p1 x s1 r q1 => q1 b H1 Z1 s1.x r⟩
theorem ss_retN {pos : Pos} : SS A X (.Return none pos) (fun _ p => .rt .non p) := fun E tk => ps_imp ps_retN fun D σ H ⟨H0, Z0, Z, env, p, s, q⟩ => q .non H Z s.x .non
def sIf (c : EX Bool) (m k : SX) : SX := SX.of c fun b => if b then m else k
theorem ss_if {c : Expr} {a b : List Stmt} {mc : EX Bool} {m k : SX} {pos : Pos} (hc : STt A X c mc) (ha : SSs A X a m) (hb : SSs A X b k) : SS A X (.If c a b pos) (sIf mc m k) := fun E tk => ps_imp (ps_if (hc E tk) (ha E tk) (hb E tk)) fun D σ H ⟨H0, Z0, Z, env, p, s, q⟩ => by
  refine ⟨H0, Z0, Z, env, p, s, ofP s q fun b H1 a Z1 p1 x s1 r q1 => ?_⟩
  cases (show a = b from r)
  cases b with
  | true => rw [if_pos rfl]; exact ⟨H0, Z0, Z1, env, p1, s1, q1⟩
  | false => rw [if_neg Bool.false_ne_true]; exact ⟨H0, Z0, Z1, env, p1, s1, q1⟩

/-! ### names stored -/
theorem set_at {α : Type} {l : List α} {i j : Nat} {a c : α} (h : (l.set i a)[j]? = some c) : (j = i ∧ c = a) ∨ (j ≠ i ∧ l[j]? = some c) := by
  by_cases e : i = j
  · subst e
    by_cases hl : i < l.length
    · rw [List.getElem?_set_self hl] at h
      exact .inl ⟨rfl, (Option.some.inj h).symm⟩
    · rw [List.getElem?_eq_none (by rw [List.length_set]; omega)] at h; cases h
  · rw [List.getElem?_set_ne e] at h
    exact .inr ⟨fun z => e z.symm, h⟩
theorem Stt.setV {H0 H : Hp} {Z0 Z : Fz} {σ : L2.St} {env : List Cell} {p : Pn} {d : D} {v : V} (s : Stt K A H0 Z0 Z σ H env p) (i : Nat) (r : Rel K A Z d v) : Stt K A H0 Z0 Z (σ.set i (some v)) H (env.set i (.val d)) p := by
  refine ⟨s.x, by rw [List.length_set, List.length_set]; exact s.len, fun j c y h1 h2 => ?_, fun j k d1 d2 a ne h1 h2 h3 => ?_⟩
  · rcases set_at h1 with ⟨rfl, rfl⟩ | ⟨n1, h1⟩
    · rcases set_at h2 with ⟨_, rfl⟩ | ⟨n2, _⟩
      · exact ⟨v, rfl, r⟩
      · exact absurd rfl n2
    · rcases set_at h2 with ⟨e, _⟩ | ⟨_, h2⟩
      · exact absurd e n1
      · exact s.cells j c y h1 h2
  · rcases set_at h1 with ⟨_, e⟩ | ⟨n1, h1⟩
    · cases e
    · rcases set_at h2 with ⟨_, e⟩ | ⟨n2, h2⟩
      · cases e
      · rw [List.getElem?_set_ne (Ne.symm n1)] at h3
        rw [List.getElem?_set_ne (Ne.symm n2)]
        exact s.apart j k d1 d2 a ne h1 h2 h3
theorem Stt.setO {H0 H : Hp} {Z0 Z : Fz} {σ : L2.St} {env : List Cell} {p : Pn} {d : D} {a : Addr} (s : Stt K A H0 Z0 Z σ H env p) (i : Nat) (o : OwnAt K A Z H d a) (h0 : H0 a = none) (hz : Z.F a = none) (hp : Z.pa ≠ some a)
    (ap : ∀ j e, j ≠ i → env[j]? = some (.own e) → σ[j]? ≠ some (some (.ref a))) : Stt K A H0 Z0 Z (σ.set i (some (.ref a))) H (env.set i (.own d)) p := by
  refine ⟨s.x, by rw [List.length_set, List.length_set]; exact s.len, fun j c y h1 h2 => ?_, fun j k d1 d2 b ne h1 h2 h3 => ?_⟩
  · rcases set_at h1 with ⟨rfl, rfl⟩ | ⟨n1, h1⟩
    · rcases set_at h2 with ⟨_, rfl⟩ | ⟨n2, _⟩
      · exact ⟨a, rfl, o, h0, hz, hp⟩
      · exact absurd rfl n2
    · rcases set_at h2 with ⟨e, _⟩ | ⟨_, h2⟩
      · exact absurd e n1
      · exact s.cells j c y h1 h2
  · rcases set_at h1 with ⟨e1, _⟩ | ⟨n1, h1⟩
    · rcases set_at h3 with ⟨_, e3⟩ | ⟨n3, _⟩
      · cases e3
        rcases set_at h2 with ⟨e2, _⟩ | ⟨n2, h2⟩
        · exact absurd (e1.trans e2.symm) ne
        · rw [List.getElem?_set_ne (Ne.symm n2)]
          exact ap k d2 n2 h2
      · exact absurd e1 n3
    · rw [List.getElem?_set_ne (Ne.symm n1)] at h3
      rcases set_at h2 with ⟨e2, _⟩ | ⟨n2, h2⟩
      · intro z
        rcases set_at z with ⟨_, e3⟩ | ⟨n3, _⟩
        · cases e3
          exact ap j d1 n1 h1 h3
        · exact absurd e2 n3
      · rw [List.getElem?_set_ne (Ne.symm n2)]
        exact s.apart j k d1 d2 b ne h1 h2 h3
/-- a new one differs from those that are one's own -/
theorem Stt.new {H0 H : Hp} {Z0 Z : Fz} {σ : L2.St} {env : List Cell} {p : Pn} {a : Addr} (s : Stt K A H0 Z0 Z σ H env p) (h : H a = none) : ∀ (j : Nat) (e : D), env[j]? = some (.own e) → σ[j]? ≠ some (some (.ref a)) := fun j e h1 h2 => by
  obtain ⟨b, h3, h4, _⟩ := s.own h1
  rw [h2] at h3; cases h3
  obtain ⟨o, h5, _⟩ := h4.there
  rw [h] at h5; cases h5
def sSet (i : Nat) (m : EX D) : SX := SX.of m fun d env p => .nx (env.set i (.val d)) p
def sOwn (i : Nat) (m : EX D) : SX := SX.of m fun d env p => .nx (env.set i (.own d)) p
theorem ss_set (i : Nat) {x : Str} {e : Expr} {m : EX D} {pos pos' : Pos} (he : SE A X e m) (hN : X.N.Nodup) (hi : X.N[i]? = some x := by rfl) (hx : Loc X.env.scope x := by first | exact Or.inl rfl | exact Or.inr rfl)  (hs : swapsWith e (some (.Name x pos')) pos.line X.env = pure false := by rfl) (hf : X.fn x = true ∨ X.env.scope.names.lookup x = some .local := by first | exact .inl rfl | exact .inr rfl | assumption) :
    SS A X (.Assign [.Name x pos'] e pos) (sSet i m) := fun E tk => ps_imp (ps_set hN hi hx (he E tk) hs hf) fun D σ H ⟨H0, Z0, Z, env, p, s, q⟩ =>
  ⟨H0, Z0, Z, env, p, s, ofP s q fun b H1 a Z1 p1 x s1 r q1 => q1 _ H1 Z1 (Fz.Le.refl _) (s1.setV i r)⟩
theorem ss_own (i : Nat) {x : Str} {e : Expr} {m : EX D} {pos pos' : Pos} (he : SO A X e m) (hN : X.N.Nodup) (hi : X.N[i]? = some x := by rfl) (hx : Loc X.env.scope x := by first | exact Or.inl rfl | exact Or.inr rfl)  (hs : swapsWith e (some (.Name x pos')) pos.line X.env = pure false := by rfl) (hf : X.fn x = true ∨ X.env.scope.names.lookup x = some .local := by first | exact .inl rfl | exact .inr rfl | assumption) :
    SS A X (.Assign [.Name x pos'] e pos) (sOwn i m) := fun E tk => ps_imp (ps_set hN hi hx (he E tk) hs hf) fun D σ H ⟨H0, Z0, Z, env, p, s, q⟩ =>
  ⟨H0, Z0, Z, env, p, s, ofP s q fun b H1 a Z1 p1 x s1 ⟨c, h1, h2, h3, h4, h5⟩ q1 => by
    subst h1
    exact q1 _ H1 Z1 (Fz.Le.refl _) (s1.setO i h2 (s.x.th _ h3) h4 h5 fun j e nj h1 => s.new h3 j e h1)⟩
/-- a list of one's own is kept for good from here on: no statement of the text -/
def sFreeze (i : Nat) : SX := fun env p => match env[i]? with | some (.own d) => .nx (env.set i (.val d)) p | _ => .nx env p
theorem Stt.froze {H0 H : Hp} {Z0 Z : Fz} {σ : L2.St} {env : List Cell} {p : Pn} {d : D} {i : Nat} (s : Stt K A H0 Z0 Z σ H env p) (h : env[i]? = some (.own d)) : ∃ Z1, Fz.Le Z Z1 ∧ Stt K A H0 Z0 Z1 σ H (env.set i (.val d)) p := by
  obtain ⟨a, h1, h2, h3, h4, h5⟩ := s.own h
  obtain ⟨o, ho, hb⟩ := h2.there
  refine ⟨⟨upd Z.F a o, Z.pa⟩, le_upd h4, s.x.freeze ho h3 h4 h5, by rw [List.length_set]; exact s.len, fun j c y k1 k2 => ?_, fun j k d1 d2 b ne k1 k2 k3 => ?_⟩
  · rcases set_at k1 with ⟨rfl, rfl⟩ | ⟨n1, k1⟩
    · rw [h1] at k2; cases k2
      exact ⟨_, rfl, h2.rel ho h4⟩
    · have q := s.cells j c y k1 k2
      cases c with
      | no => trivial
      | val e => obtain ⟨w, q1, q2⟩ := q; exact ⟨w, q1, q2.mono (le_upd h4)⟩
      | own e =>
        obtain ⟨b, q1, q2, q3, q4, q5⟩ := q
        have nab : b ≠ a := fun z => by
          subst z; subst q1
          exact s.apart i j d e b (Ne.symm n1) h k1 h1 k2
        exact ⟨b, q1, q2.move (le_upd h4) (fun _ z => z), q3, by show upd Z.F a o b = none; rw [upd_ne nab]; exact q4, q5⟩
  · rcases set_at k1 with ⟨_, e⟩ | ⟨n1, k1⟩
    · cases e
    · rcases set_at k2 with ⟨_, e⟩ | ⟨n2, k2⟩
      · cases e
      · exact s.apart j k d1 d2 b ne k1 k2 k3
theorem sss_freeze (i : Nat) {rest : List Stmt} {k : SX} (hk : SSs A X rest k) : SSs A X rest (sSeq (sFreeze i) k) := fun E tk => pss_imp (hk E tk) fun D σ H ⟨H0, Z0, Z, env, p, s, q⟩ => by
  unfold sSeq sFreeze at q
  cases h : env[i]? with
  | none => rw [h] at q; exact ⟨H0, Z0, Z, env, p, s, q⟩
  | some c =>
    rw [h] at q
    cases c with
    | no => exact ⟨H0, Z0, Z, env, p, s, q⟩
    | val d => exact ⟨H0, Z0, Z, env, p, s, q⟩
    | own d =>
      obtain ⟨Z1, l, s1⟩ := s.froze h
      exact ⟨H0, Z0, Z1, _, p, s1, PostS.le (show PostS X.K A E H0 Z0 Z D (k (env.set i (.val d)) p) from q) l⟩
/-- x += e of ints -/
def sAug (f : D → D → Option D) (i : Nat) (m : EX D) : SX := SX.of (m2 f (mW i) m) fun d env p => .nx (env.set i (.val d)) p
theorem ss_aug (i : Nat) {x : Str} {e : Expr} {m : EX D} {op : Operator} {f : D → D → Option D} {r : R2} {pos pos' : Pos} (ho : OpR X (inplaceOp op) r) (hs : Op2 X.K A (RlE X.K A) f r) (he : SB A X e m) (hN : X.N.Nodup) (hi : X.N[i]? = some x := by rfl) (hx : Loc X.env.scope x := by first | exact Or.inl rfl | exact Or.inr rfl) (hf : X.fn x = true ∨ X.env.scope.names.lookup x = some .local := by first | exact .inl rfl | exact .inr rfl | assumption) :
    SS A X (.AugAssign (.Name x pos') op e pos) (sAug f i m) := fun E tk => ps_imp (ps_aug hN hi hx (he E tk) (fun pins s σ H x y v u Q I rx ry h => ho pins s σ H x y v u Q I rx ry h) hf) fun D σ H ⟨H0, Z0, Z, env, p, s, q⟩ => by
  unfold sAug SX.of m2 EX.bind R.then R.bind at q
  cases h : env[i]? with
  | none => unfold mW at q; rw [h] at q; exact q.elim
  | some c =>
    have core : ∀ (d : Mn.D) (v : V), mW i env p = .ok d p → σ[i]? = some (some v) → (∀ Hb, RlB X.K A Hb Z H d v) → ∃ x, σ[i]? = some (some x) ∧ (tR X.K A E (RlB X.K A) m) σ H fun y H1 => r x y H1 fun z H2 => D.nx (σ.set i (some z)) H2 := by
      intro d v hm hv hr
      rw [hm] at q
      refine ⟨v, hv, H0, Z0, Z, env, p, s, ?_⟩
      revert q
      dsimp only
      cases hme : m env p with
      | ok e1 p1 =>
        intro q y H1 Z1 x1 r1
        dsimp only [lift] at q
        cases hf1 : f d e1 with
        | none => rw [hf1] at q; exact q.elim
        | some g =>
          rw [hf1] at q
          refine hs.go (s.after x1).x (RlB.re ((hr H).after s.x x1)) (RlB.re r1) hf1 fun z H2 Z2 x2 r2 => ?_
          exact q _ H2 Z2 (x1.le.trans x2.le) (((s.after x1).after x2).setV i r2)
      | ex c fs p1 => intro q od H' Z' x r; exact q od H' Z' (s.x.after x) r
      | bad => exact fun q => q
    cases c with
    | no => unfold mW at q; rw [h] at q; exact q.elim
    | val d =>
      obtain ⟨v, h1, h2⟩ := s.val h
      exact core d v (by unfold mW; rw [h]) h1 fun Hb => .inl h2
    | own d =>
      obtain ⟨a, h1, h2, h3, h4, h5⟩ := s.own h
      exact core d _ (by unfold mW; rw [h]) h1 fun Hb => .inr ⟨a, rfl, h5, h2⟩
theorem ss_augAdd (i : Nat) {x : Str} {e : Expr} {m : EX D} {pos pos' : Pos} (he : SB A X e m) (hN : X.N.Nodup) (hi : X.N[i]? = some x := by rfl) (hx : Loc X.env.scope x := by first | exact Or.inl rfl | exact Or.inr rfl) (hf : X.fn x = true ∨ X.env.scope.names.lookup x = some .local := by first | exact .inl rfl | exact .inr rfl | assumption) :
    SS A X (.AugAssign (.Name x pos') .Add e pos) (sAug (fun a b => match a, b with | .int i, .int j => some (.int (i + j)) | _, _ => none) i m) := ss_aug i iop_add (o2_int0 fun d e w h => by
  cases d <;> cases e <;> simp only [reduceCtorEq] at h
  cases h; exact ⟨_, _, rfl, rfl, rfl⟩) he hN hi hx hf
theorem ss_augSub (i : Nat) {x : Str} {e : Expr} {m : EX D} {pos pos' : Pos} (he : SB A X e m) (hN : X.N.Nodup) (hi : X.N[i]? = some x := by rfl) (hx : Loc X.env.scope x := by first | exact Or.inl rfl | exact Or.inr rfl) (hf : X.fn x = true ∨ X.env.scope.names.lookup x = some .local := by first | exact .inl rfl | exact .inr rfl | assumption) :
    SS A X (.AugAssign (.Name x pos') .Sub e pos) (sAug dSub i m) := ss_aug i iop_sub (o2_int0 fun d e w h => by
  cases d <;> cases e <;> simp only [dSub, reduceCtorEq] at h
  cases h; exact ⟨_, _, rfl, rfl, rfl⟩) he hN hi hx hf

/-! ### targets -/
/-- a target: what it makes of the slots -/
abbrev GX := D → List Cell → Option (List Cell)
def tG (K : PySem.W.Frag) (A : Adr) (g : GX) : TG := fun v σ H Q => ∃ H0 Z0 Z env p d env', Stt K A H0 Z0 Z σ H env p ∧ Rel K A Z d v ∧ g d env = some env' ∧ ∀ σ', Stt K A H0 Z0 Z σ' H env' p → Q σ' H
abbrev GXs := List D → List Cell → Option (List Cell)
def tGs (K : PySem.W.Frag) (A : Adr) (g : GXs) : TGs := fun vs σ H Q => ∃ H0 Z0 Z env p ds env', Stt K A H0 Z0 Z σ H env p ∧ RelAll K A Z ds vs ∧ g ds env = some env' ∧ ∀ σ', Stt K A H0 Z0 Z σ' H env' p → Q σ' H
def SG (A : Adr) (X : Cx) (tg : Expr) (g : GX) : Prop := PG X tg (tG X.K A g)
def SGs (A : Adr) (X : Cx) (tg : List Expr) (g : GXs) : Prop := PGs X tg (tGs X.K A g)
theorem pg_imp {e : Expr} {t t' : TG} (h : PG X e t) (f : ∀ v σ H Q, t' v σ H Q → t v σ H Q) : PG X e t' := ⟨fun pins s σ H v u Q I r q => h.run pins s σ H v u Q I r (f _ _ _ _ q)⟩
theorem pgs_imp {e : List Expr} {t t' : TGs} (h : PGs X e t) (f : ∀ v σ H Q, t' v σ H Q → t v σ H Q) : PGs X e t' := ⟨fun pins s σ H v u Q I r q => h.run pins s σ H v u Q I r (f _ _ _ _ q)⟩
def gN (i : Nat) : GX := fun d env => some (env.set i (.val d))
theorem sg_n (i : Nat) {x : Str} {pos : Pos} (hN : X.N.Nodup) (hi : X.N[i]? = some x := by rfl) (hx : Loc X.env.scope x := by first | exact Or.inl rfl | exact Or.inr rfl) (hf : X.fn x = true ∨ X.env.scope.names.lookup x = some .local := by first | exact .inl rfl | exact .inr rfl | assumption) : SG A X (.Name x pos) (gN i) :=
  pg_imp (pg_name hN hi hx hf) fun v σ H Q ⟨H0, Z0, Z, env, p, d, env', s, r, h, q⟩ => by
    simp only [gN, Option.some.injEq] at h
    subst h
    exact q _ (s.setV i r)
def gNilX : GXs := fun ds env => if ds = [] then some env else none
def gConsX (g : GX) (k : GXs) : GXs := fun ds env => match ds with | d :: r => (g d env).bind (k r) | [] => none
theorem sgs_nil : SGs A X [] gNilX := pgs_imp pgs_nil fun v σ H Q ⟨H0, Z0, Z, env, p, ds, env', s, r, h, q⟩ => by
  match ds, v, r with
  | [], _, .nil => 
    have h' : some env = some env' := h
    cases h'
    exact ⟨rfl, q σ s⟩
  | d :: ds, _, .cons _ _ => exact absurd h (by unfold gNilX; simp)
theorem sgs_cons {e : Expr} {es : List Expr} {g : GX} {k : GXs} (h : SG A X e g) (hk : SGs A X es k) (hs : (assignEach (e :: es) X.env).map (·.2) = assign e X.env :: (assignEach es X.env).map (·.2) := by rfl) : SGs A X (e :: es) (gConsX g k) := pgs_imp (pgs_cons h hk hs) fun v σ H Q ⟨H0, Z0, Z, env, p, ds, env', s, r, hg, q⟩ => by
  match ds, v, r with
  | [], _, .nil => cases hg
  | d :: ds, _, .cons r1 r2 =>
    simp only [gConsX, Option.bind_eq_some_iff] at hg
    obtain ⟨env1, h1, h2⟩ := hg
    exact ⟨_, _, rfl, H0, Z0, Z, env, p, d, env1, s, r1, h1, fun σ1 s1 => ⟨H0, Z0, Z, env1, p, ds, env', s1, r2, h2, q⟩⟩
def gTupX (n : Nat) (k : GXs) : GX := fun d env => match d with | .tup ds => if ds.length = n then k ds env else none | _ => none
theorem sg_t {es : List Expr} {kk : Nat} {k : GXs} {n : Nat} {pos : Pos} (hc : X.calm = true) (h : SGs A X es k) (hn : (assignEach es X.env).length = n := by rfl) (hst : (assignEach es X.env).findIdx? (·.1) = none := by rfl) : SG A X (.Tuple es kk pos) (gTupX n k) :=
  pg_imp (pg_tup hc h hn hst) fun v σ H Q ⟨H0, Z0, Z, env, p, d, env', s, r, hg, q⟩ => by
    cases d <;> simp only [gTupX, reduceCtorEq] at hg
    split at hg
    · rename_i hl
      cases r with
      | tup h r => exact ⟨_, _, rfl, SqT.sub s.x h, by rw [← r.length]; exact hl, H0, Z0, Z, env, p, _, env', s, r, hg, q⟩
    · cases hg
def sAsg (g : GX) (m : EX D) : SX := SX.of m fun d env p => match g d env with | some env' => .nx env' p | none => .bad
theorem ss_asg {tg e : Expr} {g : GX} {m : EX D} {pos : Pos} (he : SE A X e m) (hg : SG A X tg g) (hs : swapsWithSole [tg] e pos.line X.env = pure false := by rfl) (hw : swappedStores [tg] e X.env = pure none := by rfl)
    (h1 : (assignEach [tg] X.env).map (·.2) = [assign tg X.env] := by rfl) : SS A X (.Assign [tg] e pos) (sAsg g m) := fun E tk => ps_imp (ps_asg (he E tk) hg hs hw h1) fun D σ H ⟨H0, Z0, Z, env, p, s, q⟩ =>
  ⟨H0, Z0, Z, env, p, s, ofP s q fun b H1 a Z1 p1 x s1 r q1 => by
    revert q1
    cases hg : g a env with
    | none => exact fun q1 => q1.elim
    | some env' => exact fun q1 => ⟨H0, Z0, Z1, env, p1, a, env', s1, r, hg, fun σ' s' => q1 σ' H1 Z1 (Fz.Le.refl _) s'⟩⟩

/-! ### a, b = x, y: each one kept, or one's own -/
/-- each answer with whether it is one's own -/
inductive ArgO (K : PySem.W.Frag) (A : Adr) (H : Hp) (Z : Fz) (H' : Hp) : List (Bool × D) → List V → Prop where
  | nil : ArgO K A H Z H' [] []
  | val {d : D} {v : V} {ds : List (Bool × D)} {vs : List V} (h : Rel K A Z d v) (r : ArgO K A H Z H' ds vs) : ArgO K A H Z H' ((false, d) :: ds) (v :: vs)
  | own {d : D} {a : Addr} {ds : List (Bool × D)} {vs : List V} (o : OwnAt K A Z H' d a) (h : H a = none) (hz : Z.F a = none) (hp : Z.pa ≠ some a) (ap : ∀ (i : Nat) (e : D), ds[i]? = some (true, e) → vs[i]? ≠ some (.ref a)) (r : ArgO K A H Z H' ds vs) : ArgO K A H Z H' ((true, d) :: ds) (.ref a :: vs)
def RlAO (K : PySem.W.Frag) (A : Adr) (H : Hp) (Z : Fz) (H' : Hp) (ds : List (Bool × D)) (vs : List V) : Prop := ArgO K A H Z H' ds vs
theorem ArgO.down {H H1 H' : Hp} {Z : Fz} (th : ∀ a, H1 a = none → H a = none) : ∀ {ds : List (Bool × D)} {vs : List V}, ArgO K A H1 Z H' ds vs → ArgO K A H Z H' ds vs
  | _, _, .nil => .nil
  | _, _, .val h r => .val h (ArgO.down th r)
  | _, _, .own o h hz hp ap r => .own o (th _ h) hz hp ap (ArgO.down th r)
theorem RlAO.dn : Down (RlAO K A) := fun _ _ th _ _ _ _ h => ArgO.down th h
theorem ArgO.ownNone {H H' : Hp} {Z : Fz} : ∀ {ds : List (Bool × D)} {vs : List V}, ArgO K A H Z H' ds vs → ∀ (i : Nat) (e : D) (a : Addr), ds[i]? = some (true, e) → vs[i]? = some (.ref a) → H a = none
  | _, _, .nil, i, e, a, h1, h2 => by simp at h1
  | _, _, .val h r, 0, e, a, h1, h2 => by simp at h1
  | _, _, .val h r, i + 1, e, a, h1, h2 => ArgO.ownNone r i e a (by simpa using h1) (by simpa using h2)
  | _, _, .own o h hz hp ap r, 0, e, a, h1, h2 => by simp at h2; subst h2; exact h
  | _, _, .own o h hz hp ap r, i + 1, e, a, h1, h2 => ArgO.ownNone r i e a (by simpa using h1) (by simpa using h2)
def SAO (A : Adr) (X : Cx) (es : List Expr) (m : EX (List (Bool × D))) : Prop := ∀ E, Tk X E → PA X es (tR X.K A E (RlAO X.K A) m)
def mNilO : EX (List (Bool × D)) := fun _ p => .ok [] p
def mConsO (b : Bool) (m : EX D) (k : EX (List (Bool × D))) : EX (List (Bool × D)) := m.bind fun x => k.bind fun xs => fun _ p => .ok ((b, x) :: xs) p
theorem sao_nil : SAO A X [] mNilO := fun E _ => pa_imp pa_nil fun σ H Q ⟨H0, Z0, Z, env, p, s, q⟩ => q [] H Z s.x.here .nil
theorem consO {m : EX D} {k : EX (List (Bool × D))} {b : Bool} {E : XK} {R1 : Hp → Fz → Hp → D → V → Prop} {σ : L2.St} {H : Hp} {Q : List V → Hp → Prop} (h : tR K A E (RlAO K A) (mConsO b m k) σ H Q)
    (f : ∀ {H0 H H1 H2 : Hp} {Z0 Z Z1 Z2 : Fz} {p p1 p2 : Pn} {d : D} {v : V} {ds : List (Bool × D)} {vs : List V}, Xst K A H0 Z0 Z H p → Xst K A H Z Z1 H1 p1 → R1 H Z1 H1 d v → Xst K A H1 Z1 Z2 H2 p2 → ArgO K A H1 Z2 H2 ds vs → ArgO K A H Z2 H2 ((b, d) :: ds) (v :: vs)) :
    tR K A E R1 m σ H fun x H1 => tR K A E (RlAO K A) k σ H1 fun xs H2 => Q (x :: xs) H2 := by
  obtain ⟨H0, Z0, Z, env, p, s, q⟩ := h
  refine ⟨H0, Z0, Z, env, p, s, ?_⟩
  unfold mConsO EX.bind R.bind at q
  revert q
  cases m env p with
  | bad => exact fun q => q
  | ex c fs p1 => exact fun q => q
  | ok d p1 =>
    intro q x H1 Z1 y1 r1
    refine ⟨H0, Z0, Z1, env, p1, s.after y1, ?_⟩
    revert q
    dsimp only
    cases k env p1 with
    | bad => exact fun q => q
    | ex c fs p2 => exact fun q od H2 Z2 y2 r2 => q od H2 Z2 (y1.after y2) r2
    | ok ds p2 => exact fun q xs H2 Z2 y2 r2 => q _ H2 Z2 (y1.after y2) (f s.x y1 r1 y2 r2)
theorem sao_v {e : Expr} {es : List Expr} {m : EX D} {k : EX (List (Bool × D))} (h : SE A X e m) (hk : SAO A X es k) (hs : starEach (e :: es) X.env = (false, eval e X.env) :: starEach es X.env := by rfl) : SAO A X (e :: es) (mConsO false m k) := fun E tk => pa_imp (pa_cons (h E tk) (hk E tk) hs) fun σ H Q h =>
  consO (R1 := RlE X.K A) h fun x y1 r1 y2 r2 => .val (r1.mono y2.le) (ArgO.down y1.th r2)
theorem sao_o {e : Expr} {es : List Expr} {m : EX D} {k : EX (List (Bool × D))} (h : SO A X e m) (hk : SAO A X es k) (hs : starEach (e :: es) X.env = (false, eval e X.env) :: starEach es X.env := by rfl) : SAO A X (e :: es) (mConsO true m k) := fun E tk => pa_imp (pa_cons (h E tk) (hk E tk) hs) fun σ H Q h =>
  consO (R1 := RlO X.K A) h fun {H0 H H1 H2 Z0 Z Z1 Z2 p p1 p2 d v ds vs} x y1 ⟨a, h1, h2, h3, h4, h5⟩ y2 r2 => by
    subst h1
    obtain ⟨o, ho, hb⟩ := h2.there
    have np : Z2.pa ≠ some a := fun z => by
      rcases y2.pz a z with z | z
      · exact h5 z
      · rw [ho] at z; cases z
    refine .own (h2.move y2.le fun o' ho' => y2.fr a o' ho' np (by rw [ho] at ho'; cases ho'; exact hb)) h3 (y2.fz a (by rw [ho]; simp) h4) np (fun i e h6 h7 => ?_) (ArgO.down y1.th r2)
    have z := r2.ownNone i e a h6 h7
    rw [ho] at z; cases z
def cell (x : Bool × D) : Cell := if x.1 then .own x.2 else .val x.2
/-- two stores in a row -/
theorem Stt.set2 {H0 H1 H : Hp} {Z0 Z1 Z : Fz} {σ : L2.St} {env : List Cell} {p p1 : Pn} {a b : Bool × D} {v w : V} (s1 : Stt K A H0 Z0 Z1 σ H1 env p1) (y : Xst K A H1 Z1 Z H p) (r : ArgO K A H1 Z H [a, b] [v, w]) (i j : Nat) (hij : i ≠ j) : Stt K A H0 Z0 Z ((σ.set i (some v)).set j (some w)) H ((env.set i (cell a)).set j (cell b)) p := by
  have s := s1.after y
  cases r with
  | val h r =>
    cases r with
    | val h' r' => exact (s.setV i h).setV j h'
    | own o h' hz hp ap r' =>
      refine (s.setV i h).setO j o (s1.x.th _ h') hz hp fun l e nl hl => ?_
      rcases set_at hl with ⟨_, z⟩ | ⟨n1, hl⟩
      · cases z
      · rw [List.getElem?_set_ne (Ne.symm n1)]
        exact s1.new h' l e hl
  | own o h hz hp ap r =>
    have sO := s.setO i o (s1.x.th _ h) hz hp fun l e nl hl => s1.new h l e hl
    cases r with
    | val h' r' => exact sO.setV j h'
    | own o' h' hz' hp' ap' r' =>
      refine sO.setO j o' (s1.x.th _ h') hz' hp' fun l e nl hl => ?_
      rcases set_at hl with ⟨e1, z⟩ | ⟨n1, hl⟩
      · subst e1
        intro q
        rcases set_at q with ⟨_, q⟩ | ⟨n2, _⟩
        · cases q
          exact ap 0 _ rfl rfl
        · exact n2 rfl
      · rw [List.getElem?_set_ne (Ne.symm n1)]
        exact s1.new h' l e hl
def sPar (i j : Nat) (m : EX (List (Bool × D))) : SX := SX.of m fun ds env p => match ds with | [a, b] => .nx ((env.set i (cell a)).set j (cell b)) p | _ => .bad
theorem ss_par {i j : Nat} {x y : Str} {a b : Expr} {m : EX (List (Bool × D))} {px py pt pos : Pos} {kt k2 pt2} (hc : X.calm = true) (hN : X.N.Nodup) (ha : SAO A X [a, b] m) (hi : X.N[i]? = some x := by rfl) (hj : X.N[j]? = some y := by rfl) (hij : i ≠ j := by decide)
    (hx : X.env.scope.names.lookup x = some .local := by rfl) (hy : X.env.scope.names.lookup y = some .local := by rfl)
    (hw : swappedStores [.Tuple [.Name x px, .Name y py] kt pt] (.Tuple [a, b] k2 pt2) X.env = pure (some [x, y]) := by rfl)
    (hs : swapsWithSole [.Tuple [.Name x px, .Name y py] kt pt] (.Tuple [a, b] k2 pt2) pos.line X.env = pure false := by rfl) :
    SS A X (.Assign [.Tuple [.Name x px, .Name y py] kt pt] (.Tuple [a, b] k2 pt2) pos) (sPar i j m) := fun E tk => ps_imp (ps_par hc hN hi hj hij hx hy (ha E tk) hw hs) fun D σ H ⟨H0, Z0, Z, env, p, s, q⟩ =>
  ⟨H0, Z0, Z, env, p, s, ofP s q fun b H1 a Z1 p1 x s1 r q1 => by
    match a, b, r with
    | [a1, a2], [v1, v2], r => exact ⟨v1, v2, rfl, q1 _ H1 Z1 (Fz.Le.refl _) (s.set2 x r i j hij)⟩
    | [], _, _ => exact q1.elim
    | [_], _, _ => exact q1.elim
    | _ :: _ :: _ :: _, _, _ => exact q1.elim
    | [_, _], [], r => cases r
    | [_, _], [_], r => (cases r <;> rename_i r <;> cases r)
    | [_, _], _ :: _ :: _ :: _, r => (cases r <;> rename_i r <;> cases r <;> rename_i r <;> cases r)⟩
/-- three of them, all kept -/
def sPar3 (i j l : Nat) (m : EX (List D)) : SX := SX.of m fun ds env p => match ds with | [a, b, c] => .nx (((env.set i (.val a)).set j (.val b)).set l (.val c)) p | _ => .bad
theorem ss_par3 {i j l : Nat} {x y z : Str} {a b c : Expr} {m : EX (List D)} {px py pz pt pos : Pos} {kt k2 pt2} (hc : X.calm = true) (hN : X.N.Nodup) (ha : SA A X [a, b, c] m) (hi : X.N[i]? = some x := by rfl) (hj : X.N[j]? = some y := by rfl) (hl : X.N[l]? = some z := by rfl) (hij : i ≠ j := by decide) (hil : i ≠ l := by decide) (hjl : j ≠ l := by decide)
    (hx : X.env.scope.names.lookup x = some .local := by rfl) (hy : X.env.scope.names.lookup y = some .local := by rfl) (hz : X.env.scope.names.lookup z = some .local := by rfl)
    (hw : swappedStores [.Tuple [.Name x px, .Name y py, .Name z pz] kt pt] (.Tuple [a, b, c] k2 pt2) X.env = pure (some [x, y, z]) := by rfl)
    (hs : swapsWithSole [.Tuple [.Name x px, .Name y py, .Name z pz] kt pt] (.Tuple [a, b, c] k2 pt2) pos.line X.env = pure false := by rfl) :
    SS A X (.Assign [.Tuple [.Name x px, .Name y py, .Name z pz] kt pt] (.Tuple [a, b, c] k2 pt2) pos) (sPar3 i j l m) := fun E tk => ps_imp (ps_par3 hc hN hi hj hl hij hil hjl hx hy hz (ha E tk) hw hs) fun D σ H ⟨H0, Z0, Z, env, p, s, q⟩ =>
  ⟨H0, Z0, Z, env, p, s, ofP s q fun b H1 a Z1 p1 x s1 r q1 => by
    have hl : a.length = b.length := RelAll.length r
    match a, b, r with
    | [a1, a2, a3], [v1, v2, v3], .cons r1 (.cons r2 (.cons r3 .nil)) => exact ⟨v1, v2, v3, rfl, q1 _ H1 Z1 (Fz.Le.refl _) (((s1.setV i r1).setV j r2).setV l r3)⟩
    | [], _, _ => exact q1.elim
    | [_], _, _ => exact q1.elim
    | [_, _], _, _ => exact q1.elim
    | _ :: _ :: _ :: _ :: _, _, _ => exact q1.elim⟩
end
end Mn

/-! MnE: lists changed, the pen, calls of the text's own defs. -/
namespace Mn
open PySem PySem.Spec PyProof.Rows L2

inductive RF where
  | ok (d : D) (env : List Cell) (p : Pn) | ex (c : Nat) (fs : List (Str × D)) (p : Pn) | bad
abbrev FX := List Cell → Pn → RF
def PostF (K : PySem.W.Frag) (A : Adr) (E : XK) (H0 : Hp) (Z0 Z : Fz) (σ : L2.St) (Q : VK) : RF → Prop
  | .ok d env p => ∀ v H' Z', Fz.Le Z Z' → Stt K A H0 Z0 Z' σ H' env p → Rel K A Z' d v → Q v H'
  | .ex c fs p => ∀ od H' Z', Xst K A H0 Z0 Z' H' p → ExAt K A Z' H' od fs → E (.ref (A.ca c)) od H'
  | .bad => False
def tF (K : PySem.W.Frag) (A : Adr) (E : XK) (m : FX) : TE := fun σ H Q => ∃ H0 Z0 Z env p, Stt K A H0 Z0 Z σ H env p ∧ PostF K A E H0 Z0 Z σ Q (m env p)
/-- an expression that may change lists of the def's own -/
def SF (A : Adr) (X : Cx) (e : Expr) (m : FX) : Prop := ∀ E, Tk X E → PE X e (tF X.K A E m)
def fOf (m : EX D) : FX := fun env p => match m env p with | .ok d p' => .ok d env p' | .ex c fs p' => .ex c fs p' | .bad => .bad

section
variable {A : Adr} {X : Cx} {K : PySem.W.Frag}
theorem PostF.le {E : XK} {H0 : Hp} {Z0 Z Z1 : Fz} {σ : L2.St} {Q : VK} {r : RF} (h : PostF K A E H0 Z0 Z σ Q r) (l : Fz.Le Z Z1) : PostF K A E H0 Z0 Z1 σ Q r := by
  cases r with
  | ok d env p => exact fun v H' Z' l' s r => h v H' Z' (l.trans l') s r
  | ex c fs p => exact h
  | bad => exact h
theorem sf_of {e : Expr} {m : EX D} (h : SE A X e m) : SF A X e (fOf m) := fun E tk => pe_imp (h E tk) fun σ H Q ⟨H0, Z0, Z, env, p, s, q⟩ => by
  refine ⟨H0, Z0, Z, env, p, s, ?_⟩
  unfold fOf at q
  revert q
  cases m env p with
  | ok d p' => exact fun q v H' Z' x r => q v H' Z' x.le (s.after x) r
  | ex c fs p' => exact fun q od H' Z' x r => q od H' Z' (s.x.after x) r
  | bad => exact fun q => q
/-- an object of one's own is written -/
theorem Stt.write {H0 H : Hp} {Z0 Z : Fz} {σ : L2.St} {env : List Cell} {p : Pn} {d d' : D} {i : Nat} {a : Addr} {o : HO} (s : Stt K A H0 Z0 Z σ H env p) (h : env[i]? = some (.own d)) (ha : σ[i]? = some (some (.ref a))) (hn : H a ≠ none) (ht : ∀ ps, o ≠ .tbl ps) (hd : OwnAt K A Z (upd H a o) d' a) (htb : ∀ ps, H a ≠ some (.tbl ps)) (hco : ∀ q, H a ≠ some (LamX.CodeO a q)) :
    Stt K A H0 Z0 Z σ (upd H a o) (env.set i (.own d')) p := by
  obtain ⟨b, h1, h2, h3, h4, h5⟩ := s.own h
  rw [ha] at h1; cases h1
  have x : Xst K A H0 Z0 Z (upd H a o) p := by
    refine ⟨s.x.le, fun b u e => ?_, ?_, fun b u hb hp hn' => ?_, fun b hb => ?_, s.x.fz, s.x.pz, fun t ht' => ?_⟩
    · rw [upd_ne (fun z => by rw [z, h4] at e; cases e)]; exact s.x.sub b u e
    · have hp := s.x.pen
      cases p with
      | none => exact hp
      | some r =>
        obtain ⟨b, q1, q2, ac, q3, q4⟩ := hp
        exact ⟨b, q1, q2, ac, by rw [upd_ne (fun z => h5 (by rw [← z]; exact q1))]; exact q3, q4⟩
    · rw [upd_ne (fun z => by rw [z, h3] at hb; cases hb)]; exact s.x.fr b u hb hp hn'
    · by_cases z : b = a
      · rw [z]; exact h3
      · rw [upd_ne z] at hb; exact s.x.th b hb
    · obtain ⟨ps, q1, q2, q3⟩ := s.x.tabs t ht'
      refine ⟨ps, by rw [upd_ne (fun z => htb ps (by rw [← z]; exact q1))]; exact q1, q2, fun pos cv hc => ?_⟩
      obtain ⟨c, e1, e2⟩ := q3 pos cv hc
      exact ⟨c, e1, by rw [upd_ne (fun z => hco t.2 (by rw [← z]; exact e2))]; exact e2⟩
  refine ⟨x, by rw [List.length_set]; exact s.len, fun j c y k1 k2 => ?_, fun j k d1 d2 b ne k1 k2 k3 => ?_⟩
  · rcases set_at k1 with ⟨rfl, rfl⟩ | ⟨n1, k4⟩
    · rw [ha] at k2; cases k2
      exact ⟨a, rfl, hd, h3, h4, h5⟩
    · have q := s.cells j c y k4 k2
      cases c with
      | no => trivial
      | val e => exact q
      | own e =>
        obtain ⟨b, q1, q2, q3, q4, q5⟩ := q
        have nab : b ≠ a := fun z => by
          subst z; subst q1
          exact s.apart i j d e b (Ne.symm n1) h k4 ha k2
        exact ⟨b, q1, q2.move (Fz.Le.refl _) (fun o' ho' => by rw [upd_ne nab]; exact ho'), q3, q4, q5⟩
  · rcases set_at k1 with ⟨e1, _⟩ | ⟨n1, k4⟩
    · rcases set_at k2 with ⟨e2, _⟩ | ⟨n2, k5⟩
      · exact absurd (e1.trans e2.symm) ne
      · exact s.apart j k d d2 b ne (by rw [e1]; exact h) k5 k3
    · rcases set_at k2 with ⟨e2, _⟩ | ⟨n2, k5⟩
      · exact s.apart j k d1 d b ne k4 (by rw [e2]; exact h) k3
      · exact s.apart j k d1 d2 b ne k4 k5 k3
theorem codeO_ne_lst {c : Addr} {q : Str} {vs : List V} : some (HO.lst vs) ≠ some (LamX.CodeO c q) := fun z => by
  unfold LamX.CodeO at z; cases z
theorem codeO_ne_dk {c : Addr} {q : Str} {vs : List (Key × V)} : some (HO.dK vs) ≠ some (LamX.CodeO c q) := fun z => by
  unfold LamX.CodeO at z; cases z
/-- a list of one's own is written -/
theorem Stt.writeL {H0 H : Hp} {Z0 Z : Fz} {σ : L2.St} {env : List Cell} {p : Pn} {ds ds' : List D} {i : Nat} {a : Addr} {vs vs' : List V} (s : Stt K A H0 Z0 Z σ H env p) (h : env[i]? = some (.own (.lst ds))) (ha : σ[i]? = some (some (.ref a))) (hv : H a = some (.lst vs)) (r : RelAll K A Z ds' vs') :
    Stt K A H0 Z0 Z σ (upd H a (.lst vs')) (env.set i (.own (.lst ds'))) p :=
  s.write h ha (by rw [hv]; simp) (fun _ z => nomatch z) ⟨vs', upd_same, r⟩ (fun _ z => by rw [hv] at z; cases z) fun q z => codeO_ne_lst (hv.symm.trans z)
theorem Stt.ownL {H0 H : Hp} {Z0 Z : Fz} {σ : L2.St} {env : List Cell} {p : Pn} {ds : List D} {i : Nat} (s : Stt K A H0 Z0 Z σ H env p) (h : env[i]? = some (.own (.lst ds))) : ∃ a vs, σ[i]? = some (some (.ref a)) ∧ H a = some (.lst vs) ∧ RelAll K A Z ds vs := by
  obtain ⟨a, h1, ⟨vs, h2, h3⟩, _⟩ := s.own h
  exact ⟨a, vs, h1, h2, h3⟩
/-- x.append(e) -/
def fApp (i : Nat) (m : FX) : FX := fun env p => match env[i]? with
  | some (.own (.lst _)) => (match m env p with
    | .ok d env' p' => (match env'[i]? with | some (.own (.lst ds)) => if ds.length < sizeLine then .ok .non (env'.set i (.own (.lst (ds ++ [d])))) p' else .bad | _ => .bad)
    | .ex c fs p' => .ex c fs p'
    | .bad => .bad)
  | _ => .bad
section
variable {x : Str} {o e : Expr} {m : FX} {xp apos cpos : Pos}
theorem sf_app (i : Nat) (he : SF A X e m) (hN : X.N[i]? = some x := by rfl) (hv : Vis X.env.scope x := by first | exact Or.inl rfl | exact Or.inr (Or.inl rfl) | exact Or.inr (Or.inr rfl)) (hd : (x == ("__debug__" : Str)) = false := by decide) (hcd : (x == ("__classdict__" : Str)) = false := by decide)
    (hbase : attributeBase (.Name x xp) "append" X.env (eval (.Name x xp) X.env) = eval (.Name x xp) X.env := by rfl)
    (hfew : ((backTo cpos (starEach [e] X.env)).all (fun x => !x.1) && (backToKw cpos (keywordEach [] X.env)).all (fun x => x.1.isSome)
      && decide (([e] : List Expr).length + ([] : List Keyword).length + (if ([] : List Keyword).isEmpty then 0 else 1) < 30)) = true := by rfl)
    (hline : (apos.endLine == cpos.line) = true := by rfl) (hs : starEach [e] X.env = (false, eval e X.env) :: starEach [] X.env := by rfl) (hplain : (backTo cpos (starEach [] X.env)).any (·.1) = false := by rfl) :
    SF A X (.Call (.Attribute (.Name x xp) "append" apos) [e] [] cpos) (fApp i m) := fun E tk =>
  pe_imp (pe_bm PySem.F.plainAttrs_list PySem.F.slot_list_append PySem.F.type_list_append mt_append (pe_var hN hv hd hcd) (pa_cons (he E tk) pa_nil hs) hbase hfew hline hs hplain) fun σ H Q ⟨H0, Z0, Z, env, p, s, q⟩ => by
    unfold fApp at q
    revert q
    cases h : env[i]? with
    | none => exact fun q => q.elim
    | some c =>
    cases c with
    | no => exact fun q => q.elim
    | val d => exact fun q => q.elim
    | own d =>
    cases d <;> first | exact fun q => q.elim | skip
    rename_i ds
    dsimp only
    intro q
    obtain ⟨a, vs, h1, h2, h3⟩ := s.ownL h
    refine ⟨.ref a, h1, .inl ⟨rfl, vs, SqL.of h2⟩, H0, Z0, Z, env, p, s, ?_⟩
    revert q
    cases m env p with
    | bad => exact fun q => q
    | ex c fs p' => exact fun q => q
    | ok d env' p' =>
      dsimp only
      cases h' : env'[i]? with
      | none => exact fun q => q.elim
      | some c =>
      cases c with
      | no => exact fun q => q.elim
      | val d => exact fun q => q.elim
      | own d2 =>
      cases d2 <;> first | exact fun q => q.elim | skip
      rename_i ds2
      dsimp only
      split
      · rename_i hl
        intro q v H1 Z1 l s1 r1
        obtain ⟨b, ws, k1, k2, k3⟩ := s1.ownL h'
        rw [h1] at k1; cases k1
        exact ⟨a, ws, v, rfl, rfl, k2, by rw [← k3.length]; exact hl, q .non _ Z1 l (s1.writeL h' h1 k2 (k3.append (.cons r1 .nil))) .non⟩
      · exact fun q => q.elim
end
/-- x.extend(e), x.insert(i, e), x.pop(), x.pop(i), x.reverse(), x.clear(): what becomes of the list, what is told -/
def fMeth (f : List D → List D → Option (D × List D)) (i : Nat) (m : EX (List D)) : FX := fun env p => match env[i]? with
  | some (.own (.lst ds)) => (match m env p with
    | .ok as p' => (match f ds as with | some (d, ds') => .ok d (env.set i (.own (.lst ds'))) p' | none => .bad)
    | .ex c fs p' => .ex c fs p'
    | .bad => .bad)
  | _ => .bad
/-- r does what f says -/
structure MeS (K : PySem.W.Frag) (A : Adr) (Ra : Hp → Fz → Hp → List D → List V → Prop) (f : List D → List D → Option (D × List D)) (r : V → List V → Hp → VK → Prop) : Prop where
  go : ∀ {H0 H : Hp} {Z0 Z : Fz} {p : Pn} {a : Addr} {vs ws : List V} {ds as ds' : List D} {d : D} {Q : VK}, Xst K A H0 Z0 Z H p → H a = some (.lst vs) → RelAll K A Z ds vs → Ra H Z H as ws → f ds as = some (d, ds') → (∀ v vs', RelAll K A Z ds' vs' → Rel K A Z d v → Q v (upd H a (.lst vs'))) → r (.ref a) ws H Q
section
variable {x name : Str} {id : String} {e : Expr} {es : List Expr} {m : EX (List D)} {xp apos cpos : Pos} {f : List D → List D → Option (D × List D)} {r : V → List V → Hp → VK → Prop} {Ra : Hp → Fz → Hp → List D → List V → Prop}
theorem methP {E : XK} {i : Nat} (dnA : ∀ {H0 Hb H H1 : Hp} {Z0 Z Z1 : Fz} {p p1 : Pn} {ds : List D} {vs : List V}, Ra Hb Z H ds vs → Ra H Z H ds vs) (hs : MeS K A Ra f r) {σ : L2.St} {H : Hp} {Q : VK} (h : tF K A E (fMeth f i m) σ H Q) :
    (tVar i) σ H fun x H1 => tyV K "list" x H1 ∧ (tR K A E Ra m) σ H1 fun xs H2 => r x xs H2 Q := by
  obtain ⟨H0, Z0, Z, env, p, s, q⟩ := h
  unfold fMeth at q
  revert q
  cases h : env[i]? with
  | none => exact fun q => q.elim
  | some c =>
  cases c with
  | no => exact fun q => q.elim
  | val d => exact fun q => q.elim
  | own d =>
  cases d <;> first | exact fun q => q.elim | skip
  rename_i ds
  dsimp only
  intro q
  obtain ⟨a, vs, h1, h2, h3⟩ := s.ownL h
  refine ⟨.ref a, h1, .inl ⟨rfl, vs, SqL.of h2⟩, H0, Z0, Z, env, p, s, ?_⟩
  revert q
  cases m env p with
  | bad => exact fun q => q
  | ex c fs p' => exact fun q od H' Z' x r => q od H' Z' (s.x.after x) r
  | ok as p' =>
    dsimp only
    cases hf : f ds as with
    | none => exact fun q => q.elim
    | some g =>
      obtain ⟨d, ds'⟩ := g
      dsimp only
      intro q ws H1 Z1 x1 r1
      have s1 := s.after x1
      obtain ⟨b, ws', k1, k2, k3⟩ := s1.ownL h
      rw [h1] at k1; cases k1
      exact hs.go s1.x k2 k3 (dnA (H0 := H0) (H1 := H1) (Z0 := Z0) (Z1 := Z1) (p := p) (p1 := p') r1) hf fun v vs' rv rd => q v _ Z1 x1.le (s1.writeL h h1 k2 rv) rd
theorem sf_meth (i : Nat) (slot : Slot "list" name id) (hty : typeOf (.builtin id) = pure (.type "method_descriptor")) (hm : MtR X id r) (hsp : MeS X.K A (RlA X.K A) f r) (ha : SA A X (e :: es) m) (hN : X.N[i]? = some x := by rfl) (hv : Vis X.env.scope x := by first | exact Or.inl rfl | exact Or.inr (Or.inl rfl) | exact Or.inr (Or.inr rfl)) (hd : (x == ("__debug__" : Str)) = false := by decide) (hcd : (x == ("__classdict__" : Str)) = false := by decide)
    (hbase : attributeBase (.Name x xp) name X.env (eval (.Name x xp) X.env) = eval (.Name x xp) X.env := by rfl)
    (hfew : ((backTo cpos (starEach (e :: es) X.env)).all (fun x => !x.1) && (backToKw cpos (keywordEach [] X.env)).all (fun x => x.1.isSome)
      && decide ((e :: es).length + ([] : List Keyword).length + (if ([] : List Keyword).isEmpty then 0 else 1) < 30)) = true := by rfl)
    (hline : (apos.endLine == cpos.line) = true := by rfl) (hs : starEach (e :: es) X.env = (false, eval e X.env) :: starEach es X.env := by rfl) (hplain : (backTo cpos (starEach es X.env)).any (·.1) = false := by rfl) :
    SF A X (.Call (.Attribute (.Name x xp) name apos) (e :: es) [] cpos) (fMeth f i m) := fun E tk =>
  pe_imp (pe_bm PySem.F.plainAttrs_list slot hty hm (pe_var hN hv hd hcd) (ha E tk) hbase hfew hline hs hplain) fun σ H Q h => methP (fun h => h) hsp h
theorem sf_methB (i : Nat) (slot : Slot "list" name id) (hty : typeOf (.builtin id) = pure (.type "method_descriptor")) (hm : MtR X id r) (hsp : MeS X.K A (RlAB X.K A) f r) (ha : SAB A X (e :: es) m) (hN : X.N[i]? = some x := by rfl) (hv : Vis X.env.scope x := by first | exact Or.inl rfl | exact Or.inr (Or.inl rfl) | exact Or.inr (Or.inr rfl)) (hd : (x == ("__debug__" : Str)) = false := by decide) (hcd : (x == ("__classdict__" : Str)) = false := by decide)
    (hbase : attributeBase (.Name x xp) name X.env (eval (.Name x xp) X.env) = eval (.Name x xp) X.env := by rfl)
    (hfew : ((backTo cpos (starEach (e :: es) X.env)).all (fun x => !x.1) && (backToKw cpos (keywordEach [] X.env)).all (fun x => x.1.isSome)
      && decide ((e :: es).length + ([] : List Keyword).length + (if ([] : List Keyword).isEmpty then 0 else 1) < 30)) = true := by rfl)
    (hline : (apos.endLine == cpos.line) = true := by rfl) (hs : starEach (e :: es) X.env = (false, eval e X.env) :: starEach es X.env := by rfl) (hplain : (backTo cpos (starEach es X.env)).any (·.1) = false := by rfl) :
    SF A X (.Call (.Attribute (.Name x xp) name apos) (e :: es) [] cpos) (fMeth f i m) := fun E tk =>
  pe_imp (pe_bm PySem.F.plainAttrs_list slot hty hm (pe_var hN hv hd hcd) (ha E tk) hbase hfew hline hs hplain) fun σ H Q h => methP (fun h => h) hsp h
theorem sf_meth0 (i : Nat) (slot : Slot "list" name id) (hty : typeOf (.builtin id) = pure (.type "method_descriptor")) (hm : MtR X id r) (hsp : MeS X.K A (RlA X.K A) f r) (hN : X.N[i]? = some x := by rfl) (hv : Vis X.env.scope x := by first | exact Or.inl rfl | exact Or.inr (Or.inl rfl) | exact Or.inr (Or.inr rfl)) (hd : (x == ("__debug__" : Str)) = false := by decide) (hcd : (x == ("__classdict__" : Str)) = false := by decide)
    (hbase : attributeBase (.Name x xp) name X.env (eval (.Name x xp) X.env) = eval (.Name x xp) X.env := by rfl) (hline : (apos.endLine == cpos.line) = true := by rfl) :
    SF A X (.Call (.Attribute (.Name x xp) name apos) [] [] cpos) (fMeth f i mNil) := fun E tk =>
  pe_imp (pe_bm0 PySem.F.plainAttrs_list slot hty hm (pe_var hN hv hd hcd) hbase hline) fun σ H Q h => by
    obtain ⟨x, h1, h2, h3⟩ := methP (Ra := RlA X.K A) (fun h => h) hsp h
    refine ⟨x, h1, h2, ?_⟩
    obtain ⟨H0, Z0, Z, env, p, s, q⟩ := h3
    exact q [] H Z s.x.here .nil
end
def xExt (ds as : List D) : Option (D × List D) := match as with | [.lst es] => if ds.length + es.length ≤ sizeLine then some (.non, ds ++ es) else none | _ => none
def xIns (ds as : List D) : Option (D × List D) := match as with | [.int i, e] => if ds.length < sizeLine ∧ 0 ≤ i ∧ i < 2 ^ 63 then some (.non, ds.take i.toNat ++ [e] ++ ds.drop i.toNat) else none | _ => none
def xPop (ds as : List D) : Option (D × List D) := match as with | [] => (ds[ds.length - 1]?).map fun d => (d, ds.dropLast) | _ => none
def xPopAt (ds as : List D) : Option (D × List D) := match as with | [.int i] => if -(2 ^ 63) ≤ i ∧ i < 2 ^ 63 then (seqIndex? i ds.length).bind fun k => (ds[k]?).map fun d => (d, ds.eraseIdx k) else none | _ => none
def xRev (ds as : List D) : Option (D × List D) := match as with | [] => some (.non, ds.reverse) | _ => none
def xClear (ds as : List D) : Option (D × List D) := match as with | [] => some (.non, []) | _ => none
theorem me_ext : MeS K A (RlAB K A) xExt rExtend := ⟨fun {H0 H Z0 Z p a vs ws ds as ds' d Q} x h r ra hf q => by
  match as, ws, ra with
  | [e], [w], .cons r1 .nil =>
    cases e <;> simp only [xExt, reduceCtorEq] at hf
    split at hf
    · rename_i hl
      cases hf
      obtain ⟨b, zs, rfl, h1, h2⟩ := r1.lst x
      exact ⟨a, b, vs, zs, rfl, rfl, h, h1, by rw [← r.length, ← h2.length]; exact hl, q .non _ (r.append h2) .non⟩
    · cases hf
  | [], _, _ => cases hf
  | _ :: _ :: _, _, _ => simp [xExt] at hf⟩
theorem me_ins {X : Cx} : MeS K A (RlA K A) xIns (fun x vs H Q => ∃ (l : Addr) (xs : List V) (i : Int) (y : V), x = .ref l ∧ vs = [.int i, y] ∧ H l = some (.lst xs) ∧ xs.length < sizeLine ∧ 0 ≤ i ∧ i < 2 ^ 63 ∧
    Q .non (upd H l (.lst (xs.take i.toNat ++ [y] ++ xs.drop i.toNat)))) := ⟨fun {H0 H Z0 Z p a vs ws ds as ds' d Q} x h r ra hf q => by
  match as, ws, ra with
  | [e, g], [w, z], .cons r1 (.cons r2 .nil) =>
    cases e <;> simp only [xIns, reduceCtorEq] at hf
    split at hf
    · rename_i hl
      cases hf
      exact ⟨a, vs, _, z, rfl, by rw [r1.int_of], h, by rw [← r.length]; exact hl.1, hl.2.1, hl.2.2, q .non _ (((r.take _).append (.cons r2 .nil)).append (r.drop _)) .non⟩
    · cases hf
  | [], _, _ => simp [xIns] at hf
  | [_], _, _ => simp [xIns] at hf
  | _ :: _ :: _ :: _, _, _ => simp [xIns] at hf⟩
theorem RelAll.dropLast {Z : Fz} : ∀ {ds : List D} {vs : List V}, RelAll K A Z ds vs → RelAll K A Z ds.dropLast vs.dropLast
  | _, _, .nil => .nil
  | [_], [_], .cons _ .nil => .nil
  | _ :: _ :: _, _ :: _ :: _, .cons h (.cons h' r) => .cons h (RelAll.dropLast (.cons h' r))
theorem RelAll.eraseIdx {Z : Fz} : ∀ {ds : List D} {vs : List V} (k : Nat), RelAll K A Z ds vs → RelAll K A Z (ds.eraseIdx k) (vs.eraseIdx k)
  | _, _, _, .nil => .nil
  | _, _, 0, .cons _ r => r
  | _, _, k + 1, .cons h r => .cons h (RelAll.eraseIdx k r)
theorem RelAll.reverse {Z : Fz} {ds : List D} {vs : List V} (r : RelAll K A Z ds vs) : RelAll K A Z ds.reverse vs.reverse := by
  induction ds generalizing vs with
  | nil => cases r; exact .nil
  | cons d ds ih => cases r with
    | cons h r => rw [List.reverse_cons, List.reverse_cons]; exact (ih r).append (.cons h .nil)
theorem me_pop : MeS K A (RlA K A) xPop rPop := ⟨fun {H0 H Z0 Z p a vs ws ds as ds' d Q} x h r ra hf q => by
  match as, ws, ra with
  | [], [], .nil =>
    simp only [xPop, Option.map_eq_some_iff] at hf
    obtain ⟨g, h1, h2⟩ := hf
    cases h2
    obtain ⟨v, h3, h4⟩ := r.get h1
    exact ⟨a, vs, v, rfl, rfl, h, by rw [← r.length]; exact h3, q v _ r.dropLast h4⟩
  | _ :: _, _, _ => simp [xPop] at hf⟩
theorem me_popAt : MeS K A (RlA K A) xPopAt rPopAt := ⟨fun {H0 H Z0 Z p a vs ws ds as ds' d Q} x h r ra hf q => by
  match as, ws, ra with
  | [e], [w], .cons r1 .nil =>
    cases e <;> simp only [xPopAt, reduceCtorEq] at hf
    split at hf
    · rename_i hl
      simp only [Option.bind_eq_some_iff, Option.map_eq_some_iff] at hf
      obtain ⟨k, h0, g, h1, h2⟩ := hf
      cases h2
      obtain ⟨v, h3, h4⟩ := r.get h1
      exact ⟨a, vs, _, k, v, rfl, by rw [r1.int_of], h, hl.1, hl.2, by rw [← r.length]; exact h0, h3, q v _ (r.eraseIdx k) h4⟩
    · cases hf
  | [], _, _ => simp [xPopAt] at hf
  | _ :: _ :: _, _, _ => simp [xPopAt] at hf⟩
theorem me_rev : MeS K A (RlA K A) xRev rReverse := ⟨fun {H0 H Z0 Z p a vs ws ds as ds' d Q} x h r ra hf q => by
  match as, ws, ra with
  | [], [], .nil =>
    simp only [xRev, Option.some.injEq, Prod.mk.injEq] at hf
    obtain ⟨rfl, rfl⟩ := hf
    exact ⟨a, vs, rfl, rfl, h, q .non _ r.reverse .non⟩
  | _ :: _, _, _ => simp [xRev] at hf⟩
theorem me_clear : MeS K A (RlA K A) xClear rClear := ⟨fun {H0 H Z0 Z p a vs ws ds as ds' d Q} x h r ra hf q => by
  match as, ws, ra with
  | [], [], .nil =>
    simp only [xClear, Option.some.injEq, Prod.mk.injEq] at hf
    obtain ⟨rfl, rfl⟩ := hf
    exact ⟨a, vs, rfl, rfl, h, q .non _ .nil .non⟩
  | _ :: _, _, _ => simp [xClear] at hf⟩

/-! ### statements of such -/
def RF.then (r : RF) (k : D → List Cell → Pn → RS) : RS :=
  match r with
  | .ok d env p => k d env p
  | .ex c fs p => .ex c fs p
  | .bad => .bad
def SX.ofF (m : FX) (k : D → List Cell → Pn → RS) : SX := fun env p => (m env p).then k
theorem ofF {E : XK} {m : FX} {k : D → List Cell → Pn → RS} {H0 : Hp} {Z0 Z : Fz} {σ : L2.St} {env : List Cell} {p : Pn} {D' : Ends} {Q : VK} (h : PostS K A E H0 Z0 Z D' (SX.ofF m k env p))
    (f : ∀ v H1 d Z1 env1 p1, Fz.Le Z Z1 → Stt K A H0 Z0 Z1 σ H1 env1 p1 → Rel K A Z1 d v → PostS K A E H0 Z0 Z1 D' (k d env1 p1) → Q v H1) : PostF K A E H0 Z0 Z σ Q (m env p) := by
  unfold SX.ofF RF.then at h
  revert h
  cases m env p with
  | ok a env' p' => exact fun h v H' Z' l s r => f v H' a Z' env' p' l s r (PostS.le h l)
  | ex c fs p => exact fun h => h
  | bad => exact fun h => h
def sDropF (m : FX) : SX := SX.ofF m fun _ env p => .nx env p
theorem ss_exprF {e : Expr} {m : FX} {pos : Pos} (h : SF A X e m) (hs : swapsWith e none pos.line X.env = pure false := by rfl) : SS A X (.Expr e pos) (sDropF m) := fun E tk => ps_imp (ps_expr (h E tk) hs) fun D σ H ⟨H0, Z0, Z, env, p, s, q⟩ =>
  ⟨H0, Z0, Z, env, p, s, ofF q fun v H1 d Z1 env1 p1 l s1 r q1 => q1 σ H1 Z1 (Fz.Le.refl _) s1⟩
def sSetF (i : Nat) (m : FX) : SX := SX.ofF m fun d env p => .nx (env.set i (.val d)) p
theorem ss_setF (i : Nat) {x : Str} {e : Expr} {m : FX} {pos pos' : Pos} (he : SF A X e m) (hN : X.N.Nodup) (hi : X.N[i]? = some x := by rfl) (hx : Loc X.env.scope x := by first | exact Or.inl rfl | exact Or.inr rfl)  (hs : swapsWith e (some (.Name x pos')) pos.line X.env = pure false := by rfl) (hf : X.fn x = true ∨ X.env.scope.names.lookup x = some .local := by first | exact .inl rfl | exact .inr rfl | assumption) :
    SS A X (.Assign [.Name x pos'] e pos) (sSetF i m) := fun E tk => ps_imp (ps_set hN hi hx (he E tk) hs hf) fun D σ H ⟨H0, Z0, Z, env, p, s, q⟩ =>
  ⟨H0, Z0, Z, env, p, s, ofF q fun v H1 d Z1 env1 p1 l s1 r q1 => q1 _ H1 Z1 (Fz.Le.refl _) (s1.setV i r)⟩
def sAsgF (g : GX) (m : FX) : SX := SX.ofF m fun d env p => match g d env with | some env' => .nx env' p | none => .bad
theorem ss_asgF {tg e : Expr} {g : GX} {m : FX} {pos : Pos} (he : SF A X e m) (hg : SG A X tg g) (hs : swapsWithSole [tg] e pos.line X.env = pure false := by rfl) (hw : swappedStores [tg] e X.env = pure none := by rfl)
    (h1 : (assignEach [tg] X.env).map (·.2) = [assign tg X.env] := by rfl) : SS A X (.Assign [tg] e pos) (sAsgF g m) := fun E tk => ps_imp (ps_asg (he E tk) hg hs hw h1) fun D σ H ⟨H0, Z0, Z, env, p, s, q⟩ =>
  ⟨H0, Z0, Z, env, p, s, ofF q fun v H1 d Z1 env1 p1 l s1 r q1 => by
    revert q1
    cases hg : g d env1 with
    | none => exact fun q1 => q1.elim
    | some env' => exact fun q1 => ⟨H0, Z0, Z1, env1, p1, d, env', s1, r, hg, fun σ' s' => q1 σ' H1 Z1 (Fz.Le.refl _) s'⟩⟩
/-- x[k] = e, x a list of one's own -/
def sPut (i : Nat) (mk me : EX D) : SX := fun env p => match env[i]? with
  | some (.own (.lst ds)) => (me env p).then fun d p1 => (mk env p1).then fun k p2 => match k with
    | .int k => (match ixN ds.length k with | some j => .nx (env.set i (.own (.lst (ds.set j d)))) p2 | none => .bad)
    | _ => .bad
  | _ => .bad
theorem thenP {α β : Type} {E : XK} {Rl : Hp → Fz → Hp → α → β → Prop} {r : R α} {k : α → Pn → RS} {H0 H : Hp} {Z0 Z : Fz} {σ : L2.St} {env : List Cell} {p : Pn} {D : Ends} {Q : β → Hp → Prop} (s : Stt K A H0 Z0 Z σ H env p) (h : PostS K A E H0 Z0 Z D (r.then k))
    (f : ∀ b H1 a Z1 p1, Xst K A H Z Z1 H1 p1 → Stt K A H0 Z0 Z1 σ H1 env p1 → Rl H Z1 H1 a b → PostS K A E H0 Z0 Z1 D (k a p1) → Q b H1) : Post K A E Rl Z H r Q := by
  unfold R.then at h
  revert h
  cases r with
  | ok a p' => exact fun h b H' Z' x r => f b H' a Z' p' x (s.after x) r (PostS.le h x.le)
  | ex c fs p => exact fun h od H' Z' x r => h od H' Z' (s.x.after x) r
  | bad => exact fun h => h
theorem ss_put (i : Nat) {x : Str} {k e : Expr} {mk me : EX D} {xp tpos pos : Pos} (hk : SB A X k mk) (he : SE A X e me) (hN : X.N[i]? = some x := by rfl) (hv : Vis X.env.scope x := by first | exact Or.inl rfl | exact Or.inr (Or.inl rfl) | exact Or.inr (Or.inr rfl)) (hd : (x == ("__debug__" : Str)) = false := by decide) (hcd : (x == ("__classdict__" : Str)) = false := by decide)
    (hs : swapsWithSole [.Subscript (.Name x xp) k tpos] e pos.line X.env = pure false := by rfl) (hw : swappedStores [.Subscript (.Name x xp) k tpos] e X.env = pure none := by rfl)
    (h1 : (assignEach [.Subscript (.Name x xp) k tpos] X.env).map (·.2) = [assign (.Subscript (.Name x xp) k tpos) X.env] := by rfl)
    (ha : ∀ v, assign (.Subscript (.Name x xp) k tpos) X.env v = (do
      let ov ← holding [v] (eval (.Name x xp) X.env)
      let iv ← holding [v, ov] (eval k X.env)
      standAt tpos
      holding [v, ov, iv] (setItem ov iv v)
      release [v, ov, iv] []) := by intro _; rfl) : SS A X (.Assign [.Subscript (.Name x xp) k tpos] e pos) (sPut i mk me) := fun E tk =>
  ps_imp (ps_asg (he E tk) (pg_sub (pe_var (i := i) hN hv hd hcd) (hk E tk) set_list ha) hs hw h1) fun D' σ H ⟨H0, Z0, Z, env, p, s, q⟩ => by
    refine ⟨H0, Z0, Z, env, p, s, ?_⟩
    unfold sPut at q
    revert q
    cases h : env[i]? with
    | none => exact fun q => q.elim
    | some c =>
    cases c with
    | no => exact fun q => q.elim
    | val d => exact fun q => q.elim
    | own d =>
    cases d <;> first | exact fun q => q.elim | skip
    rename_i ds
    dsimp only
    intro q
    refine thenP s q fun v H1 d Z1 p1 x1 s1 r1 q1 => ?_
    obtain ⟨a, vs, h1, h2, h3⟩ := s1.ownL h
    refine ⟨.ref a, h1, H0, Z0, Z1, env, p1, s1, thenP s1 q1 fun w H2 k Z2 p2 x2 s2 r2 q2 => ?_⟩
    revert q2 r2
    cases k <;> first | exact fun _ q2 => q2.elim | skip
    rename_i k
    dsimp only
    cases hj : ixN ds.length k with
    | none => exact fun _ q2 => q2.elim
    | some j =>
      intro r2 q2
      obtain ⟨b, ws, k1, k2, k3⟩ := s2.ownL h
      rw [h1] at k1; cases k1
      exact ⟨a, ws, k, j, rfl, r2.int, k2, by rw [← k3.length]; exact hj, q2 σ _ Z2 (Fz.Le.refl _) (s2.writeL h h1 k2 (k3.set (r1.mono x2.le) j))⟩

/-! ### the pen -/
inductive PF where
  | cells | at_ | digits | count | fold
def PF.key : PF → Str
  | .cells => "cells"
  | .at_ => "at"
  | .digits => "digits"
  | .count => "count"
  | .fold => "fold"
def PF.get (r : PenR) : PF → D
  | .cells => .lst (r.cells.map .int)
  | .at_ => .int r.at_
  | .digits => .int r.digits
  | .count => .int r.count
  | .fold => .int r.fold
def PF.put (r : PenR) (i : Int) : PF → Option PenR
  | .cells => none
  | .at_ => some { r with at_ := i }
  | .digits => some { r with digits := i }
  | .count => some { r with count := i }
  | .fold => some { r with fold := i }
/-- pen['..'] -/
def mPget (f : PF) (m : EX D) : EX D := m.bind fun d => fun _ p => match d, p with
  | .pen, some r => .ok (f.get r) p
  | _, _ => .bad
def penKV (ac : Addr) (r : PenR) : List (Key × V) := [(.inr "cells", .ref ac), (.inr "at", .int r.at_), (.inr "digits", .int r.digits), (.inr "count", .int r.count), (.inr "fold", .int r.fold)]
theorem pen_val (ac : Addr) (r : PenR) (f : PF) : ∃ v, valV (penKV ac r) (.inr f.key) = some v ∧ (match f with | .cells => v = .ref ac | .at_ => v = .int r.at_ | .digits => v = .int r.digits | .count => v = .int r.count | .fold => v = .int r.fold) := by
  cases f <;> exact ⟨_, rfl, rfl⟩
theorem pen_put (ac : Addr) (r : PenR) (f : PF) (i : Int) (r' : PenR) (h : f.put r i = some r') : putK (penKV ac r) (.inr f.key) (.int i) = penKV ac r' ∧ r'.cells = r.cells := by
  cases f <;> simp only [PF.put, reduceCtorEq, Option.some.injEq] at h <;> subst h <;> exact ⟨rfl, rfl⟩
theorem Xst.penAt {H0 H : Hp} {Z0 Z : Fz} {r : PenR} {v : V} (x : Xst K A H0 Z0 Z H (some r)) (h : RlB K A H Z H .pen v) : ∃ a ac, v = .ref a ∧ Z.pa = some a ∧ Z.F a = none ∧ H a = some (.dK (penKV ac r)) ∧ Z.F ac = some (.lst (r.cells.map V.int)) := by
  rcases h with h | ⟨a, h1, h2, h3⟩
  · cases h with
    | pen h =>
      obtain ⟨b, k1, k2, ac, k3, k4⟩ := x.pen
      rw [h] at k1; cases k1
      exact ⟨_, ac, rfl, h, k2, k3, k4⟩
  · exact h3.elim
theorem se_pget (f : PF) {o : Expr} {m : EX D} {j pos' pos} (hu : X.A.units + 1 < cLine) (h : SB A X o m) (hs : NoSl (.Constant (.str f.key) j pos') := by exact fun _ _ => rfl) : SE A X (.Subscript o (.Constant (.str f.key) j pos') pos) (mPget f m) := fun E tk => pe_imp (pe_dget hu (h E tk) pe_str hs) fun σ H Q ⟨H0, Z0, Z, env, p, s, q⟩ => by
  refine ⟨H0, Z0, Z, env, p, s, bindP RlE.dn q fun x H1 d Z1 p1 y1 r1 q1 => ?_⟩
  revert q1 r1
  cases d <;> first | exact fun _ q => q.elim | skip
  cases p1 with
  | none => exact fun _ q => q.elim
  | some r =>
    intro r1 q1
    obtain ⟨a, ac, rfl, h1, h2, h3, h4⟩ := (s.after y1).x.penAt (RlB.re r1)
    obtain ⟨v, h5, h6⟩ := pen_val ac r f
    refine ⟨a, v, rfl, ?_, q1 v H1 Z1 (s.after y1).x.here ?_⟩
    · rw [← h5]; exact DGet.k (k := .inr f.key) h3
    · cases f <;> dsimp only at h6 <;> subst h6
      · exact .lst h4 (RelAll.ints _)
      · exact .int _
      · exact .int _
      · exact .int _
      · exact .int _
/-- pen['..'] = e -/
def sPput (f : PF) (mo me : EX D) : SX := SX.of me fun d env p => (mo env p).then fun o p1 => match o, d, p1 with
  | .pen, .int i, some r => (match f.put r i with | some r' => .nx env (some r') | none => .bad)
  | _, _, _ => .bad
theorem ss_pput (f : PF) {o e : Expr} {mo me : EX D} {j pos' pos2 pos} (hu : X.A.units + 1 < cLine) (ho : SB A X o mo) (he : SE A X e me) (hs : swapsWith e (some (.Subscript o (.Constant (.str f.key) j pos') pos2)) pos.line X.env = pure false := by rfl) : SS A X (.Assign [.Subscript o (.Constant (.str f.key) j pos') pos2] e pos) (sPput f mo me) := fun E tk =>
  ps_imp (ps_dput hu (ho E tk) pe_str (he E tk) hs) fun D' σ H ⟨H0, Z0, Z, env, p, s, q⟩ => by
    refine ⟨H0, Z0, Z, env, p, s, ofP s q fun v H1 d Z1 p1 x1 s1 r1 q1 => ?_⟩
    refine ⟨H0, Z0, Z1, env, p1, s1, thenP s1 q1 fun w H2 o Z2 p2 x2 s2 r2 q2 => ?_⟩
    revert q2 r2
    cases o <;> first | exact fun _ q => q.elim | skip
    cases d <;> first | exact fun _ q => q.elim | skip
    rename_i i
    cases p2 with
    | none => exact fun _ q => q.elim
    | some r =>
      dsimp only
      cases hp : f.put r i with
      | none => exact fun _ q => q.elim
      | some r' =>
        intro r2 q2
        obtain ⟨a, ac, rfl, h1, h2, h3, h4⟩ := s2.x.penAt (RlB.re r2)
        obtain ⟨e1, e2⟩ := pen_put ac r f i r' hp
        have rv : v = .int i := Rel.int_of r1
        subst rv
        refine ⟨a, _, rfl, DPut.k (k := .inr f.key) h3 (by show (5 : Nat) < sizeLine; decide), ?_⟩
        rw [e1]
        refine q2 σ _ Z2 (Fz.Le.refl _) ?_
        have x : Xst X.K A H0 Z0 Z2 (upd H2 a (.dK (penKV ac r'))) (some r') := by
          refine ⟨s2.x.le, fun b u e => ?_, ⟨a, h1, h2, ac, upd_same, by rw [e2]; exact h4⟩, fun b u hb hp' hn' => ?_, fun b hb => ?_, s2.x.fz, s2.x.pz, fun t ht' => ?_⟩
          · rw [upd_ne (fun z => by rw [z, h2] at e; cases e)]; exact s2.x.sub b u e
          · rw [upd_ne (fun z => hp' (by rw [z]; exact h1))]; exact s2.x.fr b u hb hp' hn'
          · by_cases z : b = a
            · rw [z, upd_same] at hb; cases hb
            · rw [upd_ne z] at hb; exact s2.x.th b hb
          · obtain ⟨ps, q1, q2, q3⟩ := s2.x.tabs t ht'
            refine ⟨ps, by rw [upd_ne (fun z => by rw [z, h3] at q1; cases q1)]; exact q1, q2, fun pos cv hc => ?_⟩
            obtain ⟨c, e1, e2⟩ := q3 pos cv hc
            exact ⟨c, e1, by rw [upd_ne (fun z => by rw [z] at e2; exact codeO_ne_dk (h3.symm.trans e2))]; exact e2⟩
        refine ⟨x, s2.len, fun j c y k1 k2 => ?_, s2.apart⟩
        have qc := s2.cells j c y k1 k2
        cases c with
        | no => trivial
        | val e => exact qc
        | own e =>
          obtain ⟨b, c1, c2, c3, c4, c5⟩ := qc
          exact ⟨b, c1, c2.move (Fz.Le.refl _) (fun o' ho' => by rw [upd_ne (fun z => c5 (by rw [z]; exact h1))]; exact ho'), c3, c4, c5⟩

/-! ### calls of the text's own defs -/
/-- what a def does: of its arguments and the pen -/
abbrev FD := List D → Pn → R D
/-- its promise -/
def spI (K : PySem.W.Frag) (A : Adr) (n : Nat) (φ : FD) : Sp := fun vs H Q E => ∃ Z ds p, vs.length = n ∧ Xst K A H Z Z H p ∧ RelAll K A Z ds vs ∧ Post K A E (RlE K A) Z H (φ ds p) Q
def mDef (φ : FD) (m : EX (List D)) : EX D := m.bind fun ds => fun _ p => φ ds p
section
variable {n k : Nat} {f : Addr} {fd : FuncData} {ps : List Str} {φ : FD} {x : Str} {e : Expr} {es : List Expr} {m : EX (List D)} {p pos : Pos}
theorem callD {E : XK} (hn : ∀ env p ds p', m env p = .ok ds p' → ds.length = n) {σ : L2.St} {H : Hp} {Q : VK} (h : tR K A E (RlE K A) (mDef φ m) σ H Q) : tCall (spI K A n φ) [] E (tR K A E (RlA K A) m) σ H Q := by
  obtain ⟨H0, Z0, Z, env, p, s, q⟩ := h
  refine ⟨H0, Z0, Z, env, p, s, ?_⟩
  unfold mDef EX.bind at q
  revert q
  cases hm : m env p with
  | bad => exact fun q => q
  | ex c fs p' => exact fun q => q
  | ok ds p' =>
    intro q vs H1 Z1 x r
    have s1 := s.after x
    refine ⟨Z1, ds, p', ?_, s1.x.here, by rw [List.append_nil]; exact r, Post.shift RlE.dn q x⟩
    rw [List.append_nil, ← RelAll.length r]
    exact hn _ _ _ _ hm
theorem se_call (F : FnOk X.prog X.w X.K X.mg X.base (L2.CX X.prog X.w) k f fd ps (spI X.K A n φ)) (hr : Room k X.A) (hg : Gl X x) (hm : X.mg x = some (.ref f)) (hk : PySem.W.keepIn X.K (.ref f) = true) (hb : L2.Binds X.K fd ps []) (ha : SA A X (e :: es) m)
    (hn : ∀ env p ds p', m env p = .ok ds p' → ds.length = n) (hdb : (x == ("__debug__" : Str)) = false := by decide) (he : starEach (e :: es) X.env = (false, eval e X.env) :: starEach es X.env := by rfl) (hpl : (backTo pos (starEach es X.env)).any (·.1) = false := by rfl) :
    SE A X (.Call (.Name x p) (e :: es) [] pos) (mDef φ m) := fun E tk => pe_imp (pe_call F hr hg hm hk hb .nil (passes_call tk fun _ _ _ _ h => h) (ha E tk) hdb he hpl) fun σ H Q h => callD hn h
theorem se_call0 (F : FnOk X.prog X.w X.K X.mg X.base (L2.CX X.prog X.w) k f fd ps (spI X.K A 0 φ)) (hr : Room k X.A) (hg : Gl X x) (hm : X.mg x = some (.ref f)) (hk : PySem.W.keepIn X.K (.ref f) = true) (hb : L2.Binds X.K fd ps []) (hdb : (x == ("__debug__" : Str)) = false := by decide) :
    SE A X (.Call (.Name x p) [] [] pos) (mDef φ mNil) := fun E tk => pe_imp (pe_call0 F hr hg hm hk hb .nil (passes_call tk fun _ _ _ _ h => h) hdb) fun σ H Q h => by
  obtain ⟨H0, Z0, Z, env, p, s, q⟩ := h
  exact ⟨Z, [], p, rfl, s.x.here, .nil, q⟩
theorem mLen0 : ∀ env p ds p', mNil env p = R.ok ds p' → ds.length = 0 := fun _ _ _ _ h => by
  simp only [mNil] at h; cases h; rfl
theorem mLenS {n : Nat} {m : EX D} {k : EX (List D)} (h : ∀ env p ds p', k env p = R.ok ds p' → ds.length = n) : ∀ env p ds p', mCons m k env p = R.ok ds p' → ds.length = n + 1 := fun env p ds p' e => by
  unfold mCons EX.bind R.bind at e
  revert e
  cases m env p with
  | bad => exact fun e => nomatch e
  | ex c fs p => exact fun e => nomatch e
  | ok d p1 =>
    dsimp only
    cases hk : k env p1 with
    | bad => exact fun e => nomatch e
    | ex c fs p => exact fun e => nomatch e
    | ok es p2 =>
      dsimp only
      intro e
      cases e
      rw [List.length_cons, h _ _ _ _ hk]
end
/-! ### a def keeps its promise -/
/-- what a body tells -/
def RS.out : RS → R D
  | .nx _ p => .ok .non p
  | .rt d p => .ok d p
  | .ex c fs p => .ex c fs p
  | _ => .bad
/-- the slots at the entry -/
def startC (n : Nat) (ds : List D) : List Cell := ds.map .val ++ List.replicate (n - ds.length) .no
/-- a def of a body, n slots -/
def fd (n : Nat) (m : SX) : FD := fun ds p => (m (startC n ds) p).out
section
variable {P : Program} {w : World} {mg : Str → Option Value} {base : Heap}
theorem start_stt {Z : Fz} {H : Hp} {p : Pn} {N : List Str} {vs : List V} {ds : List D} (x : Xst K A H Z Z H p) (r : RelAll K A Z ds vs) : Stt K A H Z Z (L2.start N vs) H (startC N.length ds) p := by
  refine ⟨x, ?_, fun i c y h1 h2 => ?_, fun i j d e a ne h1 h2 => ?_⟩
  · unfold startC L2.start
    rw [List.length_append, List.length_append, List.length_map, List.length_map, List.length_replicate, List.length_replicate, r.length]
  · unfold startC at h1
    unfold L2.start at h2
    by_cases hi : i < ds.length
    · have hv : i < vs.length := by rw [← r.length]; exact hi
      rw [List.getElem?_append_left (by rw [List.length_map]; exact hi), List.getElem?_map] at h1
      rw [List.getElem?_append_left (by rw [List.length_map]; exact hv), List.getElem?_map] at h2
      rw [List.getElem?_eq_getElem hi] at h1
      cases h1
      obtain ⟨v, h3, h4⟩ := r.get (List.getElem?_eq_getElem hi)
      rw [h3] at h2
      cases h2
      exact ⟨v, rfl, h4⟩
    · rw [List.getElem?_append_right (by rw [List.length_map]; omega), List.getElem?_replicate] at h1
      split at h1
      · cases h1; trivial
      · cases h1
  · unfold startC at h1
    by_cases hi : i < ds.length
    · rw [List.getElem?_append_left (by rw [List.length_map]; exact hi), List.getElem?_map, List.getElem?_eq_getElem hi] at h1
      cases h1
    · rw [List.getElem?_append_right (by rw [List.length_map]; omega), List.getElem?_replicate] at h1
      split at h1 <;> cases h1
theorem fn_ok {x qual : Str} {st : Stmt} {f : Addr} {fdt : FuncData} {N ps : List Str} {k : Nat} {m : SX} (F : Fun K x qual st f fdt) (S : FnScope N ps (defScope st))
    (hbody : ∀ (cdv : Value) (B : Around) (outer : List Env) (s : Shared) (H : Hp) (E : XK), Room k (B.deeper (envOfC qual (defScope st) s.heap.objs.size f cdv)) → SSs A (cxOf (L2.CX P w) P w K mg base N qual (defScope st) f cdv B outer s H E) (defBody st) m) :
    FnOk P w K mg base (L2.CX P w) (k + 1) f fdt ps (spI K A ps.length (fd N.length m)) := by
  refine F.okX S (fun vs H Q E h => ?_) (fun cdv B outer s H vs Q E hr h => ⟨tS K A E m, hbody cdv B outer s H E hr E (takes_of rfl rfl rfl rfl), ?_⟩)
  · obtain ⟨_, _, _, h, _⟩ := h; exact h
  · obtain ⟨Z, ds, p, hl, x, r, q⟩ := h
    refine ⟨H, Z, Z, _, p, start_stt x r, ?_⟩
    unfold fd at q
    revert q
    cases m (startC N.length ds) p with
    | nx env p' => exact fun q σ' H' Z' l s => q .non H' Z' s.x .non
    | rt d p' => exact fun q v H' Z' x r => q v H' Z' x r
    | bk env p' => exact fun q => q.elim
    | ct env p' => exact fun q => q.elim
    | ex c fs p' => exact fun q od H' Z' x r => q od H' Z' x r
    | bad => exact fun q => q.elim
end
end
end Mn

/-! MnF: loops, comprehensions. -/
namespace Mn
open PySem PySem.Spec PyProof.Rows L2

/-- J walks the items ds, whatever comes between (the frozen part grows) -/
structure WkF (K : PySem.W.Frag) (A : Adr) (Z : Fz) (J : It) (ds : List D) : Prop where
  go : ∀ Z' H' p' i d, Fz.Le Z Z' → Xst K A H' Z' Z' H' p' → ds[i]? = some d → J.go i H' ∧ ∀ x H'', J.yld i H' x H'' → ∃ Z'', Xst K A H' Z' Z'' H'' p' ∧ Rel K A Z'' d x
  stop : ∀ Z' H' p', Fz.Le Z Z' → Xst K A H' Z' Z' H' p' → J.stop ds.length H'
/-- .. while what stands at H stands -/
structure WkB (K : PySem.W.Frag) (A : Adr) (H : Hp) (Z : Fz) (J : It) (ds : List D) : Prop where
  go : ∀ Z' H' p' i d, Xst K A H Z Z' H' p' → ds[i]? = some d → J.go i H' ∧ ∀ x H'', J.yld i H' x H'' → ∃ Z'', Xst K A H' Z' Z'' H'' p' ∧ Rel K A Z'' d x
  stop : ∀ Z' H' p', Xst K A H Z Z' H' p' → J.stop ds.length H'
theorem WkF.b {K : PySem.W.Frag} {A : Adr} {H : Hp} {Z : Fz} {J : It} {ds : List D} (w : WkF K A Z J ds) : WkB K A H Z J ds :=
  ⟨fun Z' H' p' i d x h => w.go Z' H' p' i d x.le x.here h, fun Z' H' p' x => w.stop Z' H' p' x.le x.here⟩
def RlW (K : PySem.W.Frag) (A : Adr) (_ : Hp) (Z : Fz) (_ : Hp) (ds : List D) (J : It) : Prop := WkF K A Z J ds
def RlWB (K : PySem.W.Frag) (A : Adr) (_ : Hp) (Z : Fz) (H : Hp) (ds : List D) (J : It) : Prop := WkB K A H Z J ds
/-- what a for walks: kept for good; what a comprehension walks: looked at -/
def SI (A : Adr) (X : Cx) (tg iter : Expr) (m : EX (List D)) : Prop := ∀ E, Tk X E → PI X tg iter (tR X.K A E (RlW X.K A) m)
def SIB (A : Adr) (X : Cx) (tg iter : Expr) (m : EX (List D)) : Prop := ∀ E, Tk X E → PI X tg iter (tR X.K A E (RlWB X.K A) m)

section
variable {A : Adr} {X : Cx} {K : PySem.W.Frag} {tg : Expr}
theorem RlW.dn : Down (RlW K A) := fun _ _ _ _ _ _ _ h => h
theorem RlWB.dn : Down (RlWB K A) := fun _ _ _ _ _ _ _ h => h
theorem pi_imp {e : Expr} {t t' : TI} (h : PI X tg e t) (f : ∀ σ H Q, t' σ H Q → t σ H Q) : PI X tg e t' := ⟨fun pins s σ H R I q => h.run pins s σ H R I (f _ _ _ q)⟩
theorem sib_of {e : Expr} {m : EX (List D)} (h : SI A X tg e m) : SIB A X tg e m := fun E tk => pi_imp (h E tk) fun σ H Q ⟨H0, Z0, Z, env, p, s, q⟩ => ⟨H0, Z0, Z, env, p, s, q.read fun _ _ _ _ r => WkF.b r⟩

/-! ### lists and tuples -/
def dItems : D → Option (List D)
  | .lst ds => some ds
  | .tup ds => some ds
  | .scr ns => some (ns.map .int)
  | _ => none
def mItems (m : EX D) : EX (List D) := m.bind fun d => lift (dItems d)
theorem wk_list {H : Hp} {Z : Fz} {a : Addr} {vs : List V} {ds : List D} (h : ∀ Z' H' p', Xst K A H Z Z' H' p' → SqL K H' a vs) (r : RelAll K A Z ds vs) : WkB K A H Z (Itl K a) ds := by
  refine ⟨fun Z' H' p' i d x hd => ?_, fun Z' H' p' x => ⟨vs, h _ _ _ x, by rw [r.length]; exact Nat.le_refl _⟩⟩
  obtain ⟨v, h1, h2⟩ := r.get hd
  refine ⟨⟨vs, v, h _ _ _ x, h1⟩, fun y H'' ⟨e, hy⟩ => ?_⟩
  subst e
  have := hy vs (h _ _ _ x)
  rw [h1] at this; cases this
  exact ⟨Z', x.here, h2.mono x.le⟩
theorem wk_listF {Z : Fz} {a : Addr} {vs : List V} {ds : List D} (h : SqL K Z.F a vs) (r : RelAll K A Z ds vs) : WkF K A Z (Itl K a) ds := by
  refine ⟨fun Z' H' p' i d l x hd => ?_, fun Z' H' p' l x => ⟨vs, SqL.sub x (SqL.mono l.f h), by rw [r.length]; exact Nat.le_refl _⟩⟩
  obtain ⟨v, h1, h2⟩ := r.get hd
  have hs : SqL K H' a vs := SqL.sub x (SqL.mono l.f h)
  refine ⟨⟨vs, v, hs, h1⟩, fun y H'' ⟨e, hy⟩ => ?_⟩
  subst e
  have := hy vs hs
  rw [h1] at this; cases this
  exact ⟨Z', x, h2.mono l⟩
theorem wk_tupF {Z : Fz} {a : Addr} {vs : List V} {ds : List D} (h : SqT K Z.F a vs) (r : RelAll K A Z ds vs) : WkF K A Z (Itt K a) ds := by
  refine ⟨fun Z' H' p' i d l x hd => ?_, fun Z' H' p' l x => ⟨vs, SqT.sub x (SqT.mono l.f h), by rw [r.length]; exact Nat.le_refl _⟩⟩
  obtain ⟨v, h1, h2⟩ := r.get hd
  have hs : SqT K H' a vs := SqT.sub x (SqT.mono l.f h)
  refine ⟨⟨vs, v, hs, h1⟩, fun y H'' ⟨e, hy⟩ => ?_⟩
  subst e
  have := hy vs hs
  rw [h1] at this; cases this
  exact ⟨Z', x, h2.mono l⟩
/-- a list or a tuple is walked -/
theorem pi_seq {l : Expr} {tl : TE} (hl : PE X l tl) : PI X tg l (fun σ H R => tl σ H fun x H1 => ∃ a, x = .ref a ∧ (((∃ xs, SqL X.K H1 a xs) ∧ R (Itl X.K a) H1) ∨ ((∃ xs, SqT X.K H1 a xs) ∧ R (Itt X.K a) H1))) := by
  refine ⟨fun pins s σ H R I h => ?_⟩
  refine thn (hl.run pins s σ H _ I h) fun v s1 ⟨x, H1, I1, r1, q1⟩ => ?_
  obtain ⟨a, e, ⟨⟨xs, hq⟩, q⟩ | ⟨⟨xs, hq⟩, q⟩⟩ := q1
  · subst e
    cases r1
    obtain ⟨its, rv, p, hz⟩ := I1.list hq
    refine wpAny_pyIter_list p.isList ?_
    refine ⟨s1.heap.objs.size, [s1.heap.objs.size], _, _, H1, rfl, I1.kept (t' := s1.toks) fun b o e => Heap.get?_push_of_some _ e, turn_list a _, ⟨_, Heap.get?_push_size _ rfl, rfl, rfl⟩, fun b hb => ?_, q⟩
    have e : b = s1.heap.objs.size := by simpa using hb
    subst e
    exact I1.fpOk (Nat.le_refl _) (I1.hok.fresh (Nat.le_refl _))
  · subst e
    cases r1
    obtain ⟨its, rv, p, hz⟩ := I1.tuple hq
    refine wpAny_pyIter_tuple (show s1.heap.IsTuple a its.toArray from p) ?_
    refine ⟨s1.heap.objs.size, [s1.heap.objs.size], _, _, H1, rfl, I1.kept (t' := s1.toks) fun b o e => Heap.get?_push_of_some _ e, turn_tuple a _, ⟨_, Heap.get?_push_size _ rfl, rfl, rfl⟩, fun b hb => ?_, q⟩
    have e : b = s1.heap.objs.size := by simpa using hb
    subst e
    exact I1.fpOk (Nat.le_refl _) (I1.hok.fresh (Nat.le_refl _))
theorem si_seq {l : Expr} {m : EX D} (h : SE A X l m) : SI A X tg l (mItems m) := fun E tk => pi_imp (pi_seq (h E tk)) fun σ H R ⟨H0, Z0, Z, env, p, s, q⟩ => by
  refine ⟨H0, Z0, Z, env, p, s, bindP RlW.dn q fun x H1 d Z1 p1 y1 r1 q1 => ?_⟩
  obtain ⟨ds, hd, q2⟩ := liftP q1
  have x1 := (s.after y1).x
  cases d <;> simp only [dItems, reduceCtorEq] at hd
  · cases hd
    cases r1 with
    | lst h r => exact ⟨_, rfl, .inl ⟨⟨_, SqL.of (x1.sub _ _ h)⟩, q2 _ H1 Z1 x1.here (wk_listF (SqL.of h) r)⟩⟩
  · cases hd
    cases r1 with
    | tup h r => exact ⟨_, rfl, .inr ⟨⟨_, SqT.sub x1 h⟩, q2 _ H1 Z1 x1.here (wk_tupF h r)⟩⟩
  · cases hd
    cases r1 with
    | scr h => exact ⟨_, rfl, .inl ⟨⟨_, SqL.sub x1 h⟩, q2 _ H1 Z1 x1.here (wk_listF h (RelAll.ints _))⟩⟩
theorem sib_seq {l : Expr} {m : EX D} (h : SB A X l m) : SIB A X tg l (mItems m) := fun E tk => pi_imp (pi_seq (h E tk)) fun σ H R ⟨H0, Z0, Z, env, p, s, q⟩ => by
  refine ⟨H0, Z0, Z, env, p, s, bindP RlWB.dn q fun x H1 d Z1 p1 y1 r1 q1 => ?_⟩
  obtain ⟨ds, hd, q2⟩ := liftP q1
  have x1 := (s.after y1).x
  cases d <;> simp only [dItems, reduceCtorEq] at hd
  · cases hd
    obtain ⟨a, vs, rfl, h1, h2⟩ := (RlB.re r1 : RlB X.K A H1 Z1 H1 _ _).lst x1
    exact ⟨a, rfl, .inl ⟨⟨_, SqL.of h1⟩, q2 _ H1 Z1 x1.here (wk_list (fun Z' H' p' y => y.sqL x1 (SqL.of h1)) h2)⟩⟩
  · cases hd
    rcases r1 with r1 | ⟨_, _, _, r1⟩
    · cases r1 with
      | tup h r => exact ⟨_, rfl, .inr ⟨⟨_, SqT.sub x1 h⟩, q2 _ H1 Z1 x1.here (wk_tupF h r).b⟩⟩
    · exact r1.elim
  · cases hd
    rcases r1 with r1 | ⟨_, _, _, r1⟩
    · cases r1 with
      | scr h => exact ⟨_, rfl, .inl ⟨⟨_, SqL.sub x1 h⟩, q2 _ H1 Z1 x1.here (wk_listF h (RelAll.ints _)).b⟩⟩
    · exact r1.elim

/-! ### ranges -/
/-- lo, lo + c, .. (n of them) -/
def rng (lo c : Int) (n : Nat) : List D := (List.range n).map fun (i : Nat) => D.int (lo + (i : Int) * c)
theorem wk_rng (lo : Int) (n : Nat) {Z : Fz} : WkF K A Z (Itr lo n) (rng lo 1 n) := by
  refine ⟨fun Z' H' p' i d l x hd => ?_, fun Z' H' p' l x => by unfold rng; rw [List.length_map, List.length_range]; exact Nat.le_refl n⟩
  unfold rng at hd
  rw [List.getElem?_map, Option.map_eq_some_iff] at hd
  obtain ⟨j, h1, rfl⟩ := hd
  obtain ⟨hi, h2⟩ := List.getElem?_eq_some_iff.mp h1
  rw [List.getElem_range] at h2
  subst h2
  rw [List.length_range] at hi
  refine ⟨hi, fun y H'' ⟨e, hy⟩ => ?_⟩
  subst e hy
  rw [Int.mul_one]
  exact ⟨Z', x, .int _⟩
theorem wk_rngC (lo c : Int) (n : Nat) {Z : Fz} : WkF K A Z (Itc lo c n) (rng lo c n) := by
  refine ⟨fun Z' H' p' i d l x hd => ?_, fun Z' H' p' l x => by unfold rng; rw [List.length_map, List.length_range]; exact Nat.le_refl n⟩
  unfold rng at hd
  rw [List.getElem?_map, Option.map_eq_some_iff] at hd
  obtain ⟨j, h1, rfl⟩ := hd
  obtain ⟨hi, h2⟩ := List.getElem?_eq_some_iff.mp h1
  rw [List.getElem_range] at h2
  subst h2
  rw [List.length_range] at hi
  refine ⟨hi, fun y H'' ⟨e, hy⟩ => ?_⟩
  subst e hy
  exact ⟨Z', x, .int _⟩
def small (i : Int) : Bool := decide (-(2 ^ 62) ≤ i ∧ i < 2 ^ 62)
def dRng1 : D → Option (List D)
  | .int j => if small j then some (rng 0 1 j.toNat) else none
  | _ => none
def dRng2 : D → D → Option (List D)
  | .int i, .int j => if small i && small j then some (rng i 1 (j - i).toNat) else none
  | _, _ => none
def dRng3 : D → D → D → Option (List D)
  | .int i, .int j, .int c => if small i && small j && decide (c = -1) then some (rng i (-1) (i - j).toNat) else none
  | _, _, _ => none
section
variable {a b c : Expr} {ma mb mc : EX D} {p pos : Pos}
theorem si_range1 (hg : Gl X "range") (hm : X.mg "range" = none) (ha : SB A X a ma) (hs : starEach [a] X.env = [(false, eval a X.env)] := by rfl) : SI A X tg (.Call (.Name "range" p) [a] [] pos) (ma.bind fun d => lift (dRng1 d)) := fun E tk =>
  pi_imp (pi_range1 hg hm (pa_cons (ha E tk) pa_nil hs) hs) fun σ H R ⟨H0, Z0, Z, env, p, s, q⟩ => by
    refine ⟨H0, Z0, Z, env, p, s, bindP RlW.dn q fun x H1 d Z1 p1 y1 r1 q1 => ?_⟩
    obtain ⟨ds, hd, q2⟩ := liftP q1
    cases d <;> simp only [dRng1, reduceCtorEq] at hd
    split at hd
    · rename_i hl
      cases hd
      have hl' := of_decide_eq_true hl
      exact ⟨_, by rw [r1.int], hl'.1, hl'.2, q2 _ H1 Z1 (s.after y1).x.here (wk_rng 0 _)⟩
    · cases hd
theorem si_range2 (hg : Gl X "range") (hm : X.mg "range" = none) (ha : SB A X a ma) (hb : SB A X b mb) (hs : starEach [a, b] X.env = [(false, eval a X.env), (false, eval b X.env)] := by rfl) (hs2 : starEach [b] X.env = [(false, eval b X.env)] := by rfl) (hs3 : starEach [a, b] X.env = (false, eval a X.env) :: starEach [b] X.env := by rfl) :
    SI A X tg (.Call (.Name "range" p) [a, b] [] pos) (ma.bind fun d => mb.bind fun e => lift (dRng2 d e)) := fun E tk =>
  pi_imp (pi_range2 hg hm (pa_cons (ha E tk) (pa_cons (hb E tk) pa_nil hs2) hs3) hs hs2) fun σ H R ⟨H0, Z0, Z, env, p, s, q⟩ => by
    refine ⟨H0, Z0, Z, env, p, s, bindP RlW.dn q fun x H1 d Z1 p1 y1 r1 q1 => ?_⟩
    refine ⟨H0, Z0, Z1, env, p1, s.after y1, bindP RlW.dn q1 fun y H2 e Z2 p2 y2 r2 q2 => ?_⟩
    obtain ⟨ds, hd, q3⟩ := liftP q2
    cases d <;> cases e <;> simp only [dRng2, reduceCtorEq] at hd
    split at hd
    · rename_i hl
      cases hd
      rw [Bool.and_eq_true] at hl
      have h1 := of_decide_eq_true hl.1
      have h2 := of_decide_eq_true hl.2
      exact ⟨_, _, by rw [r1.int, r2.int], ⟨h1.1, h1.2, h2.1, h2.2⟩, q3 _ H2 Z2 ((s.after y1).after y2).x.here (wk_rng _ _)⟩
    · cases hd
theorem si_range3 (hg : Gl X "range") (hm : X.mg "range" = none) (ha : SB A X a ma) (hb : SB A X b mb) (hc : SB A X c mc) (hs1 : starEach [a, b, c] X.env = (false, eval a X.env) :: starEach [b, c] X.env := by rfl) (hs2 : starEach [b, c] X.env = (false, eval b X.env) :: starEach [c] X.env := by rfl) (hs3 : starEach [c] X.env = (false, eval c X.env) :: starEach [] X.env := by rfl) (hpl : (backTo pos (starEach [b, c] X.env)).any (·.1) = false := by rfl) :
    SI A X tg (.Call (.Name "range" p) [a, b, c] [] pos) (ma.bind fun d => mb.bind fun e => mc.bind fun f => lift (dRng3 d e f)) := fun E tk =>
  pi_imp (pi_range3 hg hm (pa_cons (ha E tk) (pa_cons (hb E tk) (pa_cons (hc E tk) pa_nil hs3) hs2) hs1) hs1 hpl) fun σ H R ⟨H0, Z0, Z, env, p, s, q⟩ => by
    refine ⟨H0, Z0, Z, env, p, s, bindP RlW.dn q fun x H1 d Z1 p1 y1 r1 q1 => ?_⟩
    refine ⟨H0, Z0, Z1, env, p1, s.after y1, bindP RlW.dn q1 fun y H2 e Z2 p2 y2 r2 q2 => ?_⟩
    refine ⟨H0, Z0, Z2, env, p2, (s.after y1).after y2, bindP RlW.dn q2 fun z H3 f Z3 p3 y3 r3 q3 => ?_⟩
    obtain ⟨ds, hd, q4⟩ := liftP q3
    cases d <;> cases e <;> cases f <;> simp only [dRng3, reduceCtorEq] at hd
    split at hd
    · rename_i hl
      cases hd
      rw [Bool.and_eq_true, Bool.and_eq_true] at hl
      have h1 := of_decide_eq_true hl.1.1
      have h2 := of_decide_eq_true hl.1.2
      have h3 := of_decide_eq_true hl.2
      subst h3
      exact ⟨_, _, _, _, by rw [r1.int, r2.int, r3.int], RgC.neg h1.1 h1.2 h2.1 h2.2, q4 _ H3 Z3 (((s.after y1).after y2).after y3).x.here (wk_rngC _ _ _)⟩
    · cases hd
end

/-! ### for -/
/-- one item after the other -/
def loopF (g : GX) (b : SX) : List D → SX
  | [] => fun env p => .nx env p
  | d :: ds => fun env p => match g d env with
    | none => .bad
    | some env1 => match b env1 p with
      | .nx env2 p2 => loopF g b ds env2 p2
      | .ct env2 p2 => loopF g b ds env2 p2
      | .bk env2 p2 => .nx env2 p2
      | r => r
def sFor (m : EX (List D)) (g : GX) (b : SX) : SX := SX.of m fun ds => loopF g b ds
theorem ss_for {iter : Expr} {body : List Stmt} {m : EX (List D)} {g : GX} {b : SX} {pos : Pos} (hp : PassesOwn (model X.prog X.w) X.A X.env X.xe) (hc : X.calm = true) (hi : SI A X tg iter m) (hg : SG A X tg g) (hb : SSs A X body b)
    (hs : ∀ x, foldedSetIterable iter X.env x = pure x := by intro _; rfl) : SS A X (.For tg iter body [] pos) (sFor m g b) := fun E tk => ps_imp (ps_for hp hc (hi E tk) hg (hb E tk) hs) fun D' σ H ⟨H0, Z0, Z, env, p, s, q⟩ => by
  refine ⟨H0, Z0, Z, env, p, s, ofP s q fun J H1 ds Z1 p1 x1 s1 w q1 => ?_⟩
  have w : WkF X.K A Z1 J ds := w
  refine ⟨fun i m σ' H' => ∃ Z' env' p', m = ds.length - i ∧ i ≤ ds.length ∧ Fz.Le Z1 Z' ∧ Stt X.K A H0 Z0 Z' σ' H' env' p' ∧ PostS X.K A E H0 Z0 Z' D' (loopF g b (ds.drop i) env' p'), ⟨_, Z1, env, p1, rfl, Nat.zero_le _, Fz.Le.refl _, s1, by rw [List.drop_zero]; exact q1⟩, ?_⟩
  rintro i m σ' H' ⟨Z', env', p', rfl, hi, l, s', q'⟩
  by_cases hlt : i < ds.length
  · obtain ⟨go, yl⟩ := w.go Z' H' p' i ds[i] l s'.x.here (List.getElem?_eq_getElem hlt)
    refine .inr ⟨go, fun σ2 H2 => ∃ Z2 env2 p2, Fz.Le Z1 Z2 ∧ Stt X.K A H0 Z0 Z2 σ2 H2 env2 p2 ∧ PostS X.K A E H0 Z0 Z2 D' (loopF g b (ds.drop (i + 1)) env2 p2), fun σ2 H2 ⟨Z2, env2, p2, l2, s2, q2⟩ => ⟨ds.length - (i + 1), by omega, Z2, env2, p2, rfl, hlt, l2, s2, q2⟩, fun x H'' hy => ?_⟩
    obtain ⟨Z'', x2, r2⟩ := yl x H'' hy
    have s2 := s'.after x2
    rw [List.drop_eq_getElem_cons hlt] at q'
    unfold loopF at q'
    revert q'
    cases hg' : g ds[i] env' with
    | none => exact fun q' => q'.elim
    | some env1 =>
      intro q'
      refine ⟨H0, Z0, Z'', env', p', ds[i], env1, s2, r2, hg', fun σ3 s3 => ⟨H0, Z0, Z'', env1, p', s3, ?_⟩⟩
      dsimp only at q'
      revert q'
      cases b env1 p' with
      | nx env2 p2 => exact fun q' σ4 H4 Z4 l4 s4 => ⟨Z4, env2, p2, (l.trans x2.le).trans l4, s4, q'.le (x2.le.trans l4)⟩
      | ct env2 p2 => exact fun q' σ4 H4 Z4 l4 s4 => ⟨Z4, env2, p2, (l.trans x2.le).trans l4, s4, q'.le (x2.le.trans l4)⟩
      | bk env2 p2 => exact fun q' σ4 H4 Z4 l4 s4 => q' σ4 H4 Z4 (x2.le.trans l4) s4
      | rt d p2 => exact fun q' => q'
      | ex c fs p2 => exact fun q' => q'
      | bad => exact fun q' => q'
  · have e : i = ds.length := by omega
    subst e
    rw [List.drop_length] at q'
    exact .inl ⟨w.stop Z' H' p' l s'.x.here, q' σ' H' Z' (Fz.Le.refl _) s'⟩

/-! ### while: at most so many turns -/
def loopW (c : EX Bool) (b : SX) : Nat → SX
  | 0 => fun _ _ => .bad
  | n + 1 => SX.of c fun t env p => if t then (match b env p with
      | .nx env2 p2 => loopW c b n env2 p2
      | .ct env2 p2 => loopW c b n env2 p2
      | .bk env2 p2 => .nx env2 p2
      | r => r) else .nx env p
theorem ss_while (n : Nat) {c : Expr} {body : List Stmt} {mc : EX Bool} {b : SX} {pos : Pos} (hp : PassesOwn (model X.prog X.w) X.A X.env X.xe) (hc : STt A X c mc) (hb : SSs A X body b) : SS A X (.While c body [] pos) (loopW mc b n) := fun E tk => ps_imp (ps_while hp (hc E tk) (hb E tk)) fun D' σ H ⟨H0, Z0, Z, env, p, s, q⟩ => by
  refine ⟨fun m σ' H' => ∃ Z' env' p', Stt X.K A H0 Z0 Z' σ' H' env' p' ∧ Fz.Le Z Z' ∧ PostS X.K A E H0 Z0 Z' D' (loopW mc b m env' p'), ⟨n, Z, env, p, s, Fz.Le.refl _, q⟩, ?_⟩
  rintro m σ' H' ⟨Z', env', p', s', l, q'⟩
  cases m with
  | zero => exact q'.elim
  | succ m =>
    refine ⟨H0, Z0, Z', env', p', s', ofP s' q' fun t H1 t' Z1 p1 x1 s1 r1 q1 => ?_⟩
    cases (show t' = t from r1)
    cases t with
    | false =>
      rw [if_neg Bool.false_ne_true]
      rw [if_neg Bool.false_ne_true] at q1
      exact q1 σ' H1 Z1 (Fz.Le.refl _) s1
    | true =>
      rw [if_pos rfl]
      rw [if_pos rfl] at q1
      refine ⟨fun σ2 H2 => ∃ Z2 env2 p2, Stt X.K A H0 Z0 Z2 σ2 H2 env2 p2 ∧ Fz.Le Z Z2 ∧ PostS X.K A E H0 Z0 Z2 D' (loopW mc b m env2 p2), fun σ2 H2 ⟨Z2, env2, p2, s2, l2, q2⟩ => ⟨m, Nat.lt_succ_self _, Z2, env2, p2, s2, l2, q2⟩, H0, Z0, Z1, env', p1, s1, ?_⟩
      revert q1
      cases b env' p1 with
      | nx env2 p2 => exact fun q1 σ4 H4 Z4 l4 s4 => ⟨Z4, env2, p2, s4, (l.trans x1.le).trans l4, q1.le l4⟩
      | ct env2 p2 => exact fun q1 σ4 H4 Z4 l4 s4 => ⟨Z4, env2, p2, s4, (l.trans x1.le).trans l4, q1.le l4⟩
      | bk env2 p2 => exact fun q1 σ4 H4 Z4 l4 s4 => q1 σ4 H4 Z4 l4 s4
      | rt d p2 => exact fun q1 => q1
      | ex c fs p2 => exact fun q1 => q1
      | bad => exact fun q1 => q1

/-! ### comprehensions -/
/-- the slots of the block's own names forgotten -/
def wipeC (env : List Cell) : List Nat → List Cell
  | [] => env
  | v :: vs => (wipeC env vs).set v .no
/-- an answer that is no exception -/
def R.calm {α : Type} : R α → R α
  | .ok a p => .ok a p
  | _ => .bad
/-- [e for target in items if t]: over the items, the made ones so far -/
def loopC (g : GX) (t : EX Bool) (m : EX D) (env : List Cell) : List D → List D → Pn → R (List D)
  | [], acc, p => .ok acc p
  | d :: ds, acc, p => match g d env with
    | none => .bad
    | some env1 => (t env1 p).calm.bind fun c p1 =>
      if c then (m env1 p1).calm.bind fun e p2 => if acc.length < sizeLine then loopC g t m env ds (acc ++ [e]) p2 else .bad
      else loopC g t m env ds acc p1
def mComp (vs : List Nat) (mi : EX (List D)) (g : GX) (t : EX Bool) (m : EX D) : EX D := fun env p => (mi env p).bind fun ds p1 => (loopC g t m (wipeC env vs) ds [] p1).bind fun es p2 => .ok (.lst es) p2
def STs (A : Adr) (X : Cx) (es : List Expr) (m : EX Bool) : Prop := ∀ E, Tk X E → PTs X es (tR X.K A E RlT m)
theorem sts_nil : STs A X [] (fun _ p => .ok true p) := fun E _ => ⟨fun pins s σ H Q I ⟨H0, Z0, Z, env, p, st, q⟩ => pts_nil.run pins s σ H Q I (q true H Z st.x.here rfl)⟩
theorem sts_one {c : Expr} {m : EX Bool} (h : STt A X c m) : STs A X [c] m := fun E tk => pts_one (h E tk)
theorem Stt.wipe {H0 H : Hp} {Z0 Z : Fz} {σ : L2.St} {env : List Cell} {p : Pn} (s : Stt K A H0 Z0 Z σ H env p) : ∀ vs : List Nat, Stt K A H0 Z0 Z (wipe σ vs) H (wipeC env vs) p
  | [] => s
  | v :: vs => by
    have s1 := Stt.wipe s vs
    refine ⟨s1.x, by unfold wipeC L2.wipe; rw [List.length_set, List.length_set]; exact s1.len, fun j c y h1 h2 => ?_, fun j k d1 d2 a ne h1 h2 h3 => ?_⟩
    · unfold wipeC at h1
      unfold L2.wipe at h2
      rcases set_at h1 with ⟨_, rfl⟩ | ⟨n1, h1⟩
      · trivial
      · rcases set_at h2 with ⟨e, _⟩ | ⟨_, h2⟩
        · exact absurd e n1
        · exact s1.cells j c y h1 h2
    · unfold wipeC at h1 h2
      unfold L2.wipe at h3 ⊢
      rcases set_at h1 with ⟨_, e⟩ | ⟨n1, h1⟩
      · cases e
      · rcases set_at h2 with ⟨_, e⟩ | ⟨n2, h2⟩
        · cases e
        · rw [List.getElem?_set_ne (Ne.symm n1)] at h3
          rw [List.getElem?_set_ne (Ne.symm n2)]
          exact s1.apart j k d1 d2 a ne h1 h2 h3
theorem wipe_out_set {σ : L2.St} {i : Nat} {y : Option V} : ∀ (ws : List Nat), i ∉ ws → wipe (σ.set i y) ws = (wipe σ ws).set i y := by
  intro ws
  induction ws with
  | nil => intro _; rfl
  | cons w ws ih =>
    intro hw
    unfold L2.wipe
    rw [ih (fun z => hw (List.mem_cons_of_mem _ z)), List.set_comm _ _ (fun z => hw (by rw [z]; exact List.mem_cons_self))]
theorem wipe_set {σ : L2.St} {i : Nat} {y : Option V} : ∀ {vs : List Nat}, i ∈ vs → wipe (σ.set i y) vs = wipe σ vs
  | [], h => by cases h
  | v :: vs, h => by
    unfold L2.wipe
    by_cases e : i ∈ vs
    · rw [wipe_set e]
    · have hv : i = v := by
        rcases List.mem_cons.mp h with h | h
        · exact h
        · exact absurd h e
      subst hv
      rw [wipe_out_set vs e, List.set_set]
theorem wipe_set_set {σ : L2.St} {i : Nat} {y z : Option V} (vs : List Nat) : (wipe (σ.set i y) vs).set i z = (wipe σ vs).set i z := by
  by_cases e : i ∈ vs
  · rw [wipe_set e]
  · rw [wipe_out_set vs e, List.set_set]
theorem wipe_wipe {σ : L2.St} : ∀ (vs : List Nat), wipe (wipe σ vs) vs = wipe σ vs
  | [] => rfl
  | v :: vs => by
    show (wipe ((wipe σ vs).set v none) vs).set v none = (wipe σ vs).set v none
    rw [wipe_set_set, wipe_wipe vs]
/-- a comprehension's target: it stores at the block's own slots alone -/
def tGw (K : PySem.W.Frag) (A : Adr) (vs : List Nat) (g : GX) : TG := fun v σ H Q => ∃ H0 Z0 Z env p d env', Stt K A H0 Z0 Z σ H env p ∧ Rel K A Z d v ∧ g d env = some env' ∧ ∀ σ', Stt K A H0 Z0 Z σ' H env' p → wipe σ' vs = wipe σ vs → Q σ' H
def tGws (K : PySem.W.Frag) (A : Adr) (vs : List Nat) (g : GXs) : TGs := fun xs σ H Q => ∃ H0 Z0 Z env p ds env', Stt K A H0 Z0 Z σ H env p ∧ RelAll K A Z ds xs ∧ g ds env = some env' ∧ ∀ σ', Stt K A H0 Z0 Z σ' H env' p → wipe σ' vs = wipe σ vs → Q σ' H
def SGw (A : Adr) (X : Cx) (vs : List Nat) (tg : Expr) (g : GX) : Prop := PG X tg (tGw X.K A vs g)
def SGws (A : Adr) (X : Cx) (vs : List Nat) (tg : List Expr) (g : GXs) : Prop := PGs X tg (tGws X.K A vs g)
theorem sgw_n (i : Nat) {vs : List Nat} {x : Str} {pos : Pos} (hN : X.N.Nodup) (hi : X.N[i]? = some x := by rfl) (hx : Loc X.env.scope x := by first | exact Or.inl rfl | exact Or.inr rfl) (hm : i ∈ vs := by decide) (hf : X.fn x = true ∨ X.env.scope.names.lookup x = some .local := by first | exact .inl rfl | exact .inr rfl | assumption) : SGw A X vs (.Name x pos) (gN i) :=
  pg_imp (pg_name hN hi hx hf) fun v σ H Q ⟨H0, Z0, Z, env, p, d, env', s, r, h, q⟩ => by
    simp only [gN, Option.some.injEq] at h
    subst h
    exact q _ (s.setV i r) (wipe_set hm)
theorem sgws_nil {vs : List Nat} : SGws A X vs [] gNilX := pgs_imp pgs_nil fun v σ H Q ⟨H0, Z0, Z, env, p, ds, env', s, r, h, q⟩ => by
  match ds, v, r with
  | [], _, .nil => 
    have h' : some env = some env' := h
    cases h'
    exact ⟨rfl, q σ s rfl⟩
  | d :: ds, _, .cons _ _ => exact absurd h (by unfold gNilX; simp)
theorem sgws_cons {vs : List Nat} {e : Expr} {es : List Expr} {g : GX} {k : GXs} (h : SGw A X vs e g) (hk : SGws A X vs es k) (hs : (assignEach (e :: es) X.env).map (·.2) = assign e X.env :: (assignEach es X.env).map (·.2) := by rfl) : SGws A X vs (e :: es) (gConsX g k) := pgs_imp (pgs_cons h hk hs) fun v σ H Q ⟨H0, Z0, Z, env, p, ds, env', s, r, hg, q⟩ => by
  match ds, v, r with
  | [], _, .nil => cases hg
  | d :: ds, _, .cons r1 r2 =>
    simp only [gConsX, Option.bind_eq_some_iff] at hg
    obtain ⟨env1, h1, h2⟩ := hg
    exact ⟨_, _, rfl, H0, Z0, Z, env, p, d, env1, s, r1, h1, fun σ1 s1 e1 => ⟨H0, Z0, Z, env1, p, ds, env', s1, r2, h2, fun σ2 s2 e2 => q σ2 s2 (e2.trans e1)⟩⟩
theorem sgw_t {vs : List Nat} {es : List Expr} {kk : Nat} {k : GXs} {n : Nat} {pos : Pos} (hc : X.calm = true) (h : SGws A X vs es k) (hn : (assignEach es X.env).length = n := by rfl) (hst : (assignEach es X.env).findIdx? (·.1) = none := by rfl) : SGw A X vs (.Tuple es kk pos) (gTupX n k) :=
  pg_imp (pg_tup hc h hn hst) fun v σ H Q ⟨H0, Z0, Z, env, p, d, env', s, r, hg, q⟩ => by
    cases d <;> simp only [gTupX, reduceCtorEq] at hg
    split at hg
    · rename_i hl
      cases r with
      | tup h r => exact ⟨_, _, rfl, SqT.sub s.x h, by rw [← r.length]; exact hl, H0, Z0, Z, env, p, _, env', s, r, hg, q⟩
    · cases hg
/-- a list that nobody else has is written -/
theorem Xst.wr {H0 H : Hp} {Z0 Z : Fz} {p : Pn} {a : Addr} {vs vs' : List V} (x : Xst K A H0 Z0 Z H p) (h0 : H0 a = none) (hz : Z.F a = none) (hp : Z.pa ≠ some a) (ha : H a = some (.lst vs)) : Xst K A H0 Z0 Z (upd H a (.lst vs')) p := by
  refine ⟨x.le, fun b u e => ?_, ?_, fun b u hb hp' hn' => ?_, fun b hb => ?_, x.fz, x.pz, fun t ht' => ?_⟩
  · rw [upd_ne (fun z => by rw [z, hz] at e; cases e)]; exact x.sub b u e
  · have hq := x.pen
    cases p with
    | none => exact hq
    | some r =>
      obtain ⟨b, q1, q2, ac, q3, q4⟩ := hq
      exact ⟨b, q1, q2, ac, by rw [upd_ne (fun z => hp (by rw [← z]; exact q1))]; exact q3, q4⟩
  · rw [upd_ne (fun z => by rw [z, h0] at hb; cases hb)]; exact x.fr b u hb hp' hn'
  · by_cases z : b = a
    · rw [z]; exact h0
    · rw [upd_ne z] at hb; exact x.th b hb
  · obtain ⟨ps, q1, q2, q3⟩ := x.tabs t ht'
    refine ⟨ps, by rw [upd_ne (fun z => by rw [z, ha] at q1; cases q1)]; exact q1, q2, fun pos cv hc => ?_⟩
    obtain ⟨c, e1, e2⟩ := q3 pos cv hc
    exact ⟨c, e1, by rw [upd_ne (fun z => by rw [z] at e2; exact codeO_ne_lst (ha.symm.trans e2))]; exact e2⟩
theorem so_comp {elt tgt iter : Expr} {ifs : List Expr} {scope : Scope} {own : List (Str × Nat)} {pos : Pos} {mi : EX (List D)} {g : GX} {t : EX Bool} {m : EX D} (hc : X.calm = true) (hN : X.N.Nodup) (hi : SIB A X tgt iter mi) (ok : BlkOk X.N X.env.scope scope own)
    (hg : ∀ (s : Shared) (H : Hp) (C : Addr) (cl : List (Str × Addr)) (fp : List Addr), SGw A (X.blk s H scope (compEnvC scope cl C X.env) fp) (own.map (·.2)) tgt g) (ht : ∀ (s : Shared) (H : Hp) (C : Addr) (cl : List (Str × Addr)) (fp : List Addr), STs A (X.blk s H scope (compEnvC scope cl C X.env) fp) ifs t)
    (he : ∀ (s : Shared) (H : Hp) (C : Addr) (cl : List (Str × Addr)) (fp : List Addr), SE A (X.blk s H scope (compEnvC scope cl C X.env) fp) elt m) (hs : ∀ x, foldedSetIterable iter X.env x = pure x := by intro _; rfl) :
    SO A X (.ListComp elt [⟨tgt, iter, ifs, 0⟩] scope pos) (mComp (own.map (·.2)) mi g t m) := fun E tk =>
  pe_imp (pe_lc (g := tGw X.K A (List.map (fun x : Str × Nat => x.2) own) g) (tt := tR X.K A (fun _ _ _ => False) RlT t) (te := tR X.K A (fun _ _ _ => False) (RlE X.K A) m) hc hN (hi E tk) ok hg (fun s H C cl fp => ht s H C cl fp (fun _ _ _ => False) takes0) (fun s H C cl fp => he s H C cl fp (fun _ _ _ => False) takes0) hs) fun σ H Q ⟨H0, Z0, Z, env, p, s, q⟩ => by
    generalize hvs : own.map (·.2) = vs at q ⊢
    refine ⟨H0, Z0, Z, env, p, s, ?_⟩
    unfold mComp R.bind at q
    revert q
    cases mi env p with
    | bad => exact fun q => q
    | ex c fs p' => exact fun q => q
    | ok ds p1 =>
    dsimp only
    intro q J H1 Z1 x1 w D' hD
    have s1 := s.after x1
    -- the end
    let Fin : R (List D) → Prop := fun r => match r with
      | .ok es p2 => ∀ H' Z' us, Xst X.K A H Z Z' H' p2 → H' D' = some (.lst us) → RelAll X.K A Z' es us → Z'.F D' = none → Z'.pa ≠ some D' → Q (.ref D') H'
      | _ => False
    have fin0 : Fin (loopC g t m (wipeC env vs) ds [] p1) := by
      revert q
      have key : ∀ (ds acc : List D) (p : Pn) c fs p', loopC g t m (wipeC env vs) ds acc p ≠ .ex c fs p' := by
        intro ds
        induction ds with
        | nil => intro acc p c fs p' z; cases z
        | cons d ds ih =>
          intro acc p c fs p' z
          unfold loopC at z
          revert z
          cases g d (wipeC env vs) with
          | none => exact fun z => nomatch z
          | some env1 =>
            dsimp only
            cases t env1 p with
            | bad => exact fun z => nomatch z
            | ex c fs p => exact fun z => nomatch z
            | ok b p1 =>
              dsimp only [R.calm, R.bind]
              cases b with
              | false => rw [if_neg Bool.false_ne_true]; exact ih _ _ _ _ _
              | true =>
                rw [if_pos rfl]
                cases m env1 p1 with
                | bad => exact fun z => nomatch z
                | ex c fs p => exact fun z => nomatch z
                | ok e p2 =>
                  dsimp only
                  split
                  · exact ih _ _ _ _ _
                  · exact fun z => nomatch z
      cases hl : loopC g t m (wipeC env vs) ds [] p1 with
      | bad => exact fun q => q.elim
      | ex c fs p' => exact fun _ => key _ _ _ _ _ _ hl
      | ok es p2 => exact fun q H' Z' us x h1 h2 h3 h4 => q _ H' Z' x ⟨D', rfl, ⟨us, h1, h2⟩, x1.th _ hD, h3, h4⟩
    clear q
    refine ⟨fun i n H' => ∃ Z' p' acc us, n = ds.length - i ∧ i ≤ ds.length ∧ Xst X.K A H1 Z1 Z' H' p' ∧ H' D' = some (.lst us) ∧ RelAll X.K A Z' acc us ∧ Z'.F D' = none ∧ Z'.pa ≠ some D' ∧ Fin (loopC g t m (wipeC env vs) (ds.drop i) acc p'),
      ⟨_, Z1, p1, [], [], rfl, Nat.zero_le _, s1.x.here.fresh hD, upd_same, .nil, s1.x.fnone hD, s1.x.pnone hD, by rw [List.drop_zero]; exact fin0⟩, ?_⟩
    rintro i n H' ⟨Z', p', acc, us, rfl, hi, y, hd, ra, hf, hpn, hfin⟩
    by_cases hlt : i < ds.length
    · obtain ⟨go, yl⟩ := w.go Z' H' p' i ds[i] y (List.getElem?_eq_getElem hlt)
      refine .inr ⟨go, fun H2 => ∃ Z2 p2 acc2 us2, Xst X.K A H1 Z1 Z2 H2 p2 ∧ H2 D' = some (.lst us2) ∧ RelAll X.K A Z2 acc2 us2 ∧ Z2.F D' = none ∧ Z2.pa ≠ some D' ∧ Fin (loopC g t m (wipeC env vs) (ds.drop (i + 1)) acc2 p2),
        fun H2 ⟨Z2, p2, acc2, us2, h⟩ => ⟨ds.length - (i + 1), by omega, Z2, p2, acc2, us2, rfl, hlt, h⟩, fun x H'' hy => ?_⟩
      obtain ⟨Z'', y2, r2⟩ := yl x H'' hy
      have yy := y.after y2
      have s2 := (s1.after yy).wipe vs
      have stay : ∀ {Za Zb : Fz} {Ha Hb : Hp} {pa pb : Pn}, Xst X.K A H1 Z1 Za Ha pa → Xst X.K A Ha Za Zb Hb pb → Ha D' = some (.lst us) → Za.F D' = none → Za.pa ≠ some D' → Hb D' = some (.lst us) ∧ Zb.F D' = none ∧ Zb.pa ≠ some D' := fun {Za Zb Ha Hb pa pb} k1 k2 k3 k4 k5 =>
        ⟨k2.keep k1 k3 (fun _ z => nomatch z) (fun _ z => nomatch z), k2.fz _ (by rw [k3]; simp) k4, fun z => (k2.pz _ z).elim k5 fun z' => by rw [k3] at z'; cases z'⟩
      obtain ⟨hd2, hf2, hpn2⟩ := stay y y2 hd hf hpn
      rw [List.drop_eq_getElem_cons hlt] at hfin
      unfold loopC at hfin
      revert hfin
      cases hg' : g ds[i] (wipeC env vs) with
      | none => exact fun hfin => hfin.elim
      | some env1 =>
      dsimp only
      intro hfin
      refine ⟨H0, Z0, Z'', wipeC env vs, p', ds[i], env1, s2, r2, hg', fun σ3 s3 e3 => ⟨e3.trans (wipe_wipe vs), H0, Z0, Z'', env1, p', s3, ?_⟩⟩
      revert hfin
      cases t env1 p' with
      | bad => exact fun hfin => hfin.elim
      | ex c fs p2 => exact fun hfin => hfin.elim
      | ok b p2 =>
      dsimp only [R.calm, R.bind]
      intro hfin b' H3 Z3 y3 rb
      cases (show b = b' from rb)
      have y13 := yy.after y3
      obtain ⟨hd3, hf3, hpn3⟩ := stay yy y3 hd2 hf2 hpn2
      cases b with
      | false =>
        rw [if_neg Bool.false_ne_true] at hfin ⊢
        exact ⟨Z3, p2, acc, us, y13, hd3, (ra.mono y2.le).mono y3.le, hf3, hpn3, hfin⟩
      | true =>
        rw [if_pos rfl] at hfin ⊢
        refine ⟨H0, Z0, Z3, env1, p2, s3.after y3, ?_⟩
        revert hfin
        cases m env1 p2 with
        | bad => exact fun hfin => hfin.elim
        | ex c fs p3 => exact fun hfin => hfin.elim
        | ok e p3 =>
        dsimp only
        split
        · rename_i hl
          intro hfin v H4 Z4 y4 rv
          obtain ⟨hd4, hf4, hpn4⟩ := stay y13 y4 hd3 hf3 hpn3
          have ra4 := ((ra.mono y2.le).mono y3.le).mono y4.le
          exact ⟨us, hd4, by rw [← ra.length]; exact hl, Z4, p3, acc ++ [e], us ++ [v], (y13.after y4).wr hD hf4 hpn4 hd4, upd_same, ra4.append (.cons rv .nil), hf4, hpn4, hfin⟩
        · exact fun hfin => hfin.elim
    · have e : i = ds.length := by omega
      subst e
      rw [List.drop_length] at hfin
      exact .inl ⟨w.stop Z' H' p' y, hfin H' Z' us (x1.after y) hd ra hf hpn⟩
end
end Mn

/-! MnG: defs that know the guards, exceptions. -/
namespace Mn
open PySem PySem.Spec PyProof.Rows L2

/-! ### a def's promise where the guards are known -/
structure FnM (P : Program) (w : World) (K : PySem.W.Frag) (mg : Str → Option Value) (base : Heap) (k : Nat) (f : Addr) (fd : FuncData) (ps : List Str) (sp : Sp) : Prop where
  len : ∀ vs H Q E, sp vs H Q E → vs.length = ps.length
  run : ∀ (A : Around) (outer : List Env) (s : Shared) (H : Hp) (args : Args) (us : List Value) (vs : List V) (Q : VK) (E : XK), A.guards = some [] → Room k A → Env0 P w K mg base A outer s H → BindsTo s fd args (ps.zip us) → Vals vs us → sp vs H Q E →
    codeAny (model P w) A (.call (.ref f) args) (CR (L2.CX P w) outer P w H s Q E) s
theorem FnM.of {P : Program} {w : World} {K : PySem.W.Frag} {mg : Str → Option Value} {base : Heap} {k : Nat} {f : Addr} {fd : FuncData} {ps : List Str} {sp : Sp} (F : FnOk P w K mg base (L2.CX P w) k f fd ps sp) : FnM P w K mg base k f fd ps sp :=
  ⟨F.len, fun A outer s H args us vs Q E _ hr => F.run A outer s H args us vs Q E hr⟩
theorem FnM.mono {P : Program} {w : World} {K : PySem.W.Frag} {mg : Str → Option Value} {base : Heap} {j k : Nat} {f : Addr} {fd : FuncData} {ps : List Str} {sp : Sp} (F : FnM P w K mg base j f fd ps sp) (h : j ≤ k) : FnM P w K mg base k f fd ps sp :=
  ⟨F.len, fun A outer s H args us vs Q E hg hr => F.run A outer s H args us vs Q E hg (hr.mono h)⟩
section
variable {A : Adr} {X : Cx} {K : PySem.W.Frag}
section
variable {n k : Nat} {f : Addr} {fd : FuncData} {ps : List Str} {φ : FD} {sp : Sp} {x : Str} {e : Expr} {es : List Expr} {m : EX (List D)} {p pos : Pos} {E : L2.St → XK} {t : TA}
theorem run_fnM {pins : List (Addr × Obj)} {σ : L2.St} {H : Hp} {s : Shared} {Q : VK} {us : List Value} {vs : List V} (F : FnM X.prog X.w X.K X.mg X.base k f fd ps sp) (hgd : X.A.guards = some []) (hr : Room k X.A) (hb : L2.Binds X.K fd ps []) (hx : PassesAt (L2.CX X.prog X.w) X σ (E σ))
    (I : Inv X pins σ H s) (r : Vals vs us) (h : sp vs H Q (E σ)) : wpAny (model X.prog X.w) X.A (call (.ref f) us) (EP X pins σ Q) X.xe s := by
  have hl : us.length = ps.length := by rw [← r.length]; exact F.len _ _ _ _ h
  have b := hb s us I.kIn (by rw [List.append_nil]; exact hl)
  rw [List.append_nil] at b
  refine wpAny_call (codeAny_mono (F.run X.A X.stack s H ⟨us, []⟩ us vs Q (E σ) hgd hr I.env0 b r h) fun r s' hq => ?_)
  cases r with
  | error e => exact hx pins H s e s' I hq
  | ok fl =>
    cases fl with
    | ret u => exact I.after hq
    | next => exact False.elim hq
    | brk => exact False.elim hq
    | cont => exact False.elim hq
theorem pe_callM (F : FnM X.prog X.w X.K X.mg X.base k f fd ps sp) (hgd : X.A.guards = some []) (hr : Room k X.A) (hg : Gl X x) (hm : X.mg x = some (.ref f)) (hk : PySem.W.keepIn X.K (.ref f) = true) (hb : L2.Binds X.K fd ps []) (hx : ∀ σ, PassesAt (L2.CX X.prog X.w) X σ (E σ))
    (ha : PA X (e :: es) t) (hdb : (x == ("__debug__" : Str)) = false := by decide) (he : starEach (e :: es) X.env = (false, eval e X.env) :: starEach es X.env := by rfl) (hpl : (backTo pos (starEach es X.env)).any (·.1) = false := by rfl) :
    PE X (.Call (.Name x p) (e :: es) [] pos) (tCallS sp E t) := by
  refine ⟨fun pins s σ H Q I h => ?_⟩
  refine wpAny_Call_Name_kw (ld_glob I hg hm ?_ hdb)
  refine PySem.W.callWith_K (h₀ := X.base) I.ok.mod.kin hk (thn (ha.run pos pins s σ H _ I h) fun us s1 ⟨vs, H1, I1, r, q⟩ => ⟨I1.kIn, ?_⟩) he hpl
  exact run_fnM F hgd hr hb (hx σ) I1 r q
theorem pe_callM0 (F : FnM X.prog X.w X.K X.mg X.base k f fd ps sp) (hgd : X.A.guards = some []) (hr : Room k X.A) (hg : Gl X x) (hm : X.mg x = some (.ref f)) (hk : PySem.W.keepIn X.K (.ref f) = true) (hb : L2.Binds X.K fd ps []) (hx : ∀ σ, PassesAt (L2.CX X.prog X.w) X σ (E σ))
    (hdb : (x == ("__debug__" : Str)) = false := by decide) : PE X (.Call (.Name x p) [] [] pos) (tCallS sp E tNil) := by
  refine ⟨fun pins s σ H Q I h => ?_⟩
  refine wpAny_Call_Name_kw (ld_glob I hg hm ?_ hdb)
  exact PySem.W.callWith_K0 I.kIn hk (run_fnM (us := []) F hgd hr hb (hx σ) I .nil h)
theorem passE {E : XK} (tk : Tk X E) (σ : L2.St) : PassesAt (L2.CX X.prog X.w) X σ E := fun _ _ _ e s' I c => tk e s' (XE.of_call I (fun _ _ _ h => h) c)
theorem se_callM (F : FnM X.prog X.w X.K X.mg X.base k f fd ps (spI X.K A n φ)) (hgd : X.A.guards = some []) (hr : Room k X.A) (hg : Gl X x) (hm : X.mg x = some (.ref f)) (hk : PySem.W.keepIn X.K (.ref f) = true) (hb : L2.Binds X.K fd ps []) (ha : SA A X (e :: es) m)
    (hn : ∀ env p ds p', m env p = .ok ds p' → ds.length = n) (hdb : (x == ("__debug__" : Str)) = false := by decide) (he : starEach (e :: es) X.env = (false, eval e X.env) :: starEach es X.env := by rfl) (hpl : (backTo pos (starEach es X.env)).any (·.1) = false := by rfl) :
    SE A X (.Call (.Name x p) (e :: es) [] pos) (mDef φ m) := fun E tk => pe_imp (pe_callM (E := fun _ => E) F hgd hr hg hm hk hb (fun σ => passE tk σ) (ha E tk) hdb he hpl) fun σ H Q h => by
  have h2 := callD hn h
  unfold tCall at h2
  unfold tCallS
  obtain ⟨H0, Z0, Z, env, p, s, q⟩ := h2
  refine ⟨H0, Z0, Z, env, p, s, ?_⟩
  revert q
  cases m env p with
  | bad => exact fun q => q
  | ex c fs p' => exact fun q => q
  | ok ds p' =>
    intro q vs H' Z' x r
    have h3 : spI X.K A n φ (vs ++ []) H' Q E := q vs H' Z' x r
    rw [List.append_nil] at h3
    exact h3
theorem se_callM0 (F : FnM X.prog X.w X.K X.mg X.base k f fd ps (spI X.K A 0 φ)) (hgd : X.A.guards = some []) (hr : Room k X.A) (hg : Gl X x) (hm : X.mg x = some (.ref f)) (hk : PySem.W.keepIn X.K (.ref f) = true) (hb : L2.Binds X.K fd ps []) (hdb : (x == ("__debug__" : Str)) = false := by decide) :
    SE A X (.Call (.Name x p) [] [] pos) (mDef φ mNil) := fun E tk => pe_imp (pe_callM0 (E := fun _ => E) F hgd hr hg hm hk hb (fun σ => passE tk σ) hdb) fun σ H Q h => by
  obtain ⟨H0, Z0, Z, env, p, s, q⟩ := h
  exact ⟨Z, [], p, rfl, s.x.here, .nil, q⟩
end
section
variable {P : Program} {w : World} {mg : Str → Option Value} {base : Heap}
theorem fdP {N : List Str} {m : SX} {E : XK} {H : Hp} {Z : Fz} {ds : List D} {p : Pn} {vs : List V} {Q : VK} (x : Xst K A H Z Z H p) (r : RelAll K A Z ds vs) (q : Post K A E (RlE K A) Z H (fd N.length m ds p) Q) :
    tS K A E m { nx := fun _ H' => Q .non H', rt := Q } (L2.start N vs) H := by
  refine ⟨H, Z, Z, _, p, start_stt x r, ?_⟩
  unfold fd at q
  revert q
  cases m (startC N.length ds) p with
  | nx env p' => exact fun q σ' H' Z' l s => q .non H' Z' s.x .non
  | rt d p' => exact fun q v H' Z' x r => q v H' Z' x r
  | bk env p' => exact fun q => q.elim
  | ct env p' => exact fun q => q.elim
  | ex c fs p' => exact fun q od H' Z' x r => q od H' Z' x r
  | bad => exact fun q => q.elim
theorem fnM_ok {x qual : Str} {pg : Arguments} {bg : List Stmt} {sg : Scope} {dvs : List V} {kws : List (Str × V)} {f : Addr} {fdt : FuncData} {N ps : List Str} {k l nn np : Nat} {m : SX} (F : FunD K x qual pg bg sg dvs kws f fdt) (S : FnScope N ps sg) (hl : k + 1 = l) (hN : N.length = nn) (hp : ps.length = np)
    (hbody : ∀ (cdv : Value) (B : Around) (outer : List Env) (s : Shared) (H : Hp) (E : XK), B.guards = some [] → Room k (B.deeper (envOfC qual sg s.heap.objs.size f cdv)) → SSs A (cxOf (L2.CX P w) P w K mg base N qual sg f cdv B outer s H E) bg m) :
    FnM P w K mg base l f fdt ps (spI K A np (fd nn m)) := by
  subst hl hN hp
  obtain ⟨oc, od, dV, kV, doc, pm, an, cdv, ct, osl, rfl, lk, hcd, _, _⟩ := F.ex
  refine ⟨fun vs H Q E ⟨_, _, _, h, _⟩ => h, fun B outer s H args us vs Q E hgd hr e0 hb r ⟨Z, ds, p, hl, x, r2, q⟩ => ?_⟩
  exact LamX.run_ofS lk hcd S hr e0 hb r hl fun hr' => ⟨tS K A E m, hbody cdv B outer s H E hgd hr' E (takes_of rfl rfl rfl rfl), fdP x r2 q⟩
theorem fnD_ok {x qual : Str} {pg : Arguments} {bg : List Stmt} {sg : Scope} {dvs : List V} {kws : List (Str × V)} {f : Addr} {fdt : FuncData} {N ps : List Str} {k l nn np : Nat} {m : SX} (F : FunD K x qual pg bg sg dvs kws f fdt) (S : FnScope N ps sg) (hl : k + 1 = l) (hN : N.length = nn) (hp : ps.length = np)
    (hbody : ∀ (cdv : Value) (B : Around) (outer : List Env) (s : Shared) (H : Hp) (E : XK), Room k (B.deeper (envOfC qual sg s.heap.objs.size f cdv)) → SSs A (cxOf (L2.CX P w) P w K mg base N qual sg f cdv B outer s H E) bg m) :
    FnOk P w K mg base (L2.CX P w) l f fdt ps (spI K A np (fd nn m)) := by
  subst hl hN hp
  obtain ⟨oc, od, dV, kV, doc, pm, an, cdv, ct, osl, rfl, lk, hcd, _, _⟩ := F.ex
  refine ⟨fun vs H Q E ⟨_, _, _, h, _⟩ => h, fun B outer s H args us vs Q E hr e0 hb r ⟨Z, ds, p, hl, x, r2, q⟩ => ?_⟩
  exact LamX.run_ofS lk hcd S hr e0 hb r hl fun hr' => ⟨tS K A E m, hbody cdv B outer s H E hr' E (takes_of rfl rfl rfl rfl), fdP x r2 q⟩
end
end
end Mn

/-! MnH: exceptions raised, caught, looked at. -/
namespace Mn
open PySem PySem.Spec PyProof.Rows L2

section
variable {A : Adr} {X : Cx} {K : PySem.W.Frag}
/-! ### their classes -/
structure ExF (K : PySem.W.Frag) (mg : Str → Option Value) (C : Addr) (x : Str) : Prop where
  gC : mg x = some (.ref C)
  o : OexC K C
  ga : PySem.W.findIn K (.ref C) "__getattribute__" = some (some (.builtin "BaseException.__getattribute__"))
  gg : PySem.W.findIn K (.ref C) "__getattr__" = some none
  hd : PySem.W.hasDictIn K C = true
  ha : PySem.W.findIn K (.ref C) "__class__" = some (some (.builtin "object.__class__"))
  hn : PySem.W.specialIn K (.builtin "object.__class__") "__get__" = some (some (.builtin "getset_descriptor.__get__"))
  ht : PySem.W.takesIn K (.builtin "object.__class__") = some true
  hm : PySem.W.mroIn K C (.type "object") = some true
/-- __init__(self, f, ..): self.f = f, .. -/
def spInit (C : Addr) (flds : List Str) : Sp := fun vs H Q _ => ∃ a ws, vs = .ref a :: ws ∧ ws.length = flds.length ∧ H a = some (exo a C none) ∧
  ∀ dx H', H dx = none → dx ≠ a → H' a = some (exo a C (some dx)) → H' dx = some (exd dx (flds.zip ws).reverse) → (∀ b, b ≠ a → b ≠ dx → H' b = H b) → Q .non H'
section
variable {C : Addr} {f g h : Str} {vs : List V} {H : Hp} {Q : VK} {E : XK}
theorem init1 (T : OexC K C) (nf : PySem.W.findIn K (.ref C) f = some none) (q : spInit C [f] vs H Q E) : tOst K f (tVar 0) (tVar 1) { nx := fun _ H' => Q .non H', rt := Q } (L2.start ["self", f] vs) H := by
  obtain ⟨a, ws, rfl, hl, ha, q⟩ := q
  match ws, hl with
  | [x], _ =>
    refine ⟨x, rfl, .ref a, rfl, a, C, rfl, T, nf, .inl ⟨ha, fun dx hd hne => ?_⟩⟩
    refine q dx _ hd hne upd_same ?_ fun b h1 h2 => ?_
    · rw [upd_ne hne, upd_same]; rfl
    · rw [upd_ne h1, upd_ne h2]
theorem init2 (T : OexC K C) (nf : PySem.W.findIn K (.ref C) f = some none) (ng : PySem.W.findIn K (.ref C) g = some none) (q : spInit C [f, g] vs H Q E) :
    tSeq (tOst K f (tVar 0) (tVar 1)) (tOst K g (tVar 0) (tVar 2)) { nx := fun _ H' => Q .non H', rt := Q } (L2.start ["self", f, g] vs) H := by
  obtain ⟨a, ws, rfl, hl, ha, q⟩ := q
  match ws, hl with
  | [x, y], _ =>
    refine ⟨x, rfl, .ref a, rfl, a, C, rfl, T, nf, .inl ⟨ha, fun dx hd hne => ?_⟩⟩
    refine ⟨y, rfl, .ref a, rfl, a, C, rfl, T, ng, .inr ⟨dx, [(f, x)], upd_same, by rw [upd_ne hne, upd_same], (show (1 : Nat) ≤ 900 by decide), ?_⟩⟩
    refine q dx _ hd hne ?_ upd_same fun b h1 h2 => ?_
    · rw [upd_ne (Ne.symm hne), upd_same]
    · rw [upd_ne h2, upd_ne h1, upd_ne h2]
theorem init3 (T : OexC K C) (nf : PySem.W.findIn K (.ref C) f = some none) (ng : PySem.W.findIn K (.ref C) g = some none) (nh : PySem.W.findIn K (.ref C) h = some none) (q : spInit C [f, g, h] vs H Q E) :
    tSeq (tOst K f (tVar 0) (tVar 1)) (tSeq (tOst K g (tVar 0) (tVar 2)) (tOst K h (tVar 0) (tVar 3))) { nx := fun _ H' => Q .non H', rt := Q } (L2.start ["self", f, g, h] vs) H := by
  obtain ⟨a, ws, rfl, hl, ha, q⟩ := q
  match ws, hl with
  | [x, y, z], _ =>
    refine ⟨x, rfl, .ref a, rfl, a, C, rfl, T, nf, .inl ⟨ha, fun dx hd hne => ?_⟩⟩
    refine ⟨y, rfl, .ref a, rfl, a, C, rfl, T, ng, .inr ⟨dx, [(f, x)], upd_same, by rw [upd_ne hne, upd_same], (show (1 : Nat) ≤ 900 by decide), ?_⟩⟩
    refine ⟨z, rfl, .ref a, rfl, a, C, rfl, T, nh, .inr ⟨dx, [(g, y), (f, x)], by rw [upd_ne (Ne.symm hne), upd_same], upd_same, (show (2 : Nat) ≤ 900 by decide), ?_⟩⟩
    refine q dx _ hd hne ?_ upd_same fun b h1 h2 => ?_
    · rw [upd_ne (Ne.symm hne), upd_ne (Ne.symm hne), upd_same]
    · rw [upd_ne h2, upd_ne h2, upd_ne h1, upd_ne h2]
end
/-! ### raise -/
theorem RelFs.append {Z : Fz} : ∀ {fs gs : List (Str × D)} {us ws : List (Str × V)}, RelFs K A Z fs us → RelFs K A Z gs ws → RelFs K A Z (fs ++ gs) (us ++ ws)
  | _, _, _, _, .nil, s => s
  | _, _, _, _, .cons h r, s => .cons h (RelFs.append r s)
theorem RelFs.reverse {Z : Fz} : ∀ {fs : List (Str × D)} {us : List (Str × V)}, RelFs K A Z fs us → RelFs K A Z fs.reverse us.reverse
  | _, _, .nil => .nil
  | _, _, .cons h r => by rw [List.reverse_cons, List.reverse_cons]; exact (RelFs.reverse r).append (.cons h .nil)
theorem RelAll.zip {Z : Fz} : ∀ {ds : List D} {vs : List V} (fs : List Str), RelAll K A Z ds vs → RelFs K A Z (fs.zip ds) (fs.zip vs)
  | _, _, [], _ => .nil
  | _, _, _ :: _, .nil => .nil
  | _, _, _ :: fs, .cons h r => .cons h (RelAll.zip fs r)
/-- the exception's own dict -/
theorem Xst.newX {H0 H : Hp} {Z0 Z : Fz} {p : Pn} (x : Xst K A H0 Z0 Z H p) {l : Addr} {gs : List (Str × V)} {fs : List (Str × D)} (hl : H l = none) (r : RelFs K A Z fs gs) : Xst K A H Z ⟨upd Z.F l (.xd gs), Z.pa⟩ (upd H l (.xd gs)) p ∧ ExAt K A ⟨upd Z.F l (.xd gs), Z.pa⟩ (upd H l (.xd gs)) (some l) fs :=
  ⟨x.here.frozen hl, gs, by show upd Z.F l _ l = _; exact upd_same, r.mono (le_upd (x.fnone hl))⟩
section
variable {c n k : Nat} {x : Str} {fI : Addr} {fd : FuncData} {flds : List Str} {e : Expr} {es : List Expr} {m : EX (List D)} {p pos pos2 : Pos}
def sRaise (c : Nat) (flds : List Str) (m : EX (List D)) : SX := SX.of m fun ds _ p => if ds.length = flds.length ∧ flds.length ≤ 1000 then .ex c (flds.zip ds).reverse p else .bad
theorem ss_raise (hc : X.calm = true) (T : ExF X.K X.mg (A.ca c) x) (iC : PySem.W.findIn X.K (.ref (A.ca c)) "__init__" = some (some (.ref fI))) (tI : PySem.W.typeIn X.K (.ref fI) = some (.type "function"))
    (F : FnOk X.prog X.w X.K X.mg X.base CX0 k fI fd ("self" :: flds) (spInit (A.ca c) flds)) (hr : Room (k + 1) X.A) (hb : L2.Binds X.K fd ("self" :: flds) []) (hg : Gl X x) (ha : SA A X (e :: es) m)
    (hdb : (x == ("__debug__" : Str)) = false := by decide) (he : starEach (e :: es) X.env = (false, eval e X.env) :: starEach es X.env := by rfl) (hpl : (backTo pos (starEach es X.env)).any (·.1) = false := by rfl) :
    SS A X (.Raise (some (.Call (.Name x p) (e :: es) [] pos)) none pos2) (sRaise c flds m) := fun E tk =>
  ps_imp (ps_raise hc tk (pmk_oex (CX := CX0) T.o iC tI F hr hb .nil pass0 hg T.gC (ha E tk) hdb he hpl)) fun D' σ H ⟨H0, Z0, Z, env, p, s, q⟩ => by
    refine ⟨H0, Z0, Z, env, p, s, ofP s q fun vs H1 ds Z1 p1 x1 s1 r q1 => ?_⟩
    have r : RelAll X.K A Z1 ds vs := r
    split at q1
    · rename_i hl
      refine ⟨by rw [← r.length, hl.1]; exact hl.2, fun a ha => ?_⟩
      rw [List.append_nil]
      refine ⟨a, vs, rfl, by rw [← r.length]; exact hl.1, upd_same, fun dx H' hd hne h1 h2 h3 => ?_⟩
      have hdx : H1 dx = none := by rw [upd_ne hne] at hd; exact hd
      refine ⟨rfl, dx, _, h1, h2, hdx, ?_⟩
      have e : upd (del H' a) dx (.xd (flds.zip vs).reverse) = upd H1 dx (.xd (flds.zip vs).reverse) := by
        funext b
        by_cases z : b = dx
        · rw [z, upd_same, upd_same]
        · rw [upd_ne z, upd_ne z]
          by_cases z2 : b = a
          · rw [z2, del_same, ha]
          · rw [del_ne z2, h3 b z2 z, upd_ne z2]
      rw [e]
      obtain ⟨x2, e2⟩ := s1.x.newX hdx (r.zip flds).reverse
      exact q1 _ _ _ (s1.x.after x2) e2
    · exact q1.elim
/-- X(), X without own __init__ -/
theorem pmk_own0 {C : Addr} {bmB : List Value} {B newId initId : String} {x : Str} {p pos : Pos} (F : ExcBaseFacts B newId initId bmB) (q : PySem.W.excIn X.K C bmB newId = true) (gC : X.mg x = some (.ref C))
    (kC : PySem.W.keepIn X.K (.ref C) = true) (r : Raises X (.ref C)) (hg : Gl X x) (hdb : (x == ("__debug__" : Str)) = false := by decide) : PMk X (.Call (.Name x p) [] [] pos) (fun _ H Q => Q (.ref C) none H) := by
  intro pins s σ H Q I h
  refine wpAny_Call_Name_kw (ld_glob I hg gC ?_ hdb)
  refine PySem.W.callWith_K0 I.kIn kC ?_
  show wpAny _ _ (call (.ref C) []) _ _ _
  obtain ⟨bm, N, nm, qn, bs, hdct, sn, sub, ab, col, dd, k0, k1, k2, k3, k5, mN, hC, hN, hni, T⟩ := exc_obj I.kIn q
  refine wpAny_call_exc_subT F T hC hN hni (fun h' e hm => ?_) (Nat.zero_le _)
  exact mk_of I hm r h (I.hok.gone hm.new)
def sRaise0 (c : Nat) : SX := fun _ p => .ex c [] p
theorem ss_raise0 {B newId initId : String} {bmB : List Value} (hc : X.calm = true) (T : ExF X.K X.mg (A.ca c) x) (Fb : ExcBaseFacts B newId initId bmB) (q : PySem.W.excIn X.K (A.ca c) bmB newId = true) (hg : Gl X x) (hdb : (x == ("__debug__" : Str)) = false := by decide) :
    SS A X (.Raise (some (.Call (.Name x p) [] [] pos)) none pos2) (sRaise0 c) := fun E tk =>
  ps_imp (ps_raise hc tk (pmk_own0 Fb q T.gC T.o.kC (raises_own T.o.exC T.o.tyC) hg hdb)) fun D' σ H ⟨H0, Z0, Z, env, p, s, q⟩ => q none H Z s.x rfl
end
/-! ### statements whose exceptions are caught where they stand -/
def RlU (_ : Hp) (_ : Fz) (_ : Hp) (_ _ : Unit) : Prop := True
abbrev TkS (X : Cx) (E : L2.St → XK) : Prop := Takes X fun c d σ H => E σ c d H
def tSC (K : PySem.W.Frag) (A : Adr) (E : L2.St → XK) (m : EX Unit) : TS := fun D σ H => ∃ H0 Z0 Z env p, Stt K A H0 Z0 Z σ H env p ∧ Post K A (E σ) RlU Z H (m env p) fun _ H' => D.nx σ H'
def SC (A : Adr) (X : Cx) (st : Stmt) (m : EX Unit) : Prop := ∀ E, TkS X E → PS X st (tSC X.K A E m)
def SCs (A : Adr) (X : Cx) (st : List Stmt) (m : EX Unit) : Prop := ∀ E, TkS X E → PSs X st (tSC X.K A E m)
def mU : EX Unit := fun _ p => .ok () p
def mThen (m k : EX Unit) : EX Unit := m.bind fun _ => k
theorem scs_nil : SCs A X [] mU := fun E tk => pss_imp pss_nil fun D σ H ⟨H0, Z0, Z, env, p, s, q⟩ => q () H Z s.x.here trivial
theorem scs_cons {st : Stmt} {rest : List Stmt} {m k : EX Unit} (h : SC A X st m) (hk : SCs A X rest k) : SCs A X (st :: rest) (mThen m k) := fun E tk => pss_imp (pss_cons (h E tk) (hk E tk)) fun D σ H ⟨H0, Z0, Z, env, p, s, q⟩ => by
  refine ⟨H0, Z0, Z, env, p, s, ?_⟩
  unfold mThen EX.bind at q
  revert q
  cases m env p with
  | bad => exact fun q => q
  | ex c fs p' => exact fun q => q
  | ok u p' => exact fun q b H' Z' x _ => ⟨H0, Z0, Z', env, p', s.after x, Post.shift (fun _ _ _ _ _ _ _ h => h) q x⟩
section
variable {n k : Nat} {f : Addr} {fd : FuncData} {ps : List Str} {φ : FD} {x : Str} {e : Expr} {es : List Expr} {m : EX (List D)} {p pos pos2 : Pos}
/-- f(e, ..) -/
def mDo (φ : FD) (m : EX (List D)) : EX Unit := fun env p => (m env p).calm.bind fun ds p1 => (φ ds p1).bind fun _ p2 => .ok () p2
theorem sc_call (F : FnM X.prog X.w X.K X.mg X.base k f fd ps (spI X.K A n φ)) (hgd : X.A.guards = some []) (hr : Room k X.A) (hg : Gl X x) (hm : X.mg x = some (.ref f)) (hk : PySem.W.keepIn X.K (.ref f) = true) (hb : L2.Binds X.K fd ps []) (ha : SA A X (e :: es) m)
    (hn : ∀ env p ds p', m env p = .ok ds p' → ds.length = n) (hdb : (x == ("__debug__" : Str)) = false := by decide) (he : starEach (e :: es) X.env = (false, eval e X.env) :: starEach es X.env := by rfl) (hpl : (backTo pos (starEach es X.env)).any (·.1) = false := by rfl)
    (hs : swapsWith (.Call (.Name x p) (e :: es) [] pos) none pos2.line X.env = pure false := by rfl) :
    SC A X (.Expr (.Call (.Name x p) (e :: es) [] pos) pos2) (mDo φ m) := fun E tk =>
  ps_imp (ps_expr (pe_callM (E := E) F hgd hr hg hm hk hb (fun σ _ _ _ e s' I c => tk e s' (XE.of_call I (fun _ _ _ h => h) c)) (ha (fun _ _ _ => False) takes0) hdb he hpl) hs) fun D' σ H ⟨H0, Z0, Z, env, p, s, q⟩ => by
    refine ⟨H0, Z0, Z, env, p, s, ?_⟩
    unfold mDo at q
    revert q
    cases hm : m env p with
    | bad => exact fun q => q
    | ex c fs p' => exact fun q => q.elim
    | ok ds p' =>
      intro q vs H1 Z1 x r
      have s1 := s.after x
      refine ⟨Z1, ds, p', by rw [← RelAll.length r]; exact hn _ _ _ _ hm, s1.x.here, r, ?_⟩
      have q2 : Post X.K A (E σ) RlU Z H ((φ ds p').bind fun _ p2 => .ok () p2) fun _ H' => D'.nx σ H' := q
      revert q2
      cases φ ds p' with
      | bad => exact fun q => q
      | ex c fs p2 => exact fun q od H' Z' y e2 => q od H' Z' (x.after y) e2
      | ok d p2 => exact fun q v H' Z' y rv => q () H' Z' (x.after y) trivial
end
/-! ### try: calls, except X as n: suite -/
theorem Stt.setNo {H0 H : Hp} {Z0 Z : Fz} {σ : L2.St} {env : List Cell} {p : Pn} (s : Stt K A H0 Z0 Z σ H env p) (i : Nat) (y : Option V) : Stt K A H0 Z0 Z (σ.set i y) H (env.set i .no) p := by
  refine ⟨s.x, by rw [List.length_set, List.length_set]; exact s.len, fun j c y h1 h2 => ?_, fun j k d1 d2 a ne h1 h2 h3 => ?_⟩
  · rcases set_at h1 with ⟨_, rfl⟩ | ⟨n1, h1⟩
    · trivial
    · rcases set_at h2 with ⟨e, _⟩ | ⟨_, h2⟩
      · exact absurd e n1
      · exact s.cells j c y h1 h2
  · rcases set_at h1 with ⟨_, e⟩ | ⟨n1, h1⟩
    · cases e
    · rcases set_at h2 with ⟨_, e⟩ | ⟨n2, h2⟩
      · cases e
      · rw [List.getElem?_set_ne (Ne.symm n1)] at h3
        rw [List.getElem?_set_ne (Ne.symm n2)]
        exact s.apart j k d1 d2 a ne h1 h2 h3
def RS.wipe (i : Nat) : RS → RS
  | .nx env p => .nx (env.set i .no) p
  | .rt d p => .rt d p
  | .bk env p => .bk (env.set i .no) p
  | .ct env p => .ct (env.set i .no) p
  | _ => .bad
/-- behind the body: its exception of the class c with the fields fs is su's -/
def sTry (L : Nat) (mb : EX Unit) (su : Nat → List (Str × D) → SX) : SX := fun env p => match mb env p with
  | .ok _ p' => .nx env p'
  | .ex c fs p' => if c < L then su c fs env p' else .bad
  | .bad => .bad
theorem ss_try (i : Nat) {L : Nat} {x n : Str} {C : Addr} {body suite : List Stmt} {b₀ : Stmt} {np pos pos' : Pos} {mb : EX Unit} {su : Nat → List (Str × D) → SX} (sua : Addr → Option Addr → Nat → SX)
    (hs : X.stack = X.env :: X.outer) (hf : X.env.frame = some X.env.locals) (hN : X.N.Nodup) (hi : X.N[i]? = some n) (hln : X.env.kindOf n = some .local) (hg : Gl X x) (hx : X.mg x = some (.ref C)) (hxd : (x == ("__debug__" : Str)) = false)
    (hex : ∀ c, c < L → PySem.W.exmOne X.K (.ref (A.ca c)) (.ref C) = some true)
    (hb : ∀ (pn : List (Addr × Obj)) (xe : Value → Shared → Prop), SCs A (X.tr pn xe) body mb)
    (hsu : ∀ (a : Addr) (oe : Obj) (od : Option Addr) (c : Nat) (pn : List (Addr × Obj)), c < L → Zc (.ref (A.ca c)) od oe → (∃ vs, oe.data = .fields vs) → SSs A (X.suite a ((a, oe) :: pn)) (b₀ :: suite) (sua a od c))
    (hrel : ∀ a od c fs env p, c < L → (sua a od c (env.set i (.val (.exc a od fs))) p).wipe i = su c fs env p) :
    SS A X (.Try body [.ExceptHandler (some (.Name x np)) (some n) (b₀ :: suite) pos'] [] [] pos) (sTry L mb su) := fun E tk =>
  ps_imp (ps_try_as (i := i) (tb := fun W => tSC X.K A (fun σ c d H => W c d σ H) mb) (ts := fun a cls d D σ H => ∃ c, c < L ∧ cls = .ref (A.ca c) ∧ tS X.K A (fun _ _ _ => False) (sua a d c) D σ H) (Wout := fun c d _ H => E c d H)
      hs hf hN hi hln ⟨hg, hxd, .inl hx⟩ tk (fun W pn xe tk' _ => hb pn xe (fun σ c d H => W c d σ H) tk')
      (fun a oe cls d pn hz hfl => ⟨fun pins s σ H D I ⟨c, hc, e, q⟩ => by
        subst e
        exact (hsu a oe d c pn hc hz hfl (fun _ _ _ => False) takes0).run pins s σ H D I q⟩)) fun D σ H ⟨H0, Z0, Z, env, p, s, q⟩ => by
    refine ⟨H0, Z0, Z, env, p, s, ?_⟩
    unfold sTry at q
    revert q
    cases hm : mb env p with
    | bad => exact fun q => q
    | ok u p' => exact fun q b H' Z' x _ => q σ H' Z' x.le (s.after x)
    | ex c fs p' =>
      dsimp only
      split
      · rename_i hc
        intro q od H' Z' x ea
        refine ⟨true, hex c hc, fun _ a ha => ?_, fun z => nomatch z⟩
        have s1 := s.after x
        have ra : Rel X.K A Z' (.exc a od fs) (.ref a) := by
          cases od with
          | none => rw [show fs = [] from ea]; exact .exc0 a
          | some dd => obtain ⟨gs, h1, h2⟩ := ea; exact .exc h1 h2
        refine ⟨c, hc, rfl, H0, Z0, Z', env.set i (.val (.exc a od fs)), p', s1.setV i ra, ?_⟩
        have q := q.le x.le
        rw [← hrel a od c fs env p' hc] at q
        revert q
        cases sua a od c (env.set i (.val (.exc a od fs))) p' with
        | nx env2 p2 => exact fun q σ' H2 Z2 l s2 => q _ H2 Z2 l (s2.setNo i none)
        | rt d p2 => exact fun q => q
        | bk env2 p2 => exact fun q σ' H2 Z2 l s2 => q _ H2 Z2 l (s2.setNo i none)
        | ct env2 p2 => exact fun q σ' H2 Z2 l s2 => q _ H2 Z2 l (s2.setNo i none)
        | ex c fs p2 => exact fun q => q.elim
        | bad => exact fun q => q
      · exact fun q => q.elim
end
end Mn

/-! MnI: a handled exception looked at, repr, the pen made. -/
namespace Mn
open PySem PySem.Spec PyProof.Rows L2

section
variable {A : Adr} {X : Cx} {K : PySem.W.Frag}
/-! ### isinstance(e, C), e.f -/
theorem inst_x {pins : List (Addr × Obj)} {σ : L2.St} {H : Hp} {s : Shared} {D a : Addr} {oe : Obj} {od : Option Addr} (I : Inv X pins σ H s) (hp : (a, oe) ∈ X.pn) (hz : Zc (.ref D) od oe) (hf : ∃ vs, oe.data = .fields vs) (hd : ∀ dd, od = some dd → ∃ gs, H dd = some (.xd gs)) :
    ∃ o2, PySem.W.InstAt s.heap a oe D o2 ∧ ∀ dd gs, od = some dd → H dd = some (.xd gs) → ∃ (o : Obj) (mA : Str → Option Value), o2 = some o ∧ (∀ name, PySem.W.lookIn name o = some (mA name)) ∧ ∀ f, RelO (gs.lookup f) (mA f) := by
  obtain ⟨hget, _⟩ := I.pin (a, oe) (List.mem_append_left _ hp)
  obtain ⟨vs, hv⟩ := hf
  obtain ⟨oc, odd, oda, osl⟩ := oe
  obtain ⟨h1, h2⟩ := hz
  dsimp only at h1 h2 hv
  subst h1 h2 hv
  cases odd with
  | none => exact ⟨none, ⟨hget, rfl, rfl, trivial⟩, fun dd gs z => nomatch z⟩
  | some dd =>
    obtain ⟨gs, hg⟩ := hd dd rfl
    obtain ⟨mA, hns, hr⟩ := (show ObjOk X.prog X.w H s.heap dd (.xd gs) from I.hok dd _ hg)
    obtain ⟨o, ho, hl⟩ := lookIn_ns hns
    refine ⟨some o, ⟨hget, rfl, rfl, ho⟩, fun dd' gs' z hg' => ?_⟩
    cases z
    rw [hg] at hg'; cases hg'
    exact ⟨o, mA, rfl, hl, hr⟩
def rIsX (K : PySem.W.Frag) (D a : Addr) (od : Option Addr) : List V → Hp → VK → Prop := fun xs H Q => ∃ (c : V) (cv : Value) (b : Bool), xs = [.ref a, c] ∧ (∀ u, RelV c u → u = cv) ∧ PySem.W.kitOne K (.ref D) cv = some b ∧ (∀ dd, od = some dd → ∃ gs, H dd = some (.xd gs)) ∧ Q (.bl b) H
theorem call_isX {x : Str} {D a : Addr} {oe : Obj} {od : Option Addr} (T : ExF X.K X.mg D x) (hp : (a, oe) ∈ X.pn) (hz : Zc (.ref D) od oe) (hf : ∃ vs, oe.data = .fields vs) : CallR X (.builtin "isinstance") (rIsX X.K D a od) := by
  intro pins s σ H xs us Q I r h
  obtain ⟨c, cv, b, rfl, hcv, e, hd, q⟩ := h
  cases r with
  | cons rx rr =>
    cases rr with
    | cons rt rr =>
      cases rr
      cases rx
      have ec := hcv _ rt
      subst ec
      obtain ⟨o2, J, _⟩ := inst_x I hp hz hf hd
      have hcl : (PySem.W.clsIn X.K D).isSome = true := by
        obtain ⟨cd, hc, _⟩ := PySem.W.any_some T.hd
        rw [hc]; rfl
      exact PySem.W.kia_one (PySem.W.kitx_exc hcl T.ga T.gg T.o.exC T.ha T.hn T.ht T.hm) I.kIn J e (fun z => nomatch z) fun tk => ⟨.bl b, H, I.kept (t' := tk) fun _ _ z => z, rfl, q⟩
def mIsx (i : Nat) (a : Addr) (od : Option Addr) (b : Bool) : EX D := fun env p => match env[i]? with
  | some (.val (.exc a' od' _)) => if a' = a ∧ od' = od then .ok (.bl b) p else .bad
  | _ => .bad
theorem exc_val {H0 H : Hp} {Z0 Z : Fz} {σ : L2.St} {env : List Cell} {p : Pn} {i : Nat} {a : Addr} {od : Option Addr} {fs : List (Str × D)} (s : Stt K A H0 Z0 Z σ H env p) (h : env[i]? = some (.val (.exc a od fs))) :
    σ[i]? = some (some (.ref a)) ∧ (∀ dd, od = some dd → ∃ gs, Z.F dd = some (.xd gs) ∧ H dd = some (.xd gs) ∧ RelFs K A Z fs gs) ∧ (od = none → fs = []) := by
  have hi : i < σ.length := by
    rw [← s.len]
    exact (List.getElem?_eq_some_iff.mp h).1
  obtain ⟨v, h1, h2⟩ := s.cells i _ _ h (List.getElem?_eq_getElem hi)
  cases h2 with
  | exc0 => exact ⟨by rw [List.getElem?_eq_getElem hi, h1], (fun dd z => nomatch z), fun _ => rfl⟩
  | exc hF r => exact ⟨by rw [List.getElem?_eq_getElem hi, h1], (fun dd z => by cases z; exact ⟨_, hF, s.x.sub _ _ hF, r⟩), fun z => nomatch z⟩
section
variable {c i : Nat} {a : Addr} {oe : Obj} {od : Option Addr} {n x : Str} {xp q p pos : Pos}
theorem se_isx (i : Nat) {y : Str} {e2 : Expr} {v : V} {cv : Value} {b : Bool} (T : ExF X.K X.mg (A.ca c) y) (hp : (a, oe) ∈ X.pn) (hz : Zc (.ref (A.ca c)) od oe) (hf : ∃ vs, oe.data = .fields vs) (hk : PySem.W.kitOne X.K (.ref (A.ca c)) cv = some b) (h2 : PE X e2 (tC v)) (hcv : ∀ u, RelV v u → u = cv)
    (hg : Gl X "isinstance") (hm : X.mg "isinstance" = none) (hN : X.N[i]? = some n := by rfl) (hv : Vis X.env.scope n := by first | exact Or.inl rfl | exact Or.inr (Or.inl rfl) | exact Or.inr (Or.inr rfl)) (hd : (n == ("__debug__" : Str)) = false := by decide) (hcd : (n == ("__classdict__" : Str)) = false := by decide)
    (he : starEach [.Name n xp, e2] X.env = (false, eval (.Name n xp) X.env) :: starEach [e2] X.env := by rfl) (he2 : starEach [e2] X.env = (false, eval e2 X.env) :: starEach [] X.env := by rfl) (hpl : (backTo pos (starEach [e2] X.env)).any (·.1) = false := by rfl) :
    SE A X (.Call (.Name "isinstance" p) [.Name n xp, e2] [] pos) (mIsx i a od b) := fun E tk =>
  pe_imp (pe_callB (call_isX T hp hz hf) hg hm PyProof.Rows.Boot.«isinstance» (pa_cons (pe_var hN hv hd hcd) (pa_cons h2 pa_nil he2) he) (by decide) (by decide) he hpl) fun σ H Q ⟨H0, Z0, Z, env, p, s, q⟩ => by
    unfold mIsx at q
    revert q
    split
    · rename_i a' od' fs h
      split
      · rename_i e
        obtain ⟨rfl, rfl⟩ := e
        intro q
        obtain ⟨h1, h2, _⟩ := exc_val s h
        exact ⟨_, h1, v, cv, b, rfl, hcv, hk, fun dd e => by obtain ⟨gs, _, h3, _⟩ := h2 dd e; exact ⟨gs, h3⟩, q _ H Z s.x.here (.bl b)⟩
      · exact fun q => q.elim
    · exact fun q => q.elim
def mXfld (i : Nat) (a : Addr) (od : Option Addr) (f : Str) : EX D := fun env p => match env[i]? with
  | some (.val (.exc a' od' fs)) => if a' = a ∧ od' = od then (match fs.lookup f with | some d => .ok d p | none => .bad) else .bad
  | _ => .bad
theorem RelFs.look {Z : Fz} {f : Str} {d : D} : ∀ {fs : List (Str × D)} {gs : List (Str × V)}, RelFs K A Z fs gs → fs.lookup f = some d → ∃ v, gs.lookup f = some v ∧ Rel K A Z d v
  | _, _, .nil, h => by cases h
  | _, _, .cons (k := k) h r, e => by
    by_cases z : f = k
    · subst z
      simp only [List.lookup, beq_self_eq_true, Option.some.injEq] at e ⊢
      subst e
      exact ⟨_, rfl, h⟩
    · have z' : (f == k) = false := by simpa using z
      simp only [List.lookup, z'] at e ⊢
      exact RelFs.look r e
theorem se_xfld (i : Nat) (f : Str) {y : Str} (T : ExF X.K X.mg (A.ca c) y) (noN : PySem.W.findIn X.K (.ref (A.ca c)) f = some none) (hp : (a, oe) ∈ X.pn) (hz : Zc (.ref (A.ca c)) od oe) (hf : ∃ vs, oe.data = .fields vs)
    (hN : X.N[i]? = some n := by rfl) (hv : Vis X.env.scope n := by first | exact Or.inl rfl | exact Or.inr (Or.inl rfl) | exact Or.inr (Or.inr rfl)) (hd : (n == ("__debug__" : Str)) = false := by decide) (hcd : (n == ("__classdict__" : Str)) = false := by decide)
    (hb : attributeBase (.Name n xp) f X.env (eval (.Name n xp) X.env) = eval (.Name n xp) X.env := by rfl) :
    SE A X (.Attribute (.Name n xp) f pos) (mXfld i a od f) := fun E tk => by
  refine ⟨fun pins s σ H Q I ⟨H0, Z0, Z, env, p, st, q⟩ => ?_⟩
  have hx := pe_var (X := X) (pos := xp) hN hv hd hcd
  refine attr_of hb (thn (hx.run pins s σ H (fun x H' => x = .ref a ∧ H' = H) I ?_) fun u s1 hh => ?_)
  · unfold mXfld at q
    revert q
    split
    · rename_i a' od' fs h
      split
      · rename_i e
        obtain ⟨rfl, rfl⟩ := e
        exact fun _ => ⟨_, (exc_val st h).1, rfl, rfl⟩
      · exact fun q => q.elim
    · exact fun q => q.elim
  · obtain ⟨x, H1, I1, rx, ex, eH⟩ := hh
    subst ex eH
    obtain rfl : u = Value.ref a := rx
    unfold mXfld at q
    revert q
    split
    · rename_i a' od' fs h
      split
      · rename_i e
        obtain ⟨rfl, rfl⟩ := e
        split
        · rename_i d hl
          intro q
          obtain ⟨_, h2, h0⟩ := exc_val st h
          cases od' with
          | none =>
            rw [h0 rfl] at hl
            cases hl
          | some dd =>
            obtain ⟨gs, h3, h4, h5⟩ := h2 dd rfl
            obtain ⟨o2, J, h6⟩ := inst_x I1 hp hz hf (fun dd' z => by cases z; exact ⟨gs, h4⟩)
            obtain ⟨o, mA, rfl, h7, h8⟩ := h6 dd gs rfl h4
            obtain ⟨v, h9, h10⟩ := h5.look hl
            obtain ⟨u, hu, ru⟩ := RelO.some_of (v := v) (o := mA f) (by rw [← h9]; exact h8 f)
            exact HandSPX.exc_get I1.kIn J T.ga T.gg T.o.exC (PySem.W.findObj_own T.hd noN rfl (by rw [h7, hu])) (handed_of ru) ⟨v, _, I1.tok _, ru, q v _ Z st.x.here h10⟩
        · exact fun q => q.elim
      · exact fun q => q.elim
    · exact fun q => q.elim
end
/-! ### defs that look at the handled exception -/
structure FnK (P : Program) (w : World) (K : PySem.W.Frag) (mg : Str → Option Value) (base : Heap) (A : Adr) (L k : Nat) (f : Addr) (fd : FuncData) (ps : List Str) (φ : Nat → List (Str × D) → Pn → R D) : Prop where
  run : ∀ (B : Around) (outer : List Env) (s : Shared) (H : Hp) (args : Args) (us : List Value) (Q : VK) (E : XK) (a : Addr) (oe : Obj) (od : Option Addr) (c : Nat) (fs : List (Str × D)) (Z : Fz) (p : Pn), B.guards = some [] → L2H.RoomH k B → L2H.PinOk outer H s (a, oe) →
    c < L → Zc (.ref (A.ca c)) od oe → (∃ vs, oe.data = .fields vs) → Env0 P w K mg base B outer s H → BindsTo s fd args (ps.zip us) → Vals [.ref a] us → Xst K A H Z Z H p → Rel K A Z (.exc a od fs) (.ref a) → Post K A E (RlE K A) Z H (φ c fs p) Q →
    codeAny (model P w) B (.call (.ref f) args) (CR (L2.CX P w) outer P w H s Q E) s
section
variable {P : Program} {w : World} {mg : Str → Option Value} {base : Heap}
theorem fnK_ok {x qual : Str} {pg : Arguments} {bg : List Stmt} {sg : Scope} {dvs : List V} {kws : List (Str × V)} {f : Addr} {fdt : FuncData} {N : List Str} {en : Str} {k l nn L : Nat} {φ : Nat → List (Str × D) → Pn → R D} (F : FunD K x qual pg bg sg dvs kws f fdt) (S : FnScope N [en] sg) (hl : k + 1 = l) (hN : N.length = nn) (ma : Addr → Option Addr → Nat → SX)
    (hbody : ∀ (cdv : Value) (B : Around) (outer : List Env) (s : Shared) (H : Hp) (E : XK) (a : Addr) (oe : Obj) (od : Option Addr) (c : Nat), B.guards = some [] → L2H.RoomH k (B.deeper (envOfC qual sg s.heap.objs.size f cdv)) → c < L → Zc (.ref (A.ca c)) od oe → (∃ vs, oe.data = .fields vs) →
      SSs A (L2H.cxH (L2.CX P w) P w K mg base N qual sg f cdv B outer s H E (a, oe)) bg (ma a od c))
    (hφ : ∀ a od c fs p, c < L → fd nn (ma a od c) [.exc a od fs] p = φ c fs p) : FnK P w K mg base A L l f fdt [en] φ := by
  subst hl hN
  obtain ⟨oc, od, dV, kV, doc, pm, an, cdv, ct, osl, rfl, lk, hcd, _, _⟩ := F.ex
  refine ⟨fun B outer s H args us Q E a oe od' c fs Z p hgd hr hpin hc hz hf e0 hb r x rx q => ?_⟩
  have KX : K.In s.heap := e0.mod.kin.keeps fun b o e => (e0.bs b o e).1
  have lim : s.heap.NoLimit := e0.mod.nolimit.keeps fun b o e => (e0.bs b o e).1
  have hkind : ∀ y ∈ ([en] : List Str).zip us, sg.names.lookup y.1 = some .local ∨ (sg.names.lookup y.1 = some .cell ∧ ((cellsFrom (s.heap.objs.size + 1) sg.names []).lookup y.1).isSome = true) := fun ⟨n, v⟩ hy => by
    rcases S.par n (List.of_mem_zip hy).1 with q | q
    · exact .inl q
    · exact .inr ⟨q, PySem.W.cellsFrom_some _ _ _ (.inl q)⟩
  refine codeAny_call_function hr.depth (KX _ _ lk) rfl S.co S.gen rfl (PySem.W.codeRec_of KX hcd) (hb _ _ _ _ ?_)
  refine wpAny_newFunctionEnv_cells S.kind hkind fun env he s1 x1 => ?_
  subst he
  refine ⟨lim.keeps x1.toInCall.keep, codeAny_func ?_⟩
  have hq : tS K A E (ma a od' c) { nx := fun _ H' => Q .non H', rt := Q } (L2.start N [.ref a]) H := fdP (ds := [.exc a od' fs]) x (.cons rx .nil) (by rw [hφ a od' c fs p hc]; exact q)
  have ht := hbody cdv B outer s H E a oe od' c hgd (hr.deeper _) hc hz hf E (takes_of rfl rfl rfl rfl)
  have I : Inv (L2H.cxH (L2.CX P w) P w K mg base N qual sg f cdv B outer s H E (a, oe)) [] (L2.start N [.ref a]) H s1 := L2H.inv_startH S hpin e0 rfl r x1
  refine wpAny_mono (ht.run [] s1 (L2.start N [.ref a]) H _ I hq) (fun fl s' hs => ?_) fun e s' hs => hs
  have fin : ∀ {σ' : L2.St} {H' : Hp} {v : V} {u : Value}, Inv (L2H.cxH (L2.CX P w) P w K mg base N qual sg f cdv B outer s H E (a, oe)) [] σ' H' s' → RelV v u → Q v H' → CE outer P w H s Q u s' :=
    fun {σ' H' v u} J rv q => ⟨v, H', J.os, J.bare, J.base, J.hok, rv, q⟩
  cases fl with
  | ret u =>
    obtain ⟨v, σ', H', J, rv, q⟩ := hs
    exact fin J rv q
  | next =>
    obtain ⟨σ', H', J, q⟩ := hs
    exact fin (v := V.non) (u := Value.none) J rfl q
  | brk =>
    obtain ⟨_, _, _, q⟩ := hs
    exact False.elim q
  | cont =>
    obtain ⟨_, _, _, q⟩ := hs
    exact False.elim q
end
def mKal (i : Nat) (a : Addr) (od : Option Addr) (φ : List (Str × D) → Pn → R D) : EX D := fun env p => match env[i]? with
  | some (.val (.exc a' od' fs)) => if a' = a ∧ od' = od then φ fs p else .bad
  | _ => .bad
theorem se_callK (i : Nat) {c L k : Nat} {a f : Addr} {fdt : FuncData} {oe : Obj} {od : Option Addr} {n x en : Str} {xp q pos : Pos} {φ : Nat → List (Str × D) → Pn → R D} (F : FnK X.prog X.w X.K X.mg X.base A L k f fdt [en] φ) (hgd : X.A.guards = some []) (hr : L2H.RoomH k X.A) (hp : (a, oe) ∈ X.pn) (hc : c < L) (hz : Zc (.ref (A.ca c)) od oe) (hf : ∃ vs, oe.data = .fields vs)
    (hg : Gl X x) (hm : X.mg x = some (.ref f)) (hk : PySem.W.keepIn X.K (.ref f) = true) (hb : L2.Binds X.K fdt [en] []) (hdb : (x == ("__debug__" : Str)) = false := by decide)
    (hN : X.N[i]? = some n := by rfl) (hv : Vis X.env.scope n := by first | exact Or.inl rfl | exact Or.inr (Or.inl rfl) | exact Or.inr (Or.inr rfl)) (hd : (n == ("__debug__" : Str)) = false := by decide) (hcd : (n == ("__classdict__" : Str)) = false := by decide)
    (he : starEach [.Name n xp] X.env = (false, eval (.Name n xp) X.env) :: starEach [] X.env := by rfl) (hpl : (backTo pos (starEach [] X.env)).any (·.1) = false := by rfl) :
    SE A X (.Call (.Name x q) [.Name n xp] [] pos) (mKal i a od (φ c)) := fun E tk => by
  refine ⟨fun pins s σ H Q I ⟨H0, Z0, Z, env, p, st, q⟩ => ?_⟩
  refine wpAny_Call_Name_kw (ld_glob I hg hm ?_ hdb)
  have hx := pa_cons (pe_var (X := X) (pos := xp) hN hv hd hcd) pa_nil he
  unfold mKal at q
  revert q
  split
  · rename_i a' od' fs h
    split
    · rename_i e
      obtain ⟨rfl, rfl⟩ := e
      intro q
      obtain ⟨h1, h2, _⟩ := exc_val st h
      refine PySem.W.callWith_K (h₀ := X.base) I.ok.mod.kin hk (thn (hx.run pos pins s σ H (fun vs H' => vs = [.ref a'] ∧ H' = H) I ⟨_, h1, rfl, rfl⟩) fun us s1 ⟨vs, H1, I1, r, ev, eH⟩ => ⟨I1.kIn, ?_⟩) he hpl
      subst ev eH
      have hl : us.length = 1 := r.length.symm
      have b := hb s1 us I1.kIn (by rw [List.append_nil]; exact hl)
      rw [List.append_nil] at b
      have P1 := I1.pin (a', oe) (List.mem_append_left _ hp)
      have hpin : L2H.PinOk X.stack _ s1 (a', oe) := ⟨P1.1, P1.2.1, fun hm => (List.mem_cons.mp (I1.stkSub a' hm)).elim P1.2.2.1 P1.2.2.2.1, P1.2.2.2.2⟩
      have ra : Rel X.K A Z (.exc a' od' fs) (.ref a') := by
        have hi : i < σ.length := by
          rw [← st.len]
          exact (List.getElem?_eq_some_iff.mp h).1
        obtain ⟨v, h3, h4⟩ := st.cells i _ _ h (List.getElem?_eq_getElem hi)
        rw [List.getElem?_eq_getElem hi] at h1
        rw [Option.some.inj h1] at h3
        cases h3
        exact h4
      refine wpAny_call (codeAny_mono (F.run X.A X.stack s1 _ ⟨us, []⟩ us Q E a' oe od' c fs Z p hgd hr hpin hc hz hf I1.env0 b r st.x.here ra q) fun r s' hq => ?_)
      cases r with
      | error e => exact passE tk σ pins _ s1 e s' I1 hq
      | ok fl =>
        cases fl with
        | ret u => exact I1.after hq
        | next => exact False.elim hq
        | brk => exact False.elim hq
        | cont => exact False.elim hq
    · exact fun q => q.elim
  · exact fun q => q.elim
end
end Mn

/-! MnJ: repr, dict displays, the pen made. -/
namespace Mn
open PySem PySem.Spec PyProof.Rows L2

/-! ### repr -/
def kPy : Key → PyData
  | .inl i => .int i
  | .inr x => .str x
mutual
def toRd : D → Option PyData
  | .non => some .none
  | .bl b => some (.bool b)
  | .int i => some (.int i)
  | .str x => some (.str x)
  | .lst ds => (toRdAll ds).map .list
  | .tup ds => (toRdAll ds).map .tuple
  | .dct kvs => (toRdKV kvs).map .dict
  | _ => none
def toRdAll : List D → Option (List PyData)
  | [] => some []
  | d :: ds => (toRd d).bind fun a => (toRdAll ds).map (a :: ·)
def toRdKV : List (Key × D) → Option (List (PyData × PyData))
  | [] => some []
  | (k, d) :: ds => (toRd d).bind fun a => (toRdKV ds).map ((kPy k, a) :: ·)
end
def dRepr (d : D) : Option D := (toRd d).bind fun q => if q.showable && (decide (q.shown.length ≤ sizeLine) && decide (q.depth ≤ 100)) then some (.str q.shown) else none
section
variable {A : Adr} {X : Cx} {K : PySem.W.Frag}
/-- where sys.modules stands in the fixed part -/
def SysAt (base : Heap) : Prop := ∃ o, base.get? sysModules = some o ∧ o.cls = .type "dict"
section
variable {pins : List (Addr × Obj)} {σ : L2.St} {H : Hp} {s : Shared} {Z : Fz}
theorem key_reads {h : Heap} {k : Key} {v : Value} (e : keyIs k v = true) : Reads h v (kPy k) [] := by
  rcases keyIs_shape e with ⟨i, t, rfl, rfl⟩ | ⟨x, t, rfl, rfl⟩
  · exact .int i t
  · exact .str x t
mutual
theorem rd_of (I : Inv X pins σ H s) (hsm : SysAt X.base) (sub : ∀ a o, Z.F a = some o → H a = some o) : ∀ {d : D} {v : V} {u : Value} {q : PyData}, Rel X.K A Z d v → RelV v u → toRd d = some q → ∃ as, Reads s.heap u q as ∧ sysModules ∉ as
  | .non, _, _, _, .non, r, e => by
    simp only [toRd, Option.some.injEq] at e; subst e
    cases r; exact ⟨_, .none, by simp⟩
  | .bl b, _, _, _, .bl _, r, e => by
    simp only [toRd, Option.some.injEq] at e; subst e
    cases r; exact ⟨_, .bool b, by simp⟩
  | .int i, _, _, _, .int _, r, e => by
    simp only [toRd, Option.some.injEq] at e; subst e
    obtain ⟨t, rfl⟩ := r; exact ⟨_, .int i t, by simp⟩
  | .str x, _, _, _, .str _, r, e => by
    simp only [toRd, Option.some.injEq] at e; subst e
    obtain ⟨t, rfl⟩ := r; exact ⟨_, .str x t, by simp⟩
  | .lst ds, _, _, _, .lst (a := a) h r', r, e => by
    simp only [toRd, Option.map_eq_some_iff] at e
    obtain ⟨qs, e1, rfl⟩ := e
    cases r
    obtain ⟨its, rv, ⟨o, n, ho, hc, _, hd⟩, _⟩ := I.list (SqL.of (sub _ _ h))
    obtain ⟨as, hr, hn⟩ := rd_all I hsm sub r' rv e1
    refine ⟨_, Reads.list ho hc hd hr, fun z => ?_⟩
    rcases List.mem_cons.mp z with z | z
    · obtain ⟨ob, h1, h2⟩ := hsm
      have h3 := (I.env0.bs _ _ h1).1
      rw [z, ho] at h3
      cases h3
      rw [hc] at h2
      exact absurd (Value.type.inj h2) (by decide)
    · exact hn z
  | .tup ds, _, _, _, .tup h r', r, e => by
    simp only [toRd, Option.map_eq_some_iff] at e
    obtain ⟨qs, e1, rfl⟩ := e
    cases r
    obtain ⟨its, rv, ⟨o, ho, hc, n, hd⟩, _⟩ := I.tuple (SqT.mono sub h)
    obtain ⟨as, hr, hn⟩ := rd_all I hsm sub r' rv e1
    exact ⟨_, Reads.tuple ho hc hd hr, hn⟩
  | .dct kvs, _, _, _, .dct (a := a) h r', r, e => by
    simp only [toRd, Option.map_eq_some_iff] at e
    obtain ⟨qs, e1, rfl⟩ := e
    cases r
    obtain ⟨_, hne, vs, hkv, o, es, ep, ho, hx, hd, _, hp, _⟩ := dk_of I.hok (sub _ _ h)
    obtain ⟨as, bs, h1, h2, h3, h4⟩ := rd_kv I hsm sub r' hkv hp e1
    refine ⟨_, Reads.dict ho hx.1 hd h1 h2, fun z => ?_⟩
    rcases List.mem_append.mp z with z | z
    · rcases List.mem_cons.mp z with z | z
      · rw [← z] at hne
        simp at hne
      · exact h3 z
    · exact h4 z
  | .scr _, _, _, _, _, _, e => by simp [toRd] at e
  | .fn _, _, _, _, _, _, e => by simp [toRd] at e
  | .cls _, _, _, _, _, _, e => by simp [toRd] at e
  | .ins _ _, _, _, _, _, _, e => by simp [toRd] at e
  | .pen, _, _, _, _, _, e => by simp [toRd] at e
  | .exc _ _ _, _, _, _, _, _, e => by simp [toRd] at e
theorem rd_all (I : Inv X pins σ H s) (hsm : SysAt X.base) (sub : ∀ a o, Z.F a = some o → H a = some o) : ∀ {ds : List D} {vs : List V} {us : List Value} {qs : List PyData}, RelAll X.K A Z ds vs → Vals vs us → toRdAll ds = some qs → ∃ as, ReadsAll s.heap us qs as ∧ sysModules ∉ as
  | [], _, _, _, .nil, .nil, e => by simp only [toRdAll, Option.some.injEq] at e; subst e; exact ⟨_, .nil, by simp⟩
  | d :: ds, _, _, _, .cons h r, .cons rv rr, e => by
    simp only [toRdAll, Option.bind_eq_some_iff, Option.map_eq_some_iff] at e
    obtain ⟨a, e1, b, e2, rfl⟩ := e
    obtain ⟨as, h1, h2⟩ := rd_of I hsm sub h rv e1
    obtain ⟨bs, h3, h4⟩ := rd_all I hsm sub r rr e2
    exact ⟨_, .cons h1 h3, fun z => (List.mem_append.mp z).elim h2 h4⟩
theorem rd_kv (I : Inv X pins σ H s) (hsm : SysAt X.base) (sub : ∀ a o, Z.F a = some o → H a = some o) : ∀ {kvs : List (Key × D)} {ws : List (Key × V)} {vs : List (Key × Value)} {es : List DictEntry} {qs : List (PyData × PyData)}, RelKV X.K A Z kvs ws → KV ws vs → Pairs (mixKind X.prog X.w) es vs → toRdKV kvs = some qs →
    ∃ as bs, ReadsAll s.heap (es.map (·.key)) (qs.map (·.1)) as ∧ ReadsAll s.heap (es.map (·.val)) (qs.map (·.2)) bs ∧ sysModules ∉ as ∧ sysModules ∉ bs
  | [], _, _, _, _, .nil, .nil, .nil, e => by simp only [toRdKV, Option.some.injEq] at e; subst e; exact ⟨_, _, .nil, .nil, by simp, by simp⟩
  | (k, d) :: kvs, _, _, _, _, .cons h r, .cons rk rr, .cons hk hv hp, e => by
    simp only [toRdKV, Option.bind_eq_some_iff, Option.map_eq_some_iff] at e
    obtain ⟨a, e1, b, e2, rfl⟩ := e
    obtain ⟨as, bs, h1, h2, h3, h4⟩ := rd_kv I hsm sub r rr hp e2
    obtain ⟨rk1, rk2⟩ := rk
    rw [← hv] at rk2
    obtain ⟨cs, h5, h6⟩ := rd_of I hsm sub h rk2 e1
    rw [← rk1] at hk
    exact ⟨_, _, .cons (key_reads hk) h1, .cons h5 h2, by simpa using h3, fun z => (List.mem_append.mp z).elim h6 h4⟩
end
end
def rRepr (K : PySem.W.Frag) (A : Adr) : List V → Hp → VK → Prop := fun xs H Q => ∃ (Z : Fz) (d : D) (v : V) (g : D), xs = [v] ∧ (∀ a o, Z.F a = some o → H a = some o) ∧ Rel K A Z d v ∧ dRepr d = some g ∧ ∀ w, (∀ Z', Rel K A Z' g w) → Q w H
theorem call_repr (hgd : X.A.guards = some []) (hu : X.A.units + 200 < cLine) (hsm : SysAt X.base) : CallR X (.builtin "repr") (rRepr X.K A) := by
  intro pins s σ H xs us Q I r h
  obtain ⟨Z, d, v, g, rfl, sub, rel, hg, q⟩ := h
  obtain ⟨u, rfl, r1⟩ := vals1 r
  unfold dRepr at hg
  simp only [Option.bind_eq_some_iff] at hg
  obtain ⟨qd, h1, h2⟩ := hg
  split at h2
  · rename_i hc
    cases h2
    rw [Bool.and_eq_true, Bool.and_eq_true] at hc
    obtain ⟨c1, c2, c3⟩ := hc
    have c2 := of_decide_eq_true c2
    have c3 := of_decide_eq_true c3
    obtain ⟨as, hr, hn⟩ := rd_of I hsm sub rel r1 h1
    have fin : ∀ h' tk t, (∀ b o, s.heap.get? b = some o → h'.get? b = some o) → EP X pins σ Q (.str qd.shown t) { s with heap := h', toks := tk } := fun h' tk t k =>
      ⟨.str qd.shown, H, I.kept (t' := tk) k, ⟨_, rfl⟩, q _ fun Z' => .str _⟩
    cases u with
    | ref a => exact repr_of_reads' hr c1 (fun _ => hn) hgd (by omega) (fun _ _ e => e) (fun h' u tk k => fin h' tk u k) c2
    | none => cases hr; exact PySem.P.repr_of_none (fin _ _ _ fun _ _ e => e)
    | bool b =>
      cases hr
      refine PySem.P.repr_of_bool ?_
      have := fin s.heap (s.toks + 1) s.toks fun _ _ e => e
      simpa only [PyData.shown] using this
    | int i t =>
      cases hr
      exact PySem.P.repr_of_int (by simpa [PyData.showable] using c1) (fin _ _ _ fun _ _ e => e)
    | str x t =>
      cases hr
      exact PySem.P.repr_of_str (fin _ _ _ fun _ _ e => e) c2
    | _ => cases hr
  · cases h2
theorem se_repr {e : Expr} {m : EX D} {p pos : Pos} (hgd : X.A.guards = some []) (hu : X.A.units + 200 < cLine) (hsm : SysAt X.base) (hg : Gl X "repr") (hm : X.mg "repr" = none) (h : SE A X e m)
    (he : starEach [e] X.env = (false, eval e X.env) :: starEach [] X.env := by rfl) (hpl : (backTo pos (starEach [] X.env)).any (·.1) = false := by rfl) : SE A X (.Call (.Name "repr" p) [e] [] pos) (m1 dRepr m) := fun E tk =>
  pe_imp (pe_callB (call_repr (A := A) hgd hu hsm) hg hm PyProof.Rows.Boot.«repr» (pa_cons (h E tk) pa_nil he) (by decide) (by decide) he hpl) fun σ H Q ⟨H0, Z0, Z, env, p, s, q⟩ => by
    refine ⟨H0, Z0, Z, env, p, s, bindP RlE.dn q fun x H1 d Z1 p1 y1 r1 q1 => ?_⟩
    obtain ⟨g, hg, q2⟩ := liftP q1
    exact ⟨Z1, d, x, g, rfl, y1.sub, r1, hg, fun w hw => q2 w H1 Z1 (s.after y1).x.here (hw _)⟩

/-! ### dict displays, keys written -/
def SPs (A : Adr) (X : Cx) (pos : Pos) (keys : List (Option Expr)) (values : List Expr) (ks : List Str) (m : EX (List D)) : Prop :=
  ∀ E, Tk X E → ∃ trs, PPs X pos keys values trs ∧ keys.length = values.length ∧ keys.length = ks.length ∧ keys.all (·.isSome) = true ∧
    ∀ σ H (Q : List (V × V) → Hp → Prop), tR X.K A E (RlA X.K A) m σ H (fun vs H2 => vs.length = ks.length → Q ((ks.zip vs).map (fun kv => (V.str kv.1, kv.2))) H2) → tPairs trs σ H Q
theorem sps_nil {pos : Pos} : SPs A X pos [] [] [] mNil := fun E tk => ⟨[], pps_nil, rfl, rfl, rfl, fun σ H Q ⟨H0, Z0, Z, env, p, s, q⟩ => q [] H Z s.x.here .nil rfl⟩
theorem sps_cons {pos : Pos} {k : Str} {j : Nat} {kp : Pos} {v : Expr} {keys : List (Option Expr)} {values : List Expr} {ks : List Str} {mv : EX D} {m : EX (List D)} (hv : SE A X v mv) (hr : SPs A X pos keys values ks m) :
    SPs A X pos (some (.Constant (.str k) j kp) :: keys) (v :: values) (k :: ks) (mCons mv m) := fun E tk => by
  obtain ⟨trs, h1, h2, h3, h4, h5⟩ := hr E tk
  refine ⟨_, pps_cons pe_str (hv E tk) h1, by rw [List.length_cons, List.length_cons, h2], by rw [List.length_cons, List.length_cons, h3], by rw [List.all_cons, h4]; rfl, fun σ H Q h => ?_⟩
  obtain ⟨H0, Z0, Z, env, p, s, q⟩ := h
  refine ⟨H0, Z0, Z, env, p, s, bindP RlA.dn q fun x H1 d Z1 p1 y1 r1 q1 => ?_⟩
  exact h5 σ H1 _ ⟨H0, Z0, Z1, env, p1, s.after y1, bindP RlA.dn q1 fun y H2 e Z2 p2 y2 r2 q2 hl => q2 _ H2 Z2 ((s.after y1).after y2).x.here (.cons (r1.mono y2.le) r2) (by rw [List.length_cons, List.length_cons, hl])⟩
theorem mergeK_app : ∀ (more acc : List (Key × V)), (acc.map (·.1) ++ more.map (·.1)).Nodup → mergeK acc more = acc ++ more
  | [], acc, _ => by unfold mergeK; simp
  | (k, v) :: r, acc, h => by
    have hk : k ∉ acc.map (·.1) := fun z => (List.nodup_append.mp h).2.2 k z k (by simp) rfl
    have e : putK acc k v = acc ++ [(k, v)] := by
      unfold putK
      rw [if_neg]
      intro z
      obtain ⟨p, hp, e⟩ := List.any_eq_true.mp z
      exact hk (List.mem_map.mpr ⟨p, hp, of_decide_eq_true e⟩)
    show mergeK (putK acc k v) r = _
    rw [e, mergeK_app r (acc ++ [(k, v)]) (by simpa using h), List.append_assoc]
    rfl
def kvD (ks : List Str) (ds : List D) : List (Key × D) := (ks.zip ds).map fun x => (Sum.inr x.1, x.2)
def kvV (ks : List Str) (vs : List V) : List (Key × V) := (ks.zip vs).map fun x => (Sum.inr x.1, x.2)
theorem RelAll.kv {Z : Fz} : ∀ {ds : List D} {vs : List V} (ks : List Str), RelAll K A Z ds vs → RelKV K A Z (kvD ks ds) (kvV ks vs)
  | _, _, [], _ => .nil
  | _, _, _ :: _, .nil => .nil
  | _, _, _ :: ks, .cons h r => .cons h (RelAll.kv ks r)
theorem kvV_keys : ∀ (ks : List Str) (vs : List V), vs.length = ks.length → (kvV ks vs).map (·.1) = ks.map Sum.inr
  | [], _, _ => rfl
  | k :: ks, v :: vs, h => by
    have h' : vs.length = ks.length := by simpa using h
    show _ :: (kvV ks vs).map (·.1) = _ :: ks.map Sum.inr
    rw [kvV_keys ks vs h']
/-- a dict that nobody else has is written -/
theorem Xst.wrD {H0 H : Hp} {Z0 Z : Fz} {p : Pn} {a : Addr} {vs vs' : List (Key × V)} (x : Xst K A H0 Z0 Z H p) (h0 : H0 a = none) (hz : Z.F a = none) (hp : Z.pa ≠ some a) (ha : H a = some (.dK vs)) : Xst K A H0 Z0 Z (upd H a (.dK vs')) p := by
  refine ⟨x.le, fun b u e => ?_, ?_, fun b u hb hp' hn' => ?_, fun b hb => ?_, x.fz, x.pz, fun t ht' => ?_⟩
  · rw [upd_ne (fun z => by rw [z, hz] at e; cases e)]; exact x.sub b u e
  · have hq := x.pen
    cases p with
    | none => exact hq
    | some r =>
      obtain ⟨b, q1, q2, ac, q3, q4⟩ := hq
      exact ⟨b, q1, q2, ac, by rw [upd_ne (fun z => hp (by rw [← z]; exact q1))]; exact q3, q4⟩
  · rw [upd_ne (fun z => by rw [z, h0] at hb; cases hb)]; exact x.fr b u hb hp' hn'
  · by_cases z : b = a
    · rw [z]; exact h0
    · rw [upd_ne z] at hb; exact x.th b hb
  · obtain ⟨ps, q1, q2, q3⟩ := x.tabs t ht'
    refine ⟨ps, by rw [upd_ne (fun z => by rw [z, ha] at q1; cases q1)]; exact q1, q2, fun pos cv hc => ?_⟩
    obtain ⟨c, e1, e2⟩ := q3 pos cv hc
    exact ⟨c, e1, by rw [upd_ne (fun z => by rw [z] at e2; exact codeO_ne_dk (ha.symm.trans e2))]; exact e2⟩
def mDisp (ks : List Str) (m : EX (List D)) : EX D := fun env p => (m env p).bind fun ds p => .ok (.dct (kvD ks ds)) p
theorem so_disp {keys : List (Option Expr)} {values : List Expr} {ks : List Str} {m : EX (List D)} {pos : Pos} (h : SPs A X pos keys values ks m) (hnd : ks.Nodup := by decide) (h0 : keys ≠ [] := by simp) (h15 : keys.length ≤ 15 := by decide) : SO A X (.Dict keys values pos) (mDisp ks m) := fun E tk => by
  obtain ⟨trs, h1, h2, h3, h4, h5⟩ := h E tk
  refine pe_imp (pe_disp h1 h4 h2 h0 h15) fun σ H Q ⟨H0, Z0, Z, env, p, s, q⟩ => ?_
  intro a ha
  refine h5 σ _ _ ?_
  have xa := s.x.here.fresh (o := .dK []) ha
  have sa := s.after xa
  refine ⟨H0, Z0, Z, env, p, sa, ?_⟩
  unfold mDisp at q
  revert q
  cases m env p with
  | bad => exact fun q => q
  | ex c fs p' => exact fun q od H' Z' y e => q od H' Z' (xa.after y) e
  | ok ds p1 =>
    intro q vs H1 Z1 y1 r1 hl
    have np : Z1.pa ≠ some a := fun z => by
      rcases y1.pz a z with z | z
      · exact s.x.pnone ha z
      · rw [upd_same] at z; cases z
    have hd : H1 a = some (.dK []) := y1.fr a _ upd_same np (fun _ z => nomatch z)
    have hz : Z1.F a = none := y1.fz a (by rw [upd_same]; simp) (s.x.fnone ha)
    have r1 : RelAll X.K A Z1 ds vs := r1
    refine ⟨hd, kvV ks vs, ?_, ?_, ?_⟩
    · unfold kvV
      rw [List.map_map]
      rfl
    · have := congrArg List.length (kvV_keys ks vs hl)
      rw [List.length_map, List.length_map, ← h3] at this
      rw [this]; exact h15
    · have hm : mergeK [] (kvV ks vs) = kvV ks vs := by
        rw [mergeK_app _ [] (by
          rw [kvV_keys ks vs hl]
          show (ks.map Sum.inr : List Key).Nodup
          exact List.Pairwise.map _ (fun a b h z => h (Sum.inr.inj z)) hnd)]
        rfl
      rw [hm]
      exact q _ _ Z1 ((xa.after y1).wrD ha hz np hd) ⟨a, rfl, ⟨_, upd_same, r1.kv ks⟩, ha, hz, np⟩
/-- {} -/
theorem so_disp0 {pos : Pos} : SO A X (.Dict [] [] pos) (mC (.dct [])) := fun E tk => pe_imp pe_dnewK fun σ H Q ⟨H0, Z0, Z, env, p, s, q⟩ a ha =>
  q _ _ Z (s.x.here.fresh ha) ⟨a, rfl, ⟨_, upd_same, .nil⟩, ha, s.x.fnone ha, s.x.pnone ha⟩

end
end Mn

/-! MnK: the pen made. -/
namespace Mn
open PySem PySem.Spec PyProof.Rows L2
section
variable {A : Adr} {X : Cx} {K : PySem.W.Frag}
def dI : D → Option Int
  | .int i => some i
  | _ => none
theorem dI_some {d : D} {i : Int} (h : dI d = some i) : d = .int i := by
  cases d <;> simp only [dI, reduceCtorEq, Option.some.injEq] at h
  rw [h]
def dL : D → Option (List D)
  | .lst i => some i
  | _ => none
theorem dL_some {d : D} {i : List D} (h : dL d = some i) : d = .lst i := by
  cases d <;> simp only [dL, reduceCtorEq, Option.some.injEq] at h
  rw [h]
def toInts : List D → Option (List Int)
  | [] => some []
  | d :: r => (dI d).bind fun i => (toInts r).map (i :: ·)
theorem toInts_rel {Z : Fz} : ∀ {ds : List D} {vs : List V} {ns : List Int}, RelAll K A Z ds vs → toInts ds = some ns → vs = ns.map V.int
  | [], _, _, .nil, e => by simp only [toInts, Option.some.injEq] at e; subst e; rfl
  | d :: ds, _, _, .cons h r, e => by
    simp only [toInts, Option.bind_eq_some_iff, Option.map_eq_some_iff] at e
    obtain ⟨i, e0, ns, e1, rfl⟩ := e
    have := dI_some e0
    subst this
    rw [toInts_rel r e1, h.int_of]
    rfl
def penOf5 (x1 x2 x3 x4 x5 : Key × D) : Option PenR :=
  if x1.1 = .inr "cells" ∧ x2.1 = .inr "at" ∧ x3.1 = .inr "digits" ∧ x4.1 = .inr "count" ∧ x5.1 = .inr "fold" then
    (dL x1.2).bind fun ds => (toInts ds).bind fun ns => (dI x2.2).bind fun a => (dI x3.2).bind fun b => (dI x4.2).bind fun c => (dI x5.2).map fun d => ⟨ns, a, b, c, d⟩
  else none
def penKvs : List (Key × D) → Option PenR
  | [x1, x2, x3, x4, x5] => penOf5 x1 x2 x3 x4 x5
  | _ => none
def penOf : D → Option PenR
  | .dct kvs => penKvs kvs
  | _ => none
theorem penOf_some {d : D} {r : PenR} (h : penOf d = some r) : ∃ ds, d = .dct [(.inr "cells", .lst ds), (.inr "at", .int r.at_), (.inr "digits", .int r.digits), (.inr "count", .int r.count), (.inr "fold", .int r.fold)] ∧ toInts ds = some r.cells := by
  cases d <;> simp only [penOf, reduceCtorEq] at h
  rename_i kvs
  match kvs, h with
  | [x1, x2, x3, x4, x5], h =>
    obtain ⟨k1, d1⟩ := x1
    obtain ⟨k2, d2⟩ := x2
    obtain ⟨k3, d3⟩ := x3
    obtain ⟨k4, d4⟩ := x4
    obtain ⟨k5, d5⟩ := x5
    have h' : penOf5 (k1, d1) (k2, d2) (k3, d3) (k4, d4) (k5, d5) = some r := h
    unfold penOf5 at h'
    by_cases hc : k1 = .inr "cells" ∧ k2 = .inr "at" ∧ k3 = .inr "digits" ∧ k4 = .inr "count" ∧ k5 = .inr "fold"
    · rw [if_pos hc] at h'
      obtain ⟨e1, e2, e3, e4, e5⟩ := hc
      subst e1 e2 e3 e4 e5
      simp only [Option.bind_eq_some_iff, Option.map_eq_some_iff] at h'
      obtain ⟨ds, h1, ns, h2, a, h3, b, h4, c, h5, d, h6, rfl⟩ := h'
      have z1 := dL_some h1
      have z3 := dI_some h3
      have z4 := dI_some h4
      have z5 := dI_some h5
      have z6 := dI_some h6
      subst z1 z3 z4 z5 z6
      exact ⟨ds, rfl, h2⟩
    · rw [if_neg hc] at h'
      cases h'
def mPenF (r : R D) : R D := match r with
  | .ok d p => (match p with
    | none => (match penOf d with | some r => .ok .pen (some r) | none => .bad)
    | some _ => .bad)
  | .ex c fs p' => .ex c fs p'
  | .bad => .bad
def mPen (m : EX D) : EX D := fun env p => mPenF (m env p)
theorem rel_pen {Z : Fz} {ds : List D} {a b c d : Int} {k1 k2 k3 k4 k5 : Key} {ws : List (Key × V)} (h : RelKV K A Z [(k1, .lst ds), (k2, .int a), (k3, .int b), (k4, .int c), (k5, .int d)] ws) :
    ∃ ac vs, ws = [(k1, .ref ac), (k2, .int a), (k3, .int b), (k4, .int c), (k5, .int d)] ∧ Z.F ac = some (.lst vs) ∧ RelAll K A Z ds vs := by
  cases h with
  | cons h1 r =>
    cases h1 with
    | lst hl hr2 =>
    cases r with
    | cons h2 r =>
      cases h2
      cases r with
      | cons h3 r =>
        cases h3
        cases r with
        | cons h4 r =>
          cases h4
          cases r with
          | cons h5 r =>
            cases h5
            cases r
            exact ⟨_, _, rfl, hl, hr2⟩
theorem se_pen {e : Expr} {m : EX D} (h : SO A X e m) : SE A X e (mPen m) := fun E tk => pe_imp (h E tk) fun σ H Q ⟨H0, Z0, Z, env, p, s, q⟩ => by
  refine ⟨H0, Z0, Z, env, p, s, ?_⟩
  unfold mPen mPenF at q
  revert q
  cases m env p with
  | bad => exact fun q => q
  | ex c fs p' => exact fun q => q
  | ok d p' =>
    cases p' with
    | some r => exact fun q => q.elim
    | none =>
      dsimp only
      cases hr : penOf d with
      | none => exact fun q => q.elim
      | some r =>
        intro q v H' Z' x ⟨a, e1, e2, e3, e4, e5⟩
        obtain ⟨ds, rfl, hi⟩ := penOf_some hr
        obtain ⟨ws, h1, h2⟩ := e2
        obtain ⟨ac, vs, rfl, hl, hr2⟩ := rel_pen h2
        have hv := toInts_rel hr2 hi
        subst hv
        have hp0 : Z'.pa = none := x.pen
        refine q v H' ⟨Z'.F, some a⟩ ?_ (by rw [e1]; exact .pen rfl)
        refine ⟨⟨x.le.f, fun b hb => ?_⟩, x.sub, ⟨a, rfl, e4, ac, h1, hl⟩, fun b o ho hb ht => x.fr b o ho (by rw [hp0]; simp) ht, x.th, x.fz, fun b hb => ?_, x.tabs⟩
        · have := x.le.p b hb
          rw [hp0] at this; cases this
        · cases hb
          exact .inr e3
end
end Mn

/-! MnL: the end. law_callM is the kit's law_callTs turned to defs that know the guards. -/
namespace Mn
open PySem PySem.Spec PyProof.Rows L2 LamX
theorem law_callM {P : Program} {w : World} {K : PySem.W.Frag} {mg mb : Str → Option Value} {k : Nat} {fa a : Addr} {cs : List (Addr × Addr)} {fd : FuncData} {x : Str} {sp : Sp} {s₁ : Shared} {vs : List Value} {ns : List Int}
    (KX : K.In s₁.heap) (hns : s₁.heap.Ns mainGlobals mg) (hb : s₁.heap.Ns builtinsNs mb) (hbb : ∀ x : Str, x ≠ "__name__" → mb x = bootBuiltins x) (hlim : s₁.heap.NoLimit) (hg : s₁.gens = #[])
    (hT : ∀ p ∈ cs, s₁.heap.get? p.2 = some { cls := .none, data := .fields #[] }) (nT : ∀ p ∈ cs, K.lookup p.2 = none) (C : ∀ p ∈ cs, PySem.W.CodeHd s₁.heap p.1 p.2)
    (hbm : ∃ (bm : Addr) (ob : Obj), mg "__builtins__" = some (.ref bm) ∧ bm ≠ builtinsNs ∧ s₁.heap.get? bm = some ob ∧ ob.cls = .type "module" ∧ ob.dict = some builtinsNs ∧ ob.data = .plain)
    (ha : s₁.heap.get? a = some { cls := .type "list", data := .seq vs.toArray }) (hi : IntsAre vs ns) (hl : ns.length ≤ sizeLine) (hr : Room k callerA)
    (hsys : ∃ o es ep, s₁.heap.get? sysModules = some o ∧ o.cls = .type "dict" ∧ o.data = .dict es ep) (F : ∀ base : Heap, K.In base → base.Ns mainGlobals mg → (∀ p ∈ cs, LamX.TabB base mg p.1 p.2) → SysAt base → FnM P w K mg base k fa fd [x] sp) (hbind : ∀ (s : Shared) (u : Value), BindsTo s fd ⟨[u], []⟩ [(x, u)])
    (hsp : ∀ H : Hp, (∀ p ∈ cs, H p.2 = some (.tbl #[])) → SqL K H a (ns.map V.int) → sp [.ref a] H (fun v _ => v = .bl true) fun _ _ _ => False)
    :
    codeAny (model P w) callerA (.call (.ref fa) ⟨[.ref a], []⟩) (fun r s' => r = .ok (.ret (.bool true)) ∧ OldK s₁.heap s'.heap ∧ s'.os = s₁.os ∧ AllBare s'.gens) s₁ := by
  have rv := vals_ints hi
  have lenV := hi.length
  have isT : ∀ b : Addr, b ∈ cs.map (·.2) → s₁.heap.get? b = some { cls := .none, data := .fields #[] } := fun b hb => by
    obtain ⟨p, hp, e⟩ := List.mem_map.mp hb
    rw [← e]
    exact hT p hp
  have aT : a ∉ cs.map (·.2) := fun z => by
    have q := isT a z
    rw [ha] at q
    have z' : Data.seq vs.toArray _ = Data.fields #[] := congrArg Obj.data (Option.some.inj q)
    cases z'
  have memT : ∀ p ∈ cs, p.2 ∈ cs.map (·.2) := fun p hp => List.mem_map.mpr ⟨p, hp, rfl⟩
  -- from an abstract heap in which nothing but the script and the tables may be tracked
  have core : ∀ H : Hp, (∀ p ∈ cs, H p.2 = some (.tbl #[])) → (∀ b, H b = none ∨ b ∈ cs.map (·.2) ∨ ∃ o xs, H b = some (.frz o (.lst xs))) → SqL K H a (ns.map V.int) → HOk P w H s₁.heap → (∀ b, H b ≠ none → b = a ∨ b ∈ cs.map (·.2)) → (H a ≠ none → K.lookup a = none) →
      codeAny (model P w) callerA (.call (.ref fa) ⟨[.ref a], []⟩) (fun r s' => r = .ok (.ret (.bool true)) ∧ OldK s₁.heap s'.heap ∧ s'.os = s₁.os ∧ AllBare s'.gens) s₁ := by
    intro H hH hO hS hok hA hK
    have base_of : ∀ {b : Addr} {o : Obj}, s₁.heap.get? b = some o → H b = none → (hidT s₁.heap H).get? b = some o := fun e n => hidT_get e n
    have noD : ∀ {b : Addr} {o : Obj}, s₁.heap.get? b = some o → (∀ vs n, o.data ≠ .seq vs n) → o.data ≠ .fields #[] → H b = none := fun {b o} e h1 h2 => by
      cases q : H b with
      | none => rfl
      | some u =>
        rcases hA b (by rw [q]; simp) with e' | e'
        · rw [e', ha] at e
          cases e
          exact (h1 _ _ rfl).elim
        · rw [isT b e'] at e
          cases e
          exact (h2 rfl).elim
    have noA : ∀ {b : Addr} {o : Obj} {es : Array DictEntry} {ep : Nat}, s₁.heap.get? b = some o → o.data = .dict es ep → H b = none := fun {b o es ep} e d => by
      refine noD e (fun vs n z => ?_) fun z => ?_
      · rw [d] at z
        cases z
      · rw [d] at z
        cases z
    have nsK : ∀ {b : Addr} {m : Str → Option Value}, s₁.heap.Ns b m → (hidT s₁.heap H).Ns b m := fun {b m} ⟨o, es, ep, e, d, r⟩ => ⟨o, es, ep, base_of e (noA e d), d, r⟩
    have hKb : K.In (hidT s₁.heap H) := fun b o e => base_of (KX b o e) (by
      cases q : H b with
      | none => rfl
      | some u =>
        rcases hA b (by rw [q]; simp) with e' | e'
        · rw [e'] at e q
          rw [hK (by rw [q]; simp)] at e
          cases e
        · obtain ⟨p, hp, ep⟩ := List.mem_map.mp e'
          rw [← ep, nT p hp] at e
          cases e)
    have hM : L2.Mod K mg (hidT s₁.heap H) := ⟨hKb, nsK hns, ⟨mb, nsK hb, hbb⟩, let ⟨mc, h1, h2⟩ := hlim; ⟨mc, nsK h1, h2⟩⟩
    have TB : ∀ p ∈ cs, LamX.TabB (hidT s₁.heap H) mg p.1 p.2 := fun p hp => by
      have hTp := hT p hp
      refine ⟨?_, ?_, fun z => ?_⟩
      · obtain ⟨o, us, file, tf, flags, tg, inF, text, tt, e1, r1, r2, r3, r4, r5, r6, r7, r8, hne⟩ := C p hp
        refine ⟨o, us, file, tf, flags, tg, inF, text, tt, base_of e1 (noD e1 (fun vs n z => ?_) fun z => ?_), r1, r2, r3, r4, r5, r6, r7, r8, hne⟩
        · rw [r2] at z
          cases z
        · rw [r2] at z
          cases z
          simp at r3
      · obtain ⟨bm, ob, b1, b2, b3, b4, b5, b6⟩ := hbm
        have nG : bm ≠ mainGlobals := fun q => by
          obtain ⟨o, es, ep, e, hd, _⟩ := hns
          rw [q, e] at b3
          cases b3
          rw [hd] at b6
          cases b6
        have nP : bm ≠ p.2 := fun q => by
          rw [q, hTp] at b3
          cases b3
          cases b6
        refine ⟨bm, ob, b1, b2, nG, nP, base_of b3 (noD b3 (fun vs n z => ?_) fun z => ?_), b4, b5, b6⟩
        · rw [b6] at z
          cases z
        · rw [b6] at z
          cases z
      · obtain ⟨o, es, ep, e, hd, _⟩ := hns
        rw [z, hTp] at e
        cases e
        cases hd
    have e0 : Env0 P w K mg (hidT s₁.heap H) callerA [] s₁ H := ⟨rfl, hM, fun b o e => of_hidT e, Nat.le_of_eq (hidT_size _ _), trivial, fun b hb => absurd (show b ∈ ([] : List Addr) from hb) (by simp), hok, .of_eq hg⟩
    have SY : SysAt (hidT s₁.heap H) := by
      obtain ⟨o, es, ep, h1, h2, h3⟩ := hsys
      exact ⟨o, base_of h1 (noA h1 h3), h2⟩
    refine codeAny_mono ((F _ hKb (nsK hns) TB SY).run callerA [] s₁ H ⟨[.ref a], []⟩ [.ref a] [.ref a] _ _ rfl hr e0 (hbind s₁ (.ref a)) (.cons rfl .nil) (hsp H hH hS)) fun r s' h => ?_
    cases r with
    | error e =>
      obtain ⟨_, _, _, _, _, _, _, _, _, _, _, _, z⟩ := h
      exact z.elim
    | ok fl =>
      cases fl with
      | next => exact False.elim h
      | brk => exact False.elim h
      | cont => exact False.elim h
      | ret u =>
        obtain ⟨v, H', os, bare, un, hok', r', q⟩ := h
        have q' : v = .bl true := q
        subst q'
        obtain rfl : u = Value.bool true := r'
        have key : ∀ b o, b ∉ cs.map (·.2) → s₁.heap.get? b = some o → s'.heap.get? b = some o := fun b o nb e => by
          cases q : H b with
          | none => exact un.keep b o e q (by intro z; exact absurd (show b ∈ ([] : List Addr) from z) (by simp)) (by simp)
          | some u =>
            rcases hO b with z | z | ⟨ob, xs, z⟩
            · rw [q] at z; cases z
            · exact absurd z nb
            · have z2 := un.frzs b ob _ z
              obtain ⟨e1, _⟩ := hok b _ z
              obtain ⟨e2, _⟩ := hok' b _ z2
              rw [e] at e1; cases e1
              exact e2
        have grown : ∀ p ∈ cs, ∃ more : Array Value, s'.heap.get? p.2 = some { cls := .none, data := .fields more } := fun p hp => by
          obtain ⟨more, z⟩ := un.tbls p.2 #[] (hH p hp)
          exact ⟨_, hok' p.2 _ z⟩
        refine ⟨rfl, ⟨fun b o e => ?_, fun b o e => ?_⟩, os, bare⟩
        · by_cases hb : b ∈ cs.map (·.2)
          · obtain ⟨p, hp, ep⟩ := List.mem_map.mp hb
            obtain ⟨more, hm⟩ := grown p hp
            rw [← ep] at e ⊢
            rw [hT p hp] at e
            cases e
            exact .inr (.inl ⟨((C p hp).tab (hT p hp)).isCodeTable, rfl, #[], more, rfl, by rw [Array.empty_append]; exact hm⟩)
          · exact .inl (key b o hb e)
        · by_cases hb : b ∈ cs.map (·.2)
          · obtain ⟨p, hp, ep⟩ := List.mem_map.mp hb
            obtain ⟨more, hm⟩ := grown p hp
            rw [← ep]
            exact ⟨_, hm⟩
          · exact ⟨o, key b o hb e⟩
  cases hk : K.lookup a with
  | some o =>
    have e := KX a o hk
    rw [ha] at e
    cases e
    refine core (fun b => if b ∈ cs.map (·.2) then some (.tbl #[]) else none) (fun p hp => if_pos (memT p hp)) (fun b => ?_) (.inr ⟨_, vs.toArray, _, hk, rfl, rfl, rfl, by rw [List.size_toArray, lenV]; exact hl, by simpa using rv⟩) (fun b u z => ?_) (fun b z => ?_) fun z => absurd (show (if a ∈ cs.map (·.2) then some (HO.tbl #[]) else none) = none from if_neg aT) z
    · by_cases hb : b ∈ cs.map (·.2)
      · exact .inr (.inl hb)
      · exact .inl (if_neg hb)
    · by_cases hb : b ∈ cs.map (·.2)
      · have z' := (if_pos hb).symm.trans z
        cases z'
        exact isT b hb
      · have z' := (if_neg hb).symm.trans z
        cases z'
    · by_cases hb : b ∈ cs.map (·.2)
      · exact .inr hb
      · exact absurd (if_neg hb) z
  | none =>
    refine core (fun b => if b = a then some (.frz { cls := .type "list", data := .seq vs.toArray } (.lst (ns.map V.int))) else if b ∈ cs.map (·.2) then some (.tbl #[]) else none) (fun p hp => (if_neg (show ¬ p.2 = a from fun z => aT (by rw [← z]; exact memT p hp))).trans (if_pos (memT p hp))) (fun b => ?_)
      (.inl (.inr ⟨{ cls := .type "list", data := .seq vs.toArray }, if_pos rfl⟩)) (fun b u z => ?_) (fun b z => ?_) fun _ => hk
    · by_cases hb : b = a
      · exact .inr (.inr ⟨_, _, if_pos hb⟩)
      · by_cases hb2 : b ∈ cs.map (·.2)
        · exact .inr (.inl hb2)
        · exact .inl ((if_neg hb).trans (if_neg hb2))
    · by_cases hb : b = a
      · have z' := (if_pos hb).symm.trans z
        cases z'
        rw [hb]
        exact ⟨ha, by rw [List.length_map]; exact hl, vs, _, rv, ha⟩
      · have z1 := (if_neg hb).symm.trans z
        by_cases hb2 : b ∈ cs.map (·.2)
        · have z' := (if_pos hb2).symm.trans z1
          cases z'
          exact isT b hb2
        · have z' := (if_neg hb2).symm.trans z1
          cases z'
    · by_cases hb : b = a
      · exact .inl hb
      · by_cases hb2 : b ∈ cs.map (·.2)
        · exact .inr hb2
        · exact absurd ((if_neg hb).trans (if_neg hb2)) z

def LawAtM (l : PySem.W.OpenLaw) (w : World) (K : PySem.W.Frag) (k n : Nat) (x : Str) (mg : Str → Option Value) (fa : Addr) (h : Heap) : Prop :=
  ∃ (fd : FuncData) (cs : List (Addr × Addr)) (sp : Sp), (∀ p ∈ cs, h.get? p.2 = some { cls := .none, data := .fields #[] }) ∧ (∀ p ∈ cs, K.lookup p.2 = none) ∧ (∀ p ∈ cs, PySem.W.CodeHd h p.1 p.2) ∧ (∃ o es ep, h.get? sysModules = some o ∧ o.cls = .type "dict" ∧ o.data = .dict es ep) ∧ (∀ (s : Shared) (u : Value), BindsTo s fd ⟨[u], []⟩ [(x, u)]) ∧
    (∀ (H : Hp) (a : Addr) (ns : List Int), ns.length ≤ n → (∀ z ∈ ns, Builtin.Int.intBits z ≤ 1048576) → (∀ p ∈ cs, H p.2 = some (.tbl #[])) → SqL K H a (ns.map V.int) → sp [.ref a] H (fun v _ => v = .bl true) fun _ _ _ => False) ∧
    ∀ base : Heap, K.In base → base.Ns mainGlobals mg → (∀ p ∈ cs, LamX.TabB base mg p.1 p.2) → SysAt base → FnM l.prog w K mg base k fa fd [x] sp
theorem walk_ofM {l : PySem.W.OpenLaw} {n k : Nat} {q : Program} {loose : List Str} {XP : (Str → Option Value) → Heap → Prop} {YP : World → Heap → Prop} {d : DefRec} {x : Str}
    (hn : l.most = some n) (hn2 : n ≤ sizeLine) (hdf : d.params.defaults = []) (hr : Room k callerA)
    (F : ∀ (w : World) (mg : Str → Option Value) (fa : Addr) (h : Heap), YP w h → h.Ns mainGlobals mg → mg d.name = some (.ref fa) → ∃ K : PySem.W.Frag, K.In h ∧ LawAtM l w K k n x mg fa h) :
    PySem.W.WalkO q loose XP YP l.row.toRowW d [] (fun f vs => PySem.call f vs) := by
  refine Att.attach_callB hn hdf fun w s₀ s₁ mg mb fa o pm cd doc a vs ns G Y ho hd hcd hmg hobj hints hlen hbits hg => ?_
  obtain ⟨K, KX, fd, cs, sp, hT, nT, C, hsys, hb, hsp, hF⟩ := F w mg fa _ Y G.T.g hmg
  exact law_callM KX G.T.g G.T.b G.T.builtins G.T.nolimit hg hT nT C G.T.bmain hobj hints (Nat.le_trans hlen hn2) hr hsys hF hb (fun H hH hS => hsp H a ns hlen hbits hH hS)
end Mn

/-! MnM: what the written part says of the exception classes; the head's hook. -/
namespace Mn
open PySem PySem.Spec PyProof.Rows L2

/-! ### an exception class, by one Bool -/
def oexB (K : PySem.W.Frag) (C : Addr) : Bool := match K.lookup C with
  | some ⟨.type "type", _, .cls cd, sl⟩ => (match cd.mro, sl.toList with
    | .ref C' :: bm, [_, _, _, _, some (.builtin n), _] => C' == C && (n == "ValueError.__new__" && (!cd.hasDel && (cd.hasDict && PySem.HandSPX.refsVE bm)))
    | _, _ => false)
  | _ => false
theorem oexB_ok {K : PySem.W.Frag} {C : Addr} (q : oexB K C = true) : ∃ nm qn N bs bm sn sub ab col dd k0 k1 k2 k3 k5, K.lookup C = some (PySem.excClassObj nm qn C N bs bm true sn sub ab col dd k0 k1 k2 k3 k5 "ValueError.__new__") ∧ PySem.HandSPX.refsVE bm = true := by
  unfold oexB at q
  split at q
  · rename_i dd cd sl ho
    split at q
    · rename_i C' bm k0 k1 k2 k3 n k5 hm hs
      simp only [Bool.and_eq_true, beq_iff_eq, Bool.not_eq_true'] at q
      obtain ⟨rfl, rfl, hdel, hdic, hv⟩ := q
      obtain ⟨nm, bs, mro, ns, qn, hd, sn, sub, ab, col, del⟩ := cd
      dsimp only at hm hdel hdic
      subst hm hdel hdic
      obtain ⟨l⟩ := sl
      have hs' : l = [k0, k1, k2, k3, some (.builtin "ValueError.__new__"), k5] := hs
      subst hs'
      exact ⟨nm, qn, ns, bs, bm, sn, sub, ab, col, dd, k0, k1, k2, k3, k5, ho, hv⟩
    · cases q
  · cases q
def eqF (a b : Option (Option Value)) : Bool := decide (a = b)
def exfB (K : PySem.W.Frag) (x : Str) : Bool :=
  let C := He.ga K x
  eqF (PySem.W.nsIn K mainGlobals x) (some (some (.ref C))) && (oexB K C && (eqF (PySem.W.findIn K (.ref C) "__setattr__") (some (some (.builtin "object.__setattr__"))) &&
  (decide (PySem.W.subIn K (.ref C) (.type "BaseException") = some true) && (decide (PySem.W.typeIn K (.ref C) = some (.type "type")) && (PySem.W.keepIn K (.ref C) &&
  (eqF (PySem.W.findIn K (.ref C) "__getattribute__") (some (some (.builtin "BaseException.__getattribute__"))) && (eqF (PySem.W.findIn K (.ref C) "__getattr__") (some none) && (PySem.W.hasDictIn K C &&
  (eqF (PySem.W.findIn K (.ref C) "__class__") (some (some (.builtin "object.__class__"))) && (eqF (PySem.W.specialIn K (.builtin "object.__class__") "__get__") (some (some (.builtin "getset_descriptor.__get__"))) &&
  (decide (PySem.W.takesIn K (.builtin "object.__class__") = some true) && decide (PySem.W.mroIn K C (.type "object") = some true))))))))))))
theorem exfB_ok {K : PySem.W.Frag} {h : Heap} {mg : Str → Option Value} {x : Str} (X : K.In h) (G : h.Ns mainGlobals mg) (q : exfB K x = true) : ExF K mg (He.ga K x) x := by
  unfold exfB eqF at q
  simp only [Bool.and_eq_true, decide_eq_true_eq] at q
  obtain ⟨q1, q2, q3, q4, q5, q6, q7, q8, q9, q10, q11, q12, q13⟩ := q
  exact ⟨PySem.W.mg_of X G q1, ⟨oexB_ok q2, q3, q4, q5, q6⟩, q7, q8, q9, q10, q11, q12, q13⟩
/-- its fields, its __init__ -/
def exiB (K : PySem.W.Frag) (x : Str) (flds : List Str) : Bool :=
  let C := He.ga K x
  if flds.isEmpty then PySem.W.excIn K C He.veBase "ValueError.__new__" else
  eqF (PySem.W.findIn K (.ref C) "__init__") (some (some (.ref (He.fAd K (x, some "__init__"))))) && (decide (PySem.W.typeIn K (.ref (He.fAd K (x, some "__init__"))) = some (.type "function")) && flds.all fun f => eqF (PySem.W.findIn K (.ref C) f) (some none))
structure ExI (K : PySem.W.Frag) (x : Str) (flds : List Str) : Prop where
  iC : PySem.W.findIn K (.ref (He.ga K x)) "__init__" = some (some (.ref (He.fAd K (x, some "__init__"))))
  tI : PySem.W.typeIn K (.ref (He.fAd K (x, some "__init__"))) = some (.type "function")
  no : ∀ f ∈ flds, PySem.W.findIn K (.ref (He.ga K x)) f = some none
theorem exiB_ok {K : PySem.W.Frag} {x : Str} {f : Str} {flds : List Str} (q : exiB K x (f :: flds) = true) : ExI K x (f :: flds) := by
  unfold exiB eqF at q
  rw [if_neg (by simp)] at q
  simp only [Bool.and_eq_true, decide_eq_true_eq, List.all_eq_true] at q
  exact ⟨q.1, q.2.1, q.2.2⟩
theorem exiB_0 {K : PySem.W.Frag} {x : Str} (q : exiB K x [] = true) : PySem.W.excIn K (He.ga K x) He.veBase "ValueError.__new__" = true := q
/-- the classes by their numbers: name, fields -/
abbrev ExN : Type := List (Str × List Str)
/-- who is whose: the last is all others' base -/
def subE (n i j : Nat) : Bool := i == j || j + 1 == n
def exB (es : ExN) (K : PySem.W.Frag) : Bool :=
  es.all (fun p => exfB K p.1 && exiB K p.1 p.2) && (List.range es.length).all fun i => decide (PySem.W.kitOne K (.ref (He.ga K (es.getD i ("", [])).1)) (.type "ValueError") = some true) &&
    (decide (PySem.W.exmOne K (.ref (He.ga K (es.getD i ("", [])).1)) (.ref (He.ga K (es.getD (es.length - 1) ("", [])).1)) = some true) &&
    (List.range es.length).all fun j => decide (PySem.W.kitOne K (.ref (He.ga K (es.getD i ("", [])).1)) (.ref (He.ga K (es.getD j ("", [])).1)) = some (subE es.length i j)))
section
variable {K : PySem.W.Frag} {es : ExN} (q : exB es K = true)
include q
theorem exB_f {h : Heap} {mg : Str → Option Value} (X : K.In h) (G : h.Ns mainGlobals mg) (i : Nat) {x : Str} {flds : List Str} (e : es[i]? = some (x, flds)) : ExF K mg (He.ga K x) x := by
  unfold exB at q
  rw [Bool.and_eq_true, List.all_eq_true] at q
  have := q.1 _ (List.mem_of_getElem? e)
  rw [Bool.and_eq_true] at this
  exact exfB_ok X G this.1
theorem exB_i (i : Nat) {x f : Str} {flds : List Str} (e : es[i]? = some (x, f :: flds)) : ExI K x (f :: flds) := by
  unfold exB at q
  rw [Bool.and_eq_true, List.all_eq_true] at q
  have := q.1 _ (List.mem_of_getElem? e)
  rw [Bool.and_eq_true] at this
  exact exiB_ok this.2
theorem exB_0 (i : Nat) {x : Str} (e : es[i]? = some (x, [])) : PySem.W.excIn K (He.ga K x) He.veBase "ValueError.__new__" = true := by
  unfold exB at q
  rw [Bool.and_eq_true, List.all_eq_true] at q
  have := q.1 _ (List.mem_of_getElem? e)
  rw [Bool.and_eq_true] at this
  exact exiB_0 this.2
theorem exB_more (i : Nat) (hi : i < es.length) : PySem.W.kitOne K (.ref (He.ga K (es.getD i ("", [])).1)) (.type "ValueError") = some true ∧ PySem.W.exmOne K (.ref (He.ga K (es.getD i ("", [])).1)) (.ref (He.ga K (es.getD (es.length - 1) ("", [])).1)) = some true ∧
    ∀ j, j < es.length → PySem.W.kitOne K (.ref (He.ga K (es.getD i ("", [])).1)) (.ref (He.ga K (es.getD j ("", [])).1)) = some (subE es.length i j) := by
  unfold exB at q
  rw [Bool.and_eq_true, List.all_eq_true, List.all_eq_true] at q
  have h := q.2 i (List.mem_range.mpr hi)
  simp only [Bool.and_eq_true, decide_eq_true_eq, List.all_eq_true] at h
  exact ⟨h.1, h.2.1, fun j hj => h.2.2 j (List.mem_range.mpr hj)⟩
end

/-- of no class is one of these names an attribute -/
def noB (es : ExN) (fs : List Str) (K : PySem.W.Frag) : Bool := es.all fun p => fs.all fun f => eqF (PySem.W.findIn K (.ref (He.ga K p.1)) f) (some none)
theorem noB_ok {K : PySem.W.Frag} {es : ExN} {fs : List Str} (q : noB es fs K = true) (i : Nat) (hi : i < es.length) (j : Nat) {f : Str} (hf : fs[j]? = some f) : PySem.W.findIn K (.ref (He.ga K (es.getD i ("", [])).1)) f = some none := by
  unfold noB eqF at q
  simp only [List.all_eq_true, decide_eq_true_eq] at q
  have e : es.getD i ("", []) = es[i] := by simp [hi]
  rw [e]
  exact q _ (List.getElem_mem hi) f (List.mem_of_getElem? hf)

/-! ### the hook -/
def sysB (g : Addr → Option Obj) : Bool := match g sysModules with
  | some ⟨.type c, _, .dict _ _, _⟩ => c == "dict"
  | _ => false
def SysH (h : Heap) : Prop := ∃ o es ep, h.get? sysModules = some o ∧ o.cls = .type "dict" ∧ o.data = .dict es ep
theorem sysB_ok {h : Heap} (q : sysB h.get? = true) : SysH h := by
  unfold sysB at q
  split at q
  · rename_i c d es ep sl e
    have hc : c = "dict" := by simpa using q
    subst hc
    exact ⟨_, es, ep, e, rfl, rfl⟩
  · cases q
def hookM (n : Nat) (fa : List He.Fa) (fn : List He.DefD) (tf : List He.Defn) (ex : PySem.W.Frag → Bool) : PySem.W.Hook where
  α := He.AlX × Bool
  obs := fun s => (He.obsX n fa fn [] tf ex s.heap.get?, sysB s.heap.get?)
  val := fun w => (He.valX fn [] w, true)
  says := fun w h => (He.hookX n fa fn [] tf ex).says w h ∧ SysH h
  of := fun w s e => ⟨(He.hookX n fa fn [] tf ex).of w s (congrArg (fun z : He.AlX × Bool => z.1) e), sysB_ok (congrArg (fun z : He.AlX × Bool => z.2) e)⟩
  keeps := fun w h h' ⟨a, o, es, ep, b, c, d⟩ k => ⟨(He.hookX n fa fn [] tf ex).keeps w h h' a k, o, es, ep, k _ _ b, c, d⟩
def obM (n : Nat) (fa : List He.Fa) (fn : List He.DefD) (tf : List He.Defn) (ex : PySem.W.Frag → Bool) (s : PySem.W.SharedT) : He.AlX × Bool := (He.obsX n fa fn [] tf ex (HandSHeadRun.getT s), sysB (HandSHeadRun.getT s))
theorem obM_eq {n : Nat} {fa : List He.Fa} {fn : List He.DefD} {tf : List He.Defn} {ex : PySem.W.Frag → Bool} (s : PySem.W.SharedT) : obM n fa fn tf ex s = (hookM n fa fn tf ex).obs s.abs := by
  have e : HandSHeadRun.getT s = s.abs.heap.get? := funext fun a => HandSHeadRun.getT_eq s a
  unfold obM
  rw [e] <;> rfl
end Mn

/-! MnN: short forms for what a program prints. -/
namespace Mn
open PySem PySem.Spec PyProof.Rows L2
section
variable {A : Adr} {X : Cx} {K : PySem.W.Frag}
section
variable {e a b : Expr} {m ma mb : EX D} {p pos : Pos}
def mLen (m : EX D) : EX D := mCall (f1 dLen) (mCons m mNil)
theorem se_len (hm : X.mg "len" = none) (h : SB A X e m) (hg : Gl X "len" := by rfl) (hs : starEach [e] X.env = (false, eval e X.env) :: starEach [] X.env := by rfl) (hpl : (backTo pos (starEach [] X.env)).any (·.1) = false := by rfl) : SE A X (.Call (.Name "len" p) [e] [] pos) (mLen m) :=
  s_callB RlE.dn call_len cs_len hg hm (by decide +kernel) (sab_cons h sab_nil hs) (by decide) (by decide) hs hpl
def mAbs (m : EX D) : EX D := mCall (f1 dAbs) (mCons m mNil)
theorem se_abs (hm : X.mg "abs" = none) (h : SB A X e m) (hg : Gl X "abs" := by rfl) (hs : starEach [e] X.env = (false, eval e X.env) :: starEach [] X.env := by rfl) (hpl : (backTo pos (starEach [] X.env)).any (·.1) = false := by rfl) : SE A X (.Call (.Name "abs" p) [e] [] pos) (mAbs m) :=
  s_callB RlE.dn call_abs cs_abs hg hm (by decide +kernel) (sab_cons h sab_nil hs) (by decide) (by decide) hs hpl
def mInt (m : EX D) : EX D := mCall (f1 dInt) (mCons m mNil)
theorem se_intc (hm : X.mg "int" = none) (h : SB A X e m) (hg : Gl X "int" := by rfl) (hs : starEach [e] X.env = (false, eval e X.env) :: starEach [] X.env := by rfl) (hpl : (backTo pos (starEach [] X.env)).any (·.1) = false := by rfl) : SE A X (.Call (.Name "int" p) [e] [] pos) (mInt m) :=
  s_callTy RlE.dn call_int1 cs_int hg hm (by decide +kernel) (sab_cons h sab_nil hs) (by decide) (by decide) hs hpl
def mTupc (m : EX D) : EX D := mCall (f1 dTupOf) (mCons m mNil)
theorem se_tupc (hm : X.mg "tuple" = none) (h : SB A X e m) (hg : Gl X "tuple" := by rfl) (hs : starEach [e] X.env = (false, eval e X.env) :: starEach [] X.env := by rfl) (hpl : (backTo pos (starEach [] X.env)).any (·.1) = false := by rfl) : SE A X (.Call (.Name "tuple" p) [e] [] pos) (mTupc m) :=
  s_callTy RlE.dn call_tuple_of cs_tup hg hm (by decide +kernel) (sab_cons h sab_nil hs) (by decide) (by decide) hs hpl
def mLstc (m : EX D) : EX D := mCall (f1 dLstOf) (mCons m mNil)
theorem so_lstc (hm : X.mg "list" = none) (h : SB A X e m) (hg : Gl X "list" := by rfl) (hs : starEach [e] X.env = (false, eval e X.env) :: starEach [] X.env := by rfl) (hpl : (backTo pos (starEach [] X.env)).any (·.1) = false := by rfl) : SO A X (.Call (.Name "list" p) [e] [] pos) (mLstc m) :=
  s_callTy RlO.dn call_list_of cs_lst hg hm (by decide +kernel) (sab_cons h sab_nil hs) (by decide) (by decide) hs hpl
/-! ### comparisons -/
theorem se_eq (hu : X.A.units + 100 < cLine) (ha : SB A X a ma) (hb : SB A X b mb) (hm : behindInMarks .Eq b = false := by rfl) : SE A X (.Compare a [.Eq] [b] pos) (m2 dEq ma mb) := se_cmp (op_eqD (by omega)) o2_eq ha hb hm
theorem se_ne (hu : X.A.units + 100 < cLine) (ha : SB A X a ma) (hb : SB A X b mb) (hm : behindInMarks .NotEq b = false := by rfl) : SE A X (.Compare a [.NotEq] [b] pos) (m2 dNe ma mb) := se_cmp (op_neD (by omega)) o2_ne ha hb hm
theorem st_eq (hu : X.A.units + 100 < cLine) (ha : SB A X a ma) (hb : SB A X b mb) (hm : behindInMarks .Eq b = false := by rfl) : STt A X (.Compare a [.Eq] [b] pos) (mT (m2 dEq ma mb)) := st_cmp (op_eqD (by omega)) o2_eq ha hb hm
theorem st_ne (hu : X.A.units + 100 < cLine) (ha : SB A X a ma) (hb : SB A X b mb) (hm : behindInMarks .NotEq b = false := by rfl) : STt A X (.Compare a [.NotEq] [b] pos) (mT (m2 dNe ma mb)) := st_cmp (op_neD (by omega)) o2_ne ha hb hm
theorem se_lt (ha : SB A X a ma) (hb : SB A X b mb) (hm : behindInMarks .Lt b = false := by rfl) : SE A X (.Compare a [.Lt] [b] pos) (m2 dLt ma mb) := se_cmp op_lt o2_lt ha hb hm
theorem st_lt (ha : SB A X a ma) (hb : SB A X b mb) (hm : behindInMarks .Lt b = false := by rfl) : STt A X (.Compare a [.Lt] [b] pos) (mT (m2 dLt ma mb)) := st_cmp op_lt o2_lt ha hb hm
theorem se_le (ha : SB A X a ma) (hb : SB A X b mb) (hm : behindInMarks .LtE b = false := by rfl) : SE A X (.Compare a [.LtE] [b] pos) (m2 dLe ma mb) := se_cmp op_le o2_le ha hb hm
theorem st_le (ha : SB A X a ma) (hb : SB A X b mb) (hm : behindInMarks .LtE b = false := by rfl) : STt A X (.Compare a [.LtE] [b] pos) (mT (m2 dLe ma mb)) := st_cmp op_le o2_le ha hb hm
theorem se_gt (ha : SB A X a ma) (hb : SB A X b mb) (hm : behindInMarks .Gt b = false := by rfl) : SE A X (.Compare a [.Gt] [b] pos) (m2 dGt ma mb) := se_cmp op_gt o2_gt ha hb hm
theorem st_gt (ha : SB A X a ma) (hb : SB A X b mb) (hm : behindInMarks .Gt b = false := by rfl) : STt A X (.Compare a [.Gt] [b] pos) (mT (m2 dGt ma mb)) := st_cmp op_gt o2_gt ha hb hm
theorem se_ge (ha : SB A X a ma) (hb : SB A X b mb) (hm : behindInMarks .GtE b = false := by rfl) : SE A X (.Compare a [.GtE] [b] pos) (m2 dGe ma mb) := se_cmp op_ge o2_ge ha hb hm
theorem st_ge (ha : SB A X a ma) (hb : SB A X b mb) (hm : behindInMarks .GtE b = false := by rfl) : STt A X (.Compare a [.GtE] [b] pos) (mT (m2 dGe ma mb)) := st_cmp op_ge o2_ge ha hb hm
/-- in, flat values -/
def flD : D → Option V
  | .non => some .non
  | .bl b => some (.bl b)
  | .int i => some (.int i)
  | .str x => some (.str x)
  | _ => none
def flAll : List D → Option (List V)
  | [] => some []
  | d :: r => (flD d).bind fun v => (flAll r).map (v :: ·)
theorem flD_rel {H Hb : Hp} {Z : Fz} {d : D} {v u : V} (h : RlB K A Hb Z H d v) (e : flD d = some u) : v = u ∧ flatV v = true := by
  cases d <;> simp only [flD, reduceCtorEq, Option.some.injEq] at e <;> subst e
  · rw [h.non]; exact ⟨rfl, rfl⟩
  · rw [blB_of h]; exact ⟨rfl, rfl⟩
  · rw [h.int]; exact ⟨rfl, rfl⟩
  · rw [h.str]; exact ⟨rfl, rfl⟩
theorem flAll_rel {H : Hp} {Z : Fz} : ∀ {ds : List D} {vs us : List V}, RelAll K A Z ds vs → flAll ds = some us → vs = us ∧ vs.all flatV = true
  | [], _, _, .nil, e => by simp only [flAll, Option.some.injEq] at e; subst e; exact ⟨rfl, rfl⟩
  | d :: ds, _, _, .cons h r, e => by
    simp only [flAll, Option.bind_eq_some_iff, Option.map_eq_some_iff] at e
    obtain ⟨v, e1, vs, e2, rfl⟩ := e
    obtain ⟨rfl, h2⟩ := flD_rel (H := H) (Hb := H) (.inl h) e1
    obtain ⟨rfl, h3⟩ := flAll_rel (H := H) r e2
    exact ⟨rfl, by rw [List.all_cons, h2, h3]; rfl⟩
def dIt : D → Option (List D)
  | .lst ds => some ds
  | .tup ds => some ds
  | _ => none
def dIn (neg : Bool) (d e : D) : Option D := (flD d).bind fun v => (dIt e).bind fun ds => (flAll ds).map fun vs => .bl (if neg then !inV v vs else inV v vs)
theorem o2_in (neg : Bool) : Op2 K A (RlE K A) (dIn neg) (rIn K neg) := op2_mk fun H0 H Z0 Z p x y d e w Q xs rx ry hw q => by
  simp only [dIn, Option.bind_eq_some_iff, Option.map_eq_some_iff] at hw
  obtain ⟨v, h1, ds, h2, vs, h3, rfl⟩ := hw
  obtain ⟨rfl, h4⟩ := flD_rel rx h1
  cases e <;> simp only [dIt, reduceCtorEq, Option.some.injEq] at h2 <;> subst h2
  · obtain ⟨a, us, rfl, k1, k2⟩ := ry.lst xs
    obtain ⟨rfl, k3⟩ := flAll_rel (H := H) k2 h3
    exact ⟨a, _, rfl, .inl (SqL.of k1), h4, k3, q _ H Z xs.here (.bl _)⟩
  · obtain ⟨a, us, rfl, k1, k2, _⟩ := ry.tup xs
    obtain ⟨rfl, k3⟩ := flAll_rel (H := H) k2 h3
    exact ⟨a, _, rfl, .inr k1, h4, k3, q _ H Z xs.here (.bl _)⟩
theorem se_in (ha : SB A X a ma) (hb : SB A X b mb) (hm : behindInMarks .In b = false := by rfl) : SE A X (.Compare a [.In] [b] pos) (m2 (dIn false) ma mb) := se_cmp op_in_seq (o2_in false) ha hb hm
theorem st_in (ha : SB A X a ma) (hb : SB A X b mb) (hm : behindInMarks .In b = false := by rfl) : STt A X (.Compare a [.In] [b] pos) (mT (m2 (dIn false) ma mb)) := st_cmp op_in_seq (o2_in false) ha hb hm
theorem se_nin (ha : SB A X a ma) (hb : SB A X b mb) (hm : behindInMarks .NotIn b = false := by rfl) : SE A X (.Compare a [.NotIn] [b] pos) (m2 (dIn true) ma mb) := se_cmp op_notIn_seq (o2_in true) ha hb hm
theorem st_nin (ha : SB A X a ma) (hb : SB A X b mb) (hm : behindInMarks .NotIn b = false := by rfl) : STt A X (.Compare a [.NotIn] [b] pos) (mT (m2 (dIn true) ma mb)) := st_cmp op_notIn_seq (o2_in true) ha hb hm
end
end
theorem room_hu {k : Nat} {B : Around} (hr : Room k B) : B.units + 200 < cLine := by have := hr.un; omega
theorem room_h1 {k : Nat} {B : Around} (hr : Room k B) : B.units + 100 < cLine := by have := hr.un; omega
theorem room_1 {k : Nat} {B : Around} (hr : Room k B) : B.units + 1 < cLine := by have := hr.un; omega
theorem room_mark {k : Nat} {B : Around} (hr : Room k B) (v : Option Value) : L2H.RoomH k (B.mark v) := ⟨hr.dp, hr.un⟩
theorem roomH_hu {k : Nat} {B : Around} (hr : L2H.RoomH k B) : B.units + 200 < cLine := by have := hr.un; omega
end Mn

/-! MnO: what the defs that look at a handled exception tell, in plain words. -/
namespace Mn
open PySem PySem.Spec PyProof.Rows L2
def oR {α : Type} (o : Option α) (p : Pn) : R α := match o with
  | some d => .ok d p
  | none => .bad
def allO : List (Option D) → Option (List D)
  | [] => some []
  | o :: r => o.bind fun d => (allO r).map (d :: ·)
def tupR (os : List (Option D)) (p : Pn) : R D := oR ((allO os).bind dTup) p
theorem oR_bind {α β : Type} (o : Option α) (p : Pn) (k : α → Option β) : (oR o p).bind (fun a p' => oR (k a) p') = oR (o.bind k) p := by cases o <;> rfl
def rowK (b : Bool) (r : R D) (acc : List D) (k : List D → RS) : RS := match b with
  | false => k acc
  | true => match r with
    | .ok d _ => if acc.length < sizeLine then k (acc ++ [d]) else .bad
    | _ => .bad
section
variable {a : Addr} {od : Option Addr} {fs : List (Str × D)} {acc : List D} {p : Pn} {env : List Cell}
def eX (a : Addr) (od : Option Addr) (fs : List (Str × D)) (acc : List D) : List Cell := [.val (.exc a od fs), .own (.lst acc)]
theorem ev_c {d : D} : mC d env p = oR (some d) p := rfl
theorem ev_x {f : Str} : mXfld 0 a od f (eX a od fs acc) p = oR (fs.lookup f) p := by
  simp only [mXfld, eX, List.getElem?_cons_zero, and_self, if_true]
  cases fs.lookup f <;> rfl
theorem ev_1 {f : D → Option D} {m : EX D} {o : Option D} (h : m env p = oR o p) : m1 f m env p = oR (o.bind f) p := by
  unfold m1 EX.bind
  rw [h]
  cases o with
  | none => rfl
  | some d =>
    show lift (f d) env p = _
    unfold lift
    cases e : f d <;> simp [oR, e]
theorem ev_nil : mNil env p = oR (allO []) p := rfl
theorem ev_cons {m : EX D} {k : EX (List D)} {o : Option D} {os : List (Option D)} (h : m env p = oR o p) (hk : k env p = oR (allO os) p) : mCons m k env p = oR (allO (o :: os)) p := by
  unfold mCons EX.bind
  rw [h]
  cases o with
  | none => rfl
  | some d =>
    show (k env p).bind _ = _
    rw [hk]
    cases e : allO os <;> simp [allO, oR, R.bind, e]
theorem ev_tup {m : EX (List D)} {os : List (Option D)} (h : m env p = oR (allO os) p) : mTup m env p = tupR os p := by
  unfold mTup EX.bind tupR
  rw [h]
  cases e : allO os with
  | none => rfl
  | some ds =>
    show lift (dTup ds) env p = _
    unfold lift
    simp only [Option.bind_some]
    cases dTup ds <;> rfl
theorem row_run {b : Bool} {mt : EX D} {os : List (Option D)} (hr : mt (eX a od fs acc) p = tupR os p) (k : SX) :
    sSeq (sIf (mTru (mIsx 0 a od b)) (sSeq (sDropF (fApp 1 (fOf mt))) sNil) sNil) k (eX a od fs acc) p = rowK b (tupR os p) acc fun acc => k (eX a od fs acc) p := by
  cases b with
  | false => simp [eX, sSeq, sIf, SX.of, mTru, EX.bind, mIsx, R.bind, R.then, lift, dTru, sNil, rowK]
  | true =>
    unfold tupR oR at hr ⊢
    revert hr
    cases (allO os).bind dTup with
    | some d =>
      intro hr
      simp only [eX] at hr
      by_cases hl : acc.length < sizeLine
      · simp [eX, sSeq, sIf, SX.of, SX.ofF, mTru, EX.bind, mIsx, R.bind, R.then, RF.then, lift, dTru, sNil, rowK, sDropF, fApp, fOf, hr, hl]
      · simp [eX, sSeq, sIf, SX.of, SX.ofF, mTru, EX.bind, mIsx, R.bind, R.then, RF.then, lift, dTru, sNil, rowK, sDropF, fApp, fOf, hr, hl]
    | none =>
      intro hr
      simp only [eX] at hr
      simp [eX, sSeq, sIf, SX.of, SX.ofF, mTru, EX.bind, mIsx, R.bind, R.then, RF.then, lift, dTru, sNil, rowK, sDropF, fApp, fOf, hr]
theorem own_run (k : SX) : sSeq (sOwn 1 (mLst mNil)) k [.val (.exc a od fs), .no] p = k (eX a od fs []) p := by
  simp [sSeq, sOwn, SX.of, mLst, EX.bind, mNil, R.bind, R.then, lift, dLst, eX]
theorem ret_run : sSeq (sFreeze 1) (sSeq (sRet (mV 1)) sNil) (eX a od fs acc) p = .rt (.lst acc) p := by
  simp [sSeq, sFreeze, sRet, SX.of, mV, eX, R.then]
def catR (acc : List D) (r : R D) : RS := match r with
  | .ok d p' => (match dCat (.lst acc) d with | some g => .rt g p' | none => .bad)
  | .ex c f p' => .ex c f p'
  | .bad => .bad
theorem cat_run {φ : List (Str × D) → Pn → R D} : sSeq (sRet (m2 dCat (mW 1) (mKal 0 a od φ))) sNil (eX a od fs acc) p = catR acc (φ fs p) := by
  simp only [sSeq, sRet, SX.of, m2, EX.bind, mW, eX, R.bind, R.then, mKal, List.getElem?_cons_zero, List.getElem?_cons_succ, and_self, if_true, catR]
  cases φ fs p with
  | bad => rfl
  | ex c f p' => rfl
  | ok d p' =>
    dsimp only [lift]
    cases dCat (.lst acc) d <;> rfl
end
def toldS (φ : List (Str × D) → Pn → R D) (fs : List (Str × D)) : SX := fun env p => if 5 < env.length then (match φ fs p with
  | .ok d p' => .nx ((env.set 4 (.val d)).set 5 .no) p'
  | _ => .bad) else .bad
theorem told_rel {φ : List (Str × D) → Pn → R D} {a : Addr} {od : Option Addr} {fs : List (Str × D)} {env : List Cell} {p : Pn} :
    (sSeq (sIf (mTru (mIsx 5 a od true)) (sSeq (sSet 4 (mKal 5 a od φ)) sNil) sNil) sNil (env.set 5 (.val (.exc a od fs))) p).wipe 5 = toldS φ fs env p := by
  unfold toldS
  by_cases hl : 5 < env.length
  · rw [if_pos hl]
    have e : (env.set 5 (.val (.exc a od fs)))[5]? = some (.val (.exc a od fs)) := List.getElem?_set_self hl
    simp only [sSeq, sIf, SX.of, mTru, EX.bind, mIsx, e, and_self, if_true, R.bind, R.then, lift, dTru, sSet, mKal]
    cases φ fs p with
    | bad => rfl
    | ex c f p' => rfl
    | ok d p' =>
      show RS.nx _ p' = RS.nx _ p'
      congr 1
      rw [List.set_comm _ _ (by decide), List.set_set, List.set_comm _ _ (by decide)]
  · rw [if_neg hl]
    have e : (env.set 5 (.val (.exc a od fs)))[5]? = none := by rw [List.getElem?_eq_none]; rw [List.length_set]; omega
    simp only [sSeq, sIf, SX.of, mTru, EX.bind, mIsx, e, R.bind, R.then, RS.wipe]
end Mn

/-! MnP: the pen and its draws, in plain words. -/
namespace Mn
open PySem PySem.Spec PyProof.Rows L2 PySem.Builtin
theorem bits_le {i : Int} {n : Nat} (h : i.natAbs < 2 ^ n) : Builtin.Int.intBits i ≤ n := by
  unfold Builtin.Int.intBits
  split
  · exact Nat.zero_le _
  · rename_i h0
    have hne : i.natAbs ≠ 0 := by
      intro z
      apply h0
      simp [Int.natAbs_eq_zero.mp z]
    have := (Nat.log2_lt hne).mpr h
    omega
theorem mulOk_of {i j : Int} {n k : Nat} (hi : i.natAbs < 2 ^ n) (hj : j.natAbs < 2 ^ k) (h : n + k ≤ 134217728) : mulOk i j = true := by
  unfold mulOk
  have h1 := bits_le hi
  have h2 := bits_le hj
  exact decide_eq_true (by omega)
/-- a pen in order: so many draws at most -/
structure PenI (r : PenR) (c : Nat) : Prop where
  at_ : 0 ≤ r.at_
  dig : 0 ≤ r.digits
  f0 : 0 ≤ r.fold
  f1 : r.fold < 2 ^ 32
  c0 : 0 ≤ r.count
  c1 : r.count ≤ c
def mDraw : SX := (sSeq (sPput .count (mW 0) (m2 dAdd (mPget .count (mW 0)) (mC (.int 1)))) (sSeq (sIf (mAnd (mT (m2 dEq (mPget .digits (mW 0)) (mC (.int 0)))) (mT (m2 dLt (mPget .at_ (mW 0)) (mLen (mPget .cells (mW 0)))))) (sSeq (sSet 2 (m2 dIx (mPget .cells (mW 0)) (mPget .at_ (mW 0)))) (sSeq (sPput .at_ (mW 0) (m2 dAdd (mPget .at_ (mW 0)) (mC (.int 1)))) (sSeq (sIf (mT (m2 dGe (mW 2) (m2 dPow (mC (.int 10)) (mC (.int 18))))) (sSeq (sPput .digits (mW 0) (m2 dSub (mW 2) (m2 dPow (mC (.int 10)) (mC (.int 18))))) sNil) (sSeq (sPput .fold (mW 0) (m2 dMod (mInt (m2 dAdd (m2 dMul (mPget .fold (mW 0)) (mC (.int 69069))) (mW 2))) (mC (.int 2147483587)))) sNil)) sNil))) sNil) (sSeq (sIf (mT (m2 dGt (mPget .digits (mW 0)) (mC (.int 0)))) (sSeq (sSet 3 (m2 dMod (mInt (mPget .digits (mW 0))) (mW 1))) (sSeq (sPput .digits (mW 0) (m2 dDiv (mPget .digits (mW 0)) (mW 1))) (sSeq (sRet (mV 3)) sNil))) sNil) (sSeq (sSet 4 (m2 dMod (mInt (m2 dAdd (m2 dAdd (m2 dMul (mPget .fold (mW 0)) (mC (.int 48271))) (m2 dMul (mPget .count (mW 0)) (mC (.int 7919)))) (mC (.int 13)))) (mC (.int 2147483647)))) (sSeq (sSet 4 (m2 dMod (mInt (m2 dAdd (m2 dAdd (m2 dMul (mW 4) (mW 4)) (m2 dMul (mC (.int 31)) (mW 4))) (mPget .count (mW 0)))) (mC (.int 2147483629)))) (sSeq (sPput .fold (mW 0) (m2 dMod (mInt (m2 dAdd (m2 dMul (mW 4) (mC (.int 16807))) (mC (.int 7)))) (mC (.int 2147483647)))) (sSeq (sRet (m2 dMod (mInt (m2 dDiv (mW 4) (mC (.int 64)))) (mW 1))) sNil)))))))
/-- the last part: digits drawn off -/
def mDr2 : SX := sIf (mT (m2 dGt (mPget .digits (mW 0)) (mC (.int 0)))) (sSeq (sSet 3 (m2 dMod (mInt (mPget .digits (mW 0))) (mW 1))) (sSeq (sPput .digits (mW 0) (m2 dDiv (mPget .digits (mW 0)) (mW 1))) (sSeq (sRet (mV 3)) sNil))) sNil
theorem dr2_pos {r : PenR} {many : Int} {c3 c4 : Cell} {x : Cell} (hm : 0 < many) (hm2 : many < 2 ^ 30) (hd : 0 < r.digits) : mDr2 [.val .pen, .val (.int many), x, c3, c4] (some r) = .rt (.int (r.digits.fmod many)) (some { r with digits := r.digits.fdiv many }) := by
  have h1 : many ≠ 0 := by omega
  have h2 : Builtin.divisionGoesByPylong r.digits many = false := PyProof.noPylong_small (by omega)
  simp [mDr2, sIf, SX.of, mT, m2, EX.bind, R.bind, R.then, mPget, mW, mC, lift, dGt, dBl, hd, PF.get, sSeq, sSet, mInt, mCall, f1, mCons, mNil, dInt, dMod, h1, sPput, dDiv, h2, PF.put, sRet, mV]
theorem dr2_0 {r : PenR} {many : Int} {c3 c4 : Cell} {x : Cell} (hd : ¬ 0 < r.digits) : mDr2 [.val .pen, .val (.int many), x, c3, c4] (some r) = .nx [.val .pen, .val (.int many), x, c3, c4] (some r) := by
  simp [mDr2, sIf, SX.of, mT, m2, EX.bind, R.bind, R.then, mPget, mW, mC, lift, dGt, dBl, hd, PF.get, sNil]
def mDr1 : SX := (sIf (mAnd (mT (m2 dEq (mPget .digits (mW 0)) (mC (.int 0)))) (mT (m2 dLt (mPget .at_ (mW 0)) (mLen (mPget .cells (mW 0)))))) (sSeq (sSet 2 (m2 dIx (mPget .cells (mW 0)) (mPget .at_ (mW 0)))) (sSeq (sPput .at_ (mW 0) (m2 dAdd (mPget .at_ (mW 0)) (mC (.int 1)))) (sSeq (sIf (mT (m2 dGe (mW 2) (m2 dPow (mC (.int 10)) (mC (.int 18))))) (sSeq (sPput .digits (mW 0) (m2 dSub (mW 2) (m2 dPow (mC (.int 10)) (mC (.int 18))))) sNil) (sSeq (sPput .fold (mW 0) (m2 dMod (mInt (m2 dAdd (m2 dMul (mPget .fold (mW 0)) (mC (.int 69069))) (mW 2))) (mC (.int 2147483587)))) sNil)) sNil))) sNil)
def mD4 : SX := (sSet 4 (m2 dMod (mInt (m2 dAdd (m2 dAdd (m2 dMul (mPget .fold (mW 0)) (mC (.int 48271))) (m2 dMul (mPget .count (mW 0)) (mC (.int 7919)))) (mC (.int 13)))) (mC (.int 2147483647))))
def mD5 : SX := (sSet 4 (m2 dMod (mInt (m2 dAdd (m2 dAdd (m2 dMul (mW 4) (mW 4)) (m2 dMul (mC (.int 31)) (mW 4))) (mPget .count (mW 0)))) (mC (.int 2147483629))))
def mD6 : SX := (sPput .fold (mW 0) (m2 dMod (mInt (m2 dAdd (m2 dMul (mW 4) (mC (.int 16807))) (mC (.int 7)))) (mC (.int 2147483647))))
def mD7 : SX := (sRet (m2 dMod (mInt (m2 dDiv (mW 4) (mC (.int 64)))) (mW 1)))
def mDr3 : SX := sSeq mD4 (sSeq mD5 (sSeq mD6 (sSeq mD7 sNil)))
theorem sSeq_nx {m k : SX} {env env' : List Cell} {p p' : Pn} (h : m env p = .nx env' p') : sSeq m k env p = k env' p' := by unfold sSeq; rw [h]
theorem sSeq_rt {m k : SX} {env : List Cell} {p p' : Pn} {d : D} (h : m env p = .rt d p') : sSeq m k env p = .rt d p' := by unfold sSeq; rw [h]
theorem mDraw_is : mDraw = sSeq (sPput .count (mW 0) (m2 dAdd (mPget .count (mW 0)) (mC (.int 1)))) (sSeq mDr1 (sSeq mDr2 mDr3)) := rfl
theorem fm_pos (a : Int) {m : Int} (h : 0 < m) : 0 ≤ a.fmod m ∧ a.fmod m < m := ⟨Int.fmod_nonneg_of_pos a h, Int.fmod_lt_of_pos a h⟩
theorem pow_eq (i : Int) {j : Int} (h0 : 0 ≤ j) (h1 : j ≤ 1000000) (h2 : i.natAbs < 2 ^ 64) : dPow (.int i) (.int j) = some (.int (i ^ j.toNat)) := by
  simp [dPow, h0, h1, h2]
theorem mul_eq {i j : Int} {n k : Nat} (hi : i.natAbs < 2 ^ n) (hj : j.natAbs < 2 ^ k) (h : n + k ≤ 134217728) : dMul (.int i) (.int j) = some (.int (i * j)) := by
  show (if mulOk i j = true then some (D.int (i * j)) else none) = _
  rw [if_pos (mulOk_of hi hj h)]
section
variable {env : List Cell} {p p1 p2 : Pn} {ma mb : EX D} {x y z : D} {f : D → D → Option D} {g : D → Option D} {i : Nat}
theorem ev_m2 (h1 : ma env p = .ok x p1) (h2 : mb env p1 = .ok y p2) (h3 : f x y = some z) : m2 f ma mb env p = .ok z p2 := by
  unfold m2 EX.bind R.bind
  rw [h1]
  dsimp only
  rw [h2]
  unfold lift
  dsimp only
  rw [h3]
theorem ev_m1 (h1 : ma env p = .ok x p1) (h3 : g x = some z) : m1 g ma env p = .ok z p1 := by
  unfold m1 EX.bind R.bind
  rw [h1]
  unfold lift
  dsimp only
  rw [h3]
theorem ev_mInt (h1 : ma env p = .ok x p1) (h3 : dInt x = some z) : mInt ma env p = .ok z p1 := by
  unfold mInt mCall mCons mNil EX.bind R.bind
  rw [h1]
  unfold lift f1
  dsimp only
  rw [h3]
theorem ev_mLen (h1 : ma env p = .ok x p1) (h3 : dLen x = some z) : mLen ma env p = .ok z p1 := by
  unfold mLen mCall mCons mNil EX.bind R.bind
  rw [h1]
  unfold lift f1
  dsimp only
  rw [h3]
theorem ev_cc : mC x env p = .ok x p := rfl
theorem ev_w (h : env[i]? = some (.val x)) : mW i env p = .ok x p := by unfold mW; rw [h]
theorem ev_v (h : env[i]? = some (.val x)) : mV i env p = .ok x p := by unfold mV; rw [h]
theorem ev_get {F : PF} {r : PenR} (h1 : ma env p = .ok .pen (some r)) : mPget F ma env p = .ok (F.get r) (some r) := by
  unfold mPget EX.bind R.bind
  rw [h1]
theorem ev_set (h1 : ma env p = .ok x p1) : sSet i ma env p = .nx (env.set i (.val x)) p1 := by
  unfold sSet SX.of R.then
  rw [h1]
theorem ev_put {F : PF} {r r' : PenR} {k : Int} (h1 : ma env p = .ok (.int k) p1) (h2 : mb env p1 = .ok .pen (some r)) (h3 : F.put r k = some r') : sPput F mb ma env p = .nx env (some r') := by
  unfold sPput SX.of R.then
  rw [h1]
  dsimp only
  rw [h2]
  dsimp only
  rw [h3]
theorem ev_ret (h1 : ma env p = .ok x p1) : sRet ma env p = .rt x p1 := by
  unfold sRet SX.of R.then
  rw [h1]
end
theorem mod_eq {i j : Int} (h : j ≠ 0) : dMod (.int i) (.int j) = some (.int (i.fmod j)) := by
  show (if j ≠ 0 then some (D.int (i.fmod j)) else none) = _
  rw [if_pos h]
theorem div_eq {i j : Int} (h : j ≠ 0) (h2 : j.natAbs < 1073741824) : dDiv (.int i) (.int j) = some (.int (i.fdiv j)) := by
  show (if j ≠ 0 ∧ Builtin.divisionGoesByPylong i j = false then some (D.int (i.fdiv j)) else none) = _
  rw [if_pos ⟨h, PyProof.noPylong_small h2⟩]
theorem add_eq (i j : Int) : dAdd (.int i) (.int j) = some (.int (i + j)) := id rfl
theorem sub_eq (i j : Int) : dSub (.int i) (.int j) = some (.int (i - j)) := id rfl
theorem int_eq (i : Int) : dInt (.int i) = some (.int i) := id rfl
theorem dr3 {r : PenR} {many : Int} {c3 c4 x : Cell} (hm : 0 < many) (hf0 : 0 ≤ r.fold) (hf : r.fold < 2 ^ 32) (hc : 0 ≤ r.count) (hc1 : r.count < 2 ^ 60) :
    ∃ d f, mDr3 [.val .pen, .val (.int many), x, c3, c4] (some r) = .rt (.int d) (some { r with fold := f }) ∧ (0 ≤ d ∧ d < many) ∧ (0 ≤ f ∧ f < 2 ^ 32) := by
  have hm1 : many ≠ 0 := by omega
  obtain ⟨b1, hb1⟩ : ∃ b, b = (r.fold * 48271 + r.count * 7919 + 13).fmod 2147483647 := ⟨_, rfl⟩
  have k1 := fm_pos (r.fold * 48271 + r.count * 7919 + 13) (m := 2147483647) (by omega)
  rw [← hb1] at k1
  obtain ⟨b2, hb2⟩ : ∃ b, b = (b1 * b1 + 31 * b1 + r.count).fmod 2147483629 := ⟨_, rfl⟩
  have k2 := fm_pos (b1 * b1 + 31 * b1 + r.count) (m := 2147483629) (by omega)
  rw [← hb2] at k2
  have k3 := fm_pos (b2 * 16807 + 7) (m := 2147483647) (by omega)
  have k4 := fm_pos (b2.fdiv 64) hm
  have e1 : dMul (.int r.fold) (.int 48271) = some (.int (r.fold * 48271)) := mul_eq (n := 33) (k := 17) (by omega) (by omega) (by omega)
  have e2 : dMul (.int r.count) (.int 7919) = some (.int (r.count * 7919)) := mul_eq (n := 61) (k := 17) (by omega) (by omega) (by omega)
  have e3 : dMul (.int b1) (.int b1) = some (.int (b1 * b1)) := mul_eq (n := 33) (k := 33) (by omega) (by omega) (by omega)
  have e4 : dMul (.int 31) (.int b1) = some (.int (31 * b1)) := mul_eq (n := 17) (k := 33) (by omega) (by omega) (by omega)
  have e5 : dMul (.int b2) (.int 16807) = some (.int (b2 * 16807)) := mul_eq (n := 33) (k := 17) (by omega) (by omega) (by omega)
  have e6 : dMod (.int (r.fold * 48271 + r.count * 7919 + 13)) (.int 2147483647) = some (.int b1) := by rw [hb1]; exact mod_eq (by omega)
  have e7 : dMod (.int (b1 * b1 + 31 * b1 + r.count)) (.int 2147483629) = some (.int b2) := by rw [hb2]; exact mod_eq (by omega)
  have e8 : dMod (.int (b2 * 16807 + 7)) (.int 2147483647) = some (.int ((b2 * 16807 + 7).fmod 2147483647)) := mod_eq (by omega)
  have e9 : dDiv (.int b2) (.int 64) = some (.int (b2.fdiv 64)) := div_eq (by omega) (by omega)
  have e0 : dMod (.int (b2.fdiv 64)) (.int many) = some (.int ((b2.fdiv 64).fmod many)) := mod_eq hm1
  refine ⟨(b2.fdiv 64).fmod many, (b2 * 16807 + 7).fmod 2147483647, ?_, k4, ⟨k3.1, by omega⟩⟩
  have s4 : mD4 [.val .pen, .val (.int many), x, c3, c4] (some r) = .nx [.val .pen, .val (.int many), x, c3, .val (.int b1)] (some r) :=
    ev_set (i := 4) (ev_m2 (ev_mInt (ev_m2 (ev_m2 (ev_m2 (ev_get (ev_w rfl)) ev_cc e1) (ev_m2 (ev_get (ev_w rfl)) ev_cc e2) (add_eq _ _)) ev_cc (add_eq _ _)) (int_eq _)) ev_cc e6)
  have s5 : mD5 [.val .pen, .val (.int many), x, c3, .val (.int b1)] (some r) = .nx [.val .pen, .val (.int many), x, c3, .val (.int b2)] (some r) := by
    simp only [mD5, sSet, SX.of, m2, mInt, mCall, f1, EX.bind, R.bind, R.then, mPget, mW, mC, lift, PF.get, mCons, mNil, List.getElem?_cons_zero, List.getElem?_cons_succ, List.set_cons_zero, List.set_cons_succ, add_eq, int_eq, e3, e4, e7]
  have s6 : mD6 [.val .pen, .val (.int many), x, c3, .val (.int b2)] (some r) = .nx [.val .pen, .val (.int many), x, c3, .val (.int b2)] (some { r with fold := (b2 * 16807 + 7).fmod 2147483647 }) :=
    ev_put (ev_m2 (ev_mInt (ev_m2 (ev_m2 (ev_w rfl) ev_cc e5) ev_cc (add_eq _ _)) (int_eq _)) ev_cc e8) (ev_w rfl) rfl
  have s7 : mD7 [.val .pen, .val (.int many), x, c3, .val (.int b2)] (some { r with fold := (b2 * 16807 + 7).fmod 2147483647 }) = .rt (.int ((b2.fdiv 64).fmod many)) (some { r with fold := (b2 * 16807 + 7).fmod 2147483647 }) := by
    simp only [mD7, sRet, SX.of, m2, mInt, mCall, f1, EX.bind, R.bind, R.then, mPget, mW, mC, lift, PF.get, mCons, mNil, List.getElem?_cons_zero, List.getElem?_cons_succ, List.set_cons_zero, List.set_cons_succ, add_eq, int_eq, e9, e0]
  show sSeq mD4 (sSeq mD5 (sSeq mD6 (sSeq mD7 sNil))) _ _ = _
  rw [sSeq_nx s4, sSeq_nx s5, sSeq_nx s6, sSeq_rt s7]
end Mn

/-! MnQ: a draw, whole. -/
namespace Mn
open PySem PySem.Spec PyProof.Rows L2
section
variable {env : List Cell} {p p1 p2 : Pn} {ma mb : EX D} {mt mu : EX Bool} {m k : SX} {x y z : D} {b : Bool} {r : RS}
theorem ev_T (h1 : ma env p = .ok (.bl b) p1) : mT ma env p = .ok b p1 := by
  unfold mT EX.bind R.bind
  rw [h1]
  rfl
theorem ev_and0 (h1 : mt env p = .ok false p1) : mAnd mt mu env p = .ok false p1 := by
  unfold mAnd EX.bind R.bind
  rw [h1]
  rfl
theorem ev_and1 (h1 : mt env p = .ok true p1) (h2 : mu env p1 = .ok b p2) : mAnd mt mu env p = .ok b p2 := by
  unfold mAnd EX.bind R.bind
  rw [h1]
  dsimp only
  rw [if_pos rfl, h2]
theorem ev_if1 (h1 : mt env p = .ok true p1) (h2 : m env p1 = r) : sIf mt m k env p = r := by
  unfold sIf SX.of R.then
  rw [h1]
  dsimp only
  rw [if_pos rfl, h2]
theorem ev_if0 (h1 : mt env p = .ok false p1) (h2 : k env p1 = r) : sIf mt m k env p = r := by
  unfold sIf SX.of R.then
  rw [h1]
  dsimp only
  rw [if_neg Bool.false_ne_true, h2]
theorem ev_seq {env' : List Cell} (h1 : m env p = .nx env' p1) (h2 : k env' p1 = r) : sSeq m k env p = r := by rw [sSeq_nx h1, h2]
theorem ev_sn : sNil env p = .nx env p := rfl
end
theorem eq_int (a b : Int) : dEq (.int a) (.int b) = some (.bl (a == b)) := by
  simp [dEq, eqD, toPy, SeqAt.shaped, PyData.canLay0, PyData.depth, PyData.eqv]
theorem lt_int (a b : Int) : dLt (.int a) (.int b) = some (.bl (decide (a < b))) := id rfl
theorem ge_int (a b : Int) : dGe (.int a) (.int b) = some (.bl (decide (b ≤ a))) := id rfl
theorem gt_int (a b : Int) : dGt (.int a) (.int b) = some (.bl (decide (b < a))) := id rfl
theorem len_lst (ds : List D) : dLen (.lst ds) = some (.int ds.length) := id rfl
theorem cell_at (ns : List Int) {i : Int} (h0 : 0 ≤ i) (h1 : i < ns.length) : ∃ c, dIx (.lst (ns.map .int)) (.int i) = some (.int c) := by
  obtain ⟨n, rfl⟩ := Int.eq_ofNat_of_zero_le h0
  have hn : n < ns.length := by omega
  refine ⟨ns[n], ?_⟩
  show atI _ _ = _
  refine atI_nat ?_
  rw [List.getElem?_map, List.getElem?_eq_getElem hn]
  rfl
/-- what stays of a pen through the first part -/
structure PenJ (r r' : PenR) : Prop where
  at_ : 0 ≤ r'.at_
  dig : 0 ≤ r'.digits
  f0 : 0 ≤ r'.fold
  f1 : r'.fold < 2 ^ 32
  c : r'.count = r.count
theorem dr1 {r : PenR} {many c3 c4 : Cell} (h0 : 0 ≤ r.at_) (h1 : 0 ≤ r.digits) (h2 : 0 ≤ r.fold) (h3 : r.fold < 2 ^ 32) : ∃ x r', mDr1 [.val .pen, many, .no, c3, c4] (some r) = .nx [.val .pen, many, x, c3, c4] (some r') ∧ PenJ r r' := by
  have hd : mT (m2 dEq (mPget .digits (mW 0)) (mC (.int 0))) [.val .pen, many, .no, c3, c4] (some r) = .ok (r.digits == 0) (some r) := ev_T (ev_m2 (ev_get (ev_w rfl)) ev_cc (eq_int _ _))
  have hl : mT (m2 dLt (mPget .at_ (mW 0)) (mLen (mPget .cells (mW 0)))) [.val .pen, many, .no, c3, c4] (some r) = .ok (decide (r.at_ < (r.cells.map D.int).length)) (some r) := ev_T (ev_m2 (ev_get (ev_w rfl)) (ev_mLen (ev_get (ev_w rfl)) (len_lst _)) (lt_int _ _))
  cases ed : (r.digits == 0) with
  | false =>
    rw [ed] at hd
    exact ⟨.no, r, ev_if0 (ev_and0 hd) ev_sn, h0, h1, h2, h3, rfl⟩
  | true =>
    rw [ed] at hd
    by_cases el : r.at_ < (r.cells.map D.int).length
    · rw [decide_eq_true el] at hl
      obtain ⟨c, hc⟩ := cell_at r.cells h0 (by rwa [List.length_map] at el)
      have s1 : sSet 2 (m2 dIx (mPget .cells (mW 0)) (mPget .at_ (mW 0))) [.val .pen, many, .no, c3, c4] (some r) = .nx [.val .pen, many, .val (.int c), c3, c4] (some r) := ev_set (i := 2) (ev_m2 (ev_get (ev_w rfl)) (ev_get (ev_w rfl)) hc)
      have s2 : sPput .at_ (mW 0) (m2 dAdd (mPget .at_ (mW 0)) (mC (.int 1))) [.val .pen, many, .val (.int c), c3, c4] (some r) = .nx [.val .pen, many, .val (.int c), c3, c4] (some { r with at_ := r.at_ + 1 }) := ev_put (ev_m2 (ev_get (ev_w rfl)) ev_cc (add_eq _ _)) (ev_w rfl) rfl
      have pw : dPow (.int 10) (.int 18) = some (.int 1000000000000000000) := by rw [pow_eq 10 (by omega) (by omega) (by omega)]; rfl
      have t3 : mT (m2 dGe (mW 2) (m2 dPow (mC (.int 10)) (mC (.int 18)))) [.val .pen, many, .val (.int c), c3, c4] (some { r with at_ := r.at_ + 1 }) = .ok (decide (1000000000000000000 ≤ c)) (some { r with at_ := r.at_ + 1 }) := ev_T (ev_m2 (ev_w rfl) (ev_m2 ev_cc ev_cc pw) (ge_int _ _))
      by_cases eg : 1000000000000000000 ≤ c
      · rw [decide_eq_true eg] at t3
        refine ⟨.val (.int c), { r with at_ := r.at_ + 1, digits := c - 1000000000000000000 }, ev_if1 (ev_and1 hd hl) (ev_seq s1 (ev_seq s2 (ev_seq (ev_if1 t3 (ev_seq (ev_put (ev_m2 (ev_w rfl) (ev_m2 ev_cc ev_cc pw) (sub_eq _ _)) (ev_w rfl) rfl) ev_sn)) ev_sn))), ?_, ?_, h2, h3, rfl⟩
        · show 0 ≤ r.at_ + 1; omega
        · show 0 ≤ c - 1000000000000000000; omega
      · rw [decide_eq_false eg] at t3
        have k := fm_pos (r.fold * 69069 + c) (m := 2147483587) (by omega)
        have e1 : dMul (.int r.fold) (.int 69069) = some (.int (r.fold * 69069)) := mul_eq (n := 33) (k := 17) (by omega) (by omega) (by omega)
        refine ⟨.val (.int c), { r with at_ := r.at_ + 1, fold := (r.fold * 69069 + c).fmod 2147483587 }, ev_if1 (ev_and1 hd hl) (ev_seq s1 (ev_seq s2 (ev_seq (ev_if0 t3 (ev_seq (ev_put (ev_m2 (ev_mInt (ev_m2 (ev_m2 (ev_get (ev_w rfl)) ev_cc e1) (ev_w rfl) (add_eq _ _)) (int_eq _)) ev_cc (mod_eq (by omega))) (ev_w rfl) rfl) ev_sn)) ev_sn))), ?_, h1, k.1, ?_, rfl⟩
        · show 0 ≤ r.at_ + 1; omega
        · show (r.fold * 69069 + c).fmod 2147483587 < 2 ^ 32; omega
    · rw [decide_eq_false el] at hl
      exact ⟨.no, r, ev_if0 (ev_and1 hd hl) ev_sn, h0, h1, h2, h3, rfl⟩
/-- A DRAW -/
theorem draw_ok {r : PenR} {n : Nat} {many : Int} (h : PenI r n) (hn : n < 2 ^ 59) (hm : 0 < many) (hm2 : many < 2 ^ 30) : ∃ d r', fd 5 mDraw [.pen, .int many] (some r) = .ok (.int d) (some r') ∧ 0 ≤ d ∧ d < many ∧ PenI r' (n + 1) := by
  have hc1 := h.c1
  have s0 : sPput .count (mW 0) (m2 dAdd (mPget .count (mW 0)) (mC (.int 1))) [.val .pen, .val (.int many), .no, .no, .no] (some r) = .nx [.val .pen, .val (.int many), .no, .no, .no] (some { r with count := r.count + 1 }) := ev_put (ev_m2 (ev_get (ev_w rfl)) ev_cc (add_eq _ _)) (ev_w rfl) rfl
  obtain ⟨x, r1, s1, j⟩ := dr1 (r := { r with count := r.count + 1 }) (many := .val (.int many)) (c3 := .no) (c4 := .no) h.at_ h.dig h.f0 h.f1
  have jc : r1.count = r.count + 1 := j.c
  have hc0 := h.c0
  by_cases hd : 0 < r1.digits
  · have s2 := dr2_pos (r := r1) (x := x) (c3 := .no) (c4 := .no) hm hm2 hd
    have k := fm_pos r1.digits hm
    refine ⟨_, { r1 with digits := r1.digits.fdiv many }, ?_, k.1, k.2, j.at_, ?_, j.f0, j.f1, ?_, ?_⟩
    · show (mDraw _ _).out = _
      rw [mDraw_is]
      show (sSeq _ _ [.val .pen, .val (.int many), .no, .no, .no] (some r)).out = _
      rw [ev_seq s0 (ev_seq s1 (sSeq_rt s2))]
      rfl
    · show 0 ≤ r1.digits.fdiv many
      exact Int.fdiv_nonneg (by omega) (by omega)
    · show 0 ≤ r1.count; omega
    · show r1.count ≤ _; omega
  · have s2 := dr2_0 (r := r1) (many := many) (x := x) (c3 := .no) (c4 := .no) hd
    obtain ⟨d, f, s3, k, kf⟩ := dr3 (r := r1) (x := x) (c3 := .no) (c4 := .no) hm j.f0 j.f1 (by omega) (by omega)
    refine ⟨d, { r1 with fold := f }, ?_, k.1, k.2, j.at_, j.dig, kf.1, kf.2, ?_, ?_⟩
    · show (mDraw _ _).out = _
      rw [mDraw_is]
      show (sSeq _ _ [.val .pen, .val (.int many), .no, .no, .no] (some r)).out = _
      rw [ev_seq s0 (ev_seq s1 (ev_seq s2 s3))]
      rfl
    · show 0 ≤ r1.count; omega
    · show r1.count ≤ _; omega
end Mn

/-! MnR: the pen at the start. -/
namespace Mn
open PySem PySem.Spec PyProof.Rows L2
section
variable {env : List Cell} {p p1 p2 : Pn} {m : EX D} {k : EX (List D)} {d : D} {ds : List D} {ks : List Str}
theorem ev_lc (h1 : m env p = .ok d p1) (h2 : k env p1 = .ok ds p2) : mCons m k env p = .ok (d :: ds) p2 := by
  unfold mCons EX.bind R.bind
  rw [h1]
  dsimp only
  rw [h2]
theorem ev_ln : mNil env p = .ok [] p := rfl
theorem ev_lstc {z : D} (h1 : m env p = .ok d p1) (h3 : dLstOf d = some z) : mLstc m env p = .ok z p1 := by
  unfold mLstc mCall mCons mNil EX.bind R.bind
  rw [h1]
  unfold lift f1
  dsimp only
  rw [h3]
theorem ev_disp (h2 : k env p = .ok ds p1) : mDisp ks k env p = .ok (.dct (kvD ks ds)) p1 := by
  unfold mDisp R.bind
  rw [h2]
theorem ev_pen {r : PenR} (h1 : m env p = .ok d none) (h2 : penOf d = some r) : mPen m env p = .ok .pen (some r) := by
  unfold mPen mPenF
  rw [h1]
  dsimp only
  rw [h2]
end
theorem loopF_nx {g : GX} {b : SX} {d : D} {ds : List D} {env env1 env2 : List Cell} {p p2 : Pn} (h1 : g d env = some env1) (h2 : b env1 p = .nx env2 p2) : loopF g b (d :: ds) env p = loopF g b ds env2 p2 := by
  rw [loopF.eq_def]
  dsimp only
  rw [h1]
  dsimp only
  rw [h2]
theorem toInts_map (ns : List Int) : toInts (ns.map .int) = some ns := by
  induction ns with
  | nil => rfl
  | cons n ns ih => simp [toInts, dI, ih]
def mPenStart : SX := (sSeq (sSet 1 (mC (.int 0))) (sSeq (sFor (mItems (mV 0)) (gN 2) (sSeq (sSet 1 (m2 dMod (mInt (m2 dAdd (m2 dMul (mW 1) (mC (.int 47))) (mW 2))) (mC (.int 1000000007)))) sNil)) (sSeq (sRet (mPen (mDisp ["cells", "at", "digits", "count", "fold"] (mCons (mLstc (mW 0)) (mCons (mC (.int 0)) (mCons (mC (.int 0)) (mCons (mC (.int 0)) (mCons (mV 1) mNil)))))))) sNil)))
theorem penLoop (l : List Int) : ∀ (ns : List Int) (f : Int) (x : Cell), 0 ≤ f → f < 1000000007 →
    ∃ f' x', loopF (gN 2) (sSeq (sSet 1 (m2 dMod (mInt (m2 dAdd (m2 dMul (mW 1) (mC (.int 47))) (mW 2))) (mC (.int 1000000007)))) sNil) (ns.map .int) [.val (.scr l), .val (.int f), x] none = .nx [.val (.scr l), .val (.int f'), x'] none ∧ 0 ≤ f' ∧ f' < 1000000007
  | [], f, x, h0, h1 => ⟨f, x, rfl, h0, h1⟩
  | n :: ns, f, x, h0, h1 => by
    have k := fm_pos (f * 47 + n) (m := 1000000007) (by omega)
    obtain ⟨f', x', h, hf⟩ := penLoop l ns ((f * 47 + n).fmod 1000000007) (.val (.int n)) k.1 k.2
    refine ⟨f', x', ?_, hf⟩
    have e1 : dMul (.int f) (.int 47) = some (.int (f * 47)) := mul_eq (n := 33) (k := 17) (by omega) (by omega) (by omega)
    have s1 : sSeq (sSet 1 (m2 dMod (mInt (m2 dAdd (m2 dMul (mW 1) (mC (.int 47))) (mW 2))) (mC (.int 1000000007)))) sNil [.val (.scr l), .val (.int f), .val (.int n)] none = .nx [.val (.scr l), .val (.int ((f * 47 + n).fmod 1000000007)), .val (.int n)] none :=
      ev_seq (ev_set (i := 1) (ev_m2 (ev_mInt (ev_m2 (ev_m2 (ev_w rfl) ev_cc e1) (ev_w rfl) (add_eq _ _)) (int_eq _)) ev_cc (mod_eq (by omega)))) ev_sn
    have g1 : gN 2 (.int n) [.val (.scr l), .val (.int f), x] = some [.val (.scr l), .val (.int f), .val (.int n)] := rfl
    have h2 := loopF_nx (ds := ns.map D.int) g1 s1
    rw [List.map_cons, h2]
    exact h
theorem pen_of5 (ds : List D) {ns : List Int} {f : Int} (h : toInts ds = some ns) : penOf (.dct (kvD ["cells", "at", "digits", "count", "fold"] [.lst ds, .int 0, .int 0, .int 0, .int f])) = some ⟨ns, 0, 0, 0, f⟩ := by
  simp [kvD, penOf, penKvs, penOf5, dL, dI, h]
/-- THE PEN at the start -/
theorem pen_ok (ns : List Int) : ∃ r, fd 3 mPenStart [.scr ns] none = .ok .pen (some r) ∧ PenI r 0 := by
  obtain ⟨f, x, h, h0, h1⟩ := penLoop ns ns 0 .no (by omega) (by omega)
  have s1 : sSet 1 (mC (.int 0)) [.val (.scr ns), .no, .no] none = .nx [.val (.scr ns), .val (.int 0), .no] none := ev_set (i := 1) ev_cc
  have s2 : sFor (mItems (mV 0)) (gN 2) (sSeq (sSet 1 (m2 dMod (mInt (m2 dAdd (m2 dMul (mW 1) (mC (.int 47))) (mW 2))) (mC (.int 1000000007)))) sNil) [.val (.scr ns), .val (.int 0), .no] none = .nx [.val (.scr ns), .val (.int f), x] none := h
  have e : penOf (.dct (kvD ["cells", "at", "digits", "count", "fold"] [.lst (ns.map .int), .int 0, .int 0, .int 0, .int f])) = some ⟨ns, 0, 0, 0, f⟩ := by
    exact pen_of5 _ (toInts_map ns)
  have s3 : sRet (mPen (mDisp ["cells", "at", "digits", "count", "fold"] (mCons (mLstc (mW 0)) (mCons (mC (.int 0)) (mCons (mC (.int 0)) (mCons (mC (.int 0)) (mCons (mV 1) mNil))))))) [.val (.scr ns), .val (.int f), x] none = .rt .pen (some ⟨ns, 0, 0, 0, f⟩) :=
    ev_ret (ev_pen (ev_disp (ev_lc (ev_lstc (ev_w rfl) rfl) (ev_lc ev_cc (ev_lc ev_cc (ev_lc ev_cc (ev_lc (ev_v rfl) ev_ln)))))) e)
  refine ⟨⟨ns, 0, 0, 0, f⟩, ?_, by show (0 : Int) ≤ 0; omega, by show (0 : Int) ≤ 0; omega, h0, by show f < 2 ^ 32; omega, by show (0 : Int) ≤ 0; omega, by show (0 : Int) ≤ _; omega⟩
  show (mPenStart [.val (.scr ns), .no, .no] none).out = _
  unfold mPenStart
  rw [ev_seq s1 (ev_seq s2 (sSeq_rt s3))]
  rfl
end Mn

/-! MnS: how long a repr is. -/
namespace Mn
open PySem PySem.Spec PyProof.Rows L2
/-- at most n signs, all of them printable ones below 127 -/
structure Tx (n : Nat) (x : Str) : Prop where
  len : x.length ≤ n
  asc : ∀ c ∈ x.cps.toList, 32 ≤ c ∧ c < 127
theorem Tx.mono {n k : Nat} {x : Str} (h : Tx n x) (hk : n ≤ k) : Tx k x := ⟨Nat.le_trans h.len hk, h.asc⟩
theorem print_asc : ∀ c, c < 127 → 32 ≤ c → Unicode.isPrintable c = true := by decide +kernel
theorem char_tx {q c : Nat} (h : 32 ≤ c ∧ c < 127) : (Builtin.Str.reprChar q c).length ≤ 2 ∧ ∀ e ∈ Builtin.Str.reprChar q c, 32 ≤ e ∧ e < 127 := by
  unfold Builtin.Str.reprChar
  dsimp only
  split
  · exact ⟨Nat.le_refl _, fun e he => by simp at he; omega⟩
  · rw [if_neg (by simp; omega), if_neg (by simp; omega), if_neg (by simp; omega), if_pos (print_asc c h.2 h.1)]
    exact ⟨by simp, fun e he => by simp at he; omega⟩
theorem fold_tx (q : Nat) : ∀ (l : List Nat) (acc : Array Nat), (∀ c ∈ l, 32 ≤ c ∧ c < 127) → (∀ c ∈ acc.toList, 32 ≤ c ∧ c < 127) →
    (l.foldl (fun out c => out ++ (Builtin.Str.reprChar q c).toArray) acc).size ≤ acc.size + 2 * l.length ∧ ∀ c ∈ (l.foldl (fun out c => out ++ (Builtin.Str.reprChar q c).toArray) acc).toList, 32 ≤ c ∧ c < 127
  | [], acc, _, h => ⟨by simp, h⟩
  | c :: l, acc, hl, h => by
    have hc := char_tx (q := q) (hl c (by simp))
    obtain ⟨h1, h2⟩ := fold_tx q l (acc ++ (Builtin.Str.reprChar q c).toArray) (fun e he => hl e (by simp [he])) (fun e he => by
      rw [Array.toList_append, List.mem_append] at he
      rcases he with he | he
      · exact h e he
      · exact hc.2 e (by simpa using he))
    refine ⟨?_, h2⟩
    rw [List.foldl_cons, List.length_cons]
    have e1 : (acc ++ (Builtin.Str.reprChar q c).toArray).size = acc.size + (Builtin.Str.reprChar q c).length := by rw [Array.size_append]; rfl
    have e2 := hc.1
    omega
theorem repr_tx {n : Nat} {x : Str} (h : Tx n x) : Tx (2 * n + 2) (reprText x) := by
  have hq : 32 ≤ reprQuote x ∧ reprQuote x < 127 := by
    unfold reprQuote
    split <;> decide
  have e : reprText x = ⟨(x.cps.toList.foldl (fun out c => out ++ (Builtin.Str.reprChar (reprQuote x) c).toArray) #[reprQuote x]).push (reprQuote x)⟩ := by
    unfold reprText
    rw [Array.foldl_toList]
  obtain ⟨h1, h2⟩ := fold_tx (reprQuote x) x.cps.toList #[reprQuote x] h.asc (fun c hc => by simp at hc; rw [hc]; exact hq)
  rw [e]
  refine ⟨?_, fun c hc => ?_⟩
  · show (Array.push _ _).size ≤ _
    rw [Array.size_push]
    have hl : x.cps.toList.length ≤ n := h.len
    have : (#[reprQuote x] : Array Nat).size = 1 := rfl
    omega
  · rw [Array.toList_push, List.mem_append] at hc
    rcases hc with hc | hc
    · exact h2 c hc
    · simp at hc; rw [hc]; exact hq
theorem int_tx {i : Int} (h0 : 0 ≤ i) {k : Nat} (hk : 0 < k) (h : i < 10 ^ k) : Tx k (Str.ofString (toString i)) := by
  refine ⟨toString_length_le h0 hk h, fun c hc => ?_⟩
  by_cases hb : c = 45 ∨ (48 ≤ c ∧ c ≤ 57)
  · omega
  · exact absurd hc (int_text_free' c (by omega) i)
end Mn

/-! MnT: values whose repr is told. -/
namespace Mn
open PySem PySem.Spec PyProof.Rows L2
theorem Tx.append {a b : Nat} {x y : Str} (hx : Tx a x) (hy : Tx b y) : Tx (a + b) (x ++ y) := by
  refine ⟨?_, fun c hc => ?_⟩
  · rw [strLen_append]
    have := hx.len
    have := hy.len
    omega
  · have hc : c ∈ (x.cps ++ y.cps).toList := hc
    rw [Array.toList_append, List.mem_append] at hc
    exact hc.elim (hx.asc c) (hy.asc c)
def ascB (x : Str) : Bool := x.cps.toList.all fun c => decide (32 ≤ c) && decide (c < 127)
theorem tx_of {n : Nat} {x : Str} (h : ascB x = true) (hl : x.length ≤ n) : Tx n x := by
  refine ⟨hl, fun c hc => ?_⟩
  have := List.all_eq_true.mp h c hc
  simpa using this
theorem from_tx {m : Nat} : ∀ (ts : List Str) (k a : Nat) (acc : Str), Tx a acc → (∀ t ∈ ts, Tx m t) → Tx (a + ts.length * (m + 2)) (textFrom k acc ts)
  | [], k, a, acc, ha, _ => by
    show Tx (a + 0 * (m + 2)) acc
    rw [Nat.zero_mul]; exact ha
  | t :: ts, k, a, acc, ha, h => by
    have hs : Tx 2 (if k > 0 then ", " else "" : String) := by
      split
      · exact tx_of (by decide) (by decide)
      · exact tx_of (by decide) (by decide)
    have h1 := from_tx ts (k + 1) (a + 2 + m) (acc ++ (if k > 0 then ", " else "" : String) ++ t) ((ha.append hs).append (h t (by simp))) (fun u hu => h u (by simp [hu]))
    show Tx _ (textFrom (k + 1) (acc ++ (if k > 0 then ", " else "" : String) ++ t) ts)
    refine h1.mono ?_
    rw [List.length_cons, Nat.succ_mul]
    omega
theorem list_tx {m : Nat} {ts : List Str} (h : ∀ t ∈ ts, Tx m t) : Tx (ts.length * (m + 2) + 2) (listText ts) := by
  have h1 := from_tx ts 0 1 "[" (tx_of (by decide) (by decide)) h
  have h2 : Tx 1 ("]" : Str) := tx_of (by decide) (by decide)
  exact (h1.append h2).mono (by omega)
theorem join_tx {m : Nat} : ∀ {ts : List Str}, (∀ t ∈ ts, Tx m t) → Tx (ts.length * (m + 2)) (Str.join ", " ts)
  | [], _ => by
    show Tx (0 * (m + 2)) Str.empty
    exact tx_of (by decide) (by simp [Str.empty, Str.length])
  | [x], h => (h x (by simp)).mono (by simp)
  | x :: y :: r, h => by
    have h1 := join_tx (ts := y :: r) fun t ht => h t (by simp [ht])
    have hs : Tx 2 (", " : Str) := tx_of (by decide) (by decide)
    have h2 := ((h x (by simp)).append hs).append h1
    show Tx _ (x ++ ", " ++ Str.join ", " (y :: r))
    refine h2.mono ?_
    rw [List.length_cons (a := x), Nat.succ_mul]
    omega
theorem tup_tx {m : Nat} {ts : List Str} (h : ∀ t ∈ ts, Tx m t) : Tx (ts.length * (m + 2) + 3) (tupleText ts) := by
  have h0 : Tx 1 ("(" : Str) := tx_of (by decide) (by decide)
  have h2 : Tx 2 (if ts.length == 1 then ",)" else ")" : String) := by
    split
    · exact tx_of (by decide) (by decide)
    · exact tx_of (by decide) (by decide)
  exact ((h0.append (join_tx h)).append h2).mono (by omega)
/-- d's repr is told: at most n signs, at most k deep -/
def DOk (n k : Nat) (d : D) : Prop := ∃ q, toRd d = some q ∧ q.showable = true ∧ Tx n q.shown ∧ q.depth ≤ k
theorem DOk.mono {n k n' k' : Nat} {d : D} (h : DOk n k d) (h1 : n ≤ n') (h2 : k ≤ k') : DOk n' k' d := by
  obtain ⟨q, a, b, c, e⟩ := h
  exact ⟨q, a, b, c.mono h1, Nat.le_trans e h2⟩
theorem dok_repr {n k : Nat} {d : D} (h : DOk n k d) (h1 : n ≤ sizeLine) (h2 : k ≤ 100) : ∃ s, dRepr d = some (.str s) ∧ Tx n s := by
  obtain ⟨q, a, b, c, e⟩ := h
  refine ⟨q.shown, ?_, c⟩
  unfold dRepr
  rw [a]
  have e1 : decide (q.shown.length ≤ sizeLine) = true := decide_eq_true (Nat.le_trans c.len h1)
  have e2 : decide (q.depth ≤ 100) = true := decide_eq_true (Nat.le_trans e h2)
  show (if (q.showable && (decide (q.shown.length ≤ sizeLine) && decide (q.depth ≤ 100))) = true then _ else _) = _
  rw [b, e1, e2]
  rfl
theorem dok_str {n : Nat} {x : Str} (h : Tx n x) : DOk (2 * n + 2) 0 (.str x) := ⟨.str x, by simp [toRd], by simp [PyData.showable], by simp only [PyData.shown]; exact repr_tx h, by simp [PyData.depth]⟩
theorem dok_nat {i : Int} (h0 : 0 ≤ i) {k : Nat} (hk : 0 < k) (hk2 : k ≤ 480) (h : i < 10 ^ k) : DOk k 0 (.int i) := by
  refine ⟨.int i, by simp [toRd], ?_, by simp only [PyData.shown]; exact int_tx h0 hk h, by simp [PyData.depth]⟩
  simp only [PyData.showable]
  refine decide_eq_true ?_
  have h1 : i.natAbs < 10 ^ k := by
    have : (i.natAbs : Int) < ((10 ^ k : Nat) : Int) := by
      rw [Int.natAbs_of_nonneg h0]
      simpa using h
    exact_mod_cast this
  have h2 : (10 : Nat) ^ k ≤ 16 ^ k := Nat.pow_le_pow_left (by omega) k
  have h3 : (16 : Nat) ^ k = 2 ^ (4 * k) := by rw [show (16 : Nat) = 2 ^ 4 from rfl, ← Nat.pow_mul]
  by_cases hz : i.natAbs = 0
  · rw [hz]; decide
  · have hlt : i.natAbs < 2 ^ (4 * k) := by rw [h3] at h2; exact Nat.lt_of_lt_of_le h1 h2
    have := (Nat.log2_lt hz).mpr hlt
    omega
theorem rd_allOk {m k : Nat} : ∀ {ds : List D}, (∀ d ∈ ds, DOk m k d) → ∃ qs, toRdAll ds = some qs ∧ PyData.showableAll qs = true ∧ (∀ t ∈ PyData.shownAll qs, Tx m t) ∧ PyData.depthAll qs ≤ k ∧ (PyData.shownAll qs).length = ds.length
  | [], _ => ⟨[], by simp [toRdAll], by simp [PyData.showableAll], by simp [PyData.shownAll], by simp [PyData.depthAll], by simp [PyData.shownAll]⟩
  | d :: ds, h => by
    obtain ⟨q, a, b, c, e⟩ := h d (by simp)
    obtain ⟨qs, a', b', c', e', l'⟩ := rd_allOk (ds := ds) fun x hx => h x (by simp [hx])
    refine ⟨q :: qs, by simp [toRdAll, a, a'], by simp [PyData.showableAll, b, b'], ?_, ?_, by simp [PyData.shownAll, l']⟩
    · intro t ht
      simp only [PyData.shownAll, List.mem_cons] at ht
      rcases ht with ht | ht
      · rw [ht]; exact c
      · exact c' t ht
    · simp only [PyData.depthAll]
      omega
theorem dok_tup {m k : Nat} {ds : List D} (h : ∀ d ∈ ds, DOk m k d) : DOk (ds.length * (m + 2) + 3) (k + 1) (.tup ds) := by
  obtain ⟨qs, a, b, c, e, l⟩ := rd_allOk h
  refine ⟨.tuple qs, by simp [toRd, a], by simp [PyData.showable, b], ?_, by simp only [PyData.depth]; omega⟩
  have := tup_tx c
  rw [l] at this
  simpa only [PyData.shown] using this
theorem dok_lst {m k : Nat} {ds : List D} (h : ∀ d ∈ ds, DOk m k d) : DOk (ds.length * (m + 2) + 2) (k + 1) (.lst ds) := by
  obtain ⟨qs, a, b, c, e, l⟩ := rd_allOk h
  refine ⟨.list qs, by simp [toRd, a], by simp [PyData.showable, b], ?_, by simp only [PyData.depth]; omega⟩
  have := list_tx c
  rw [l] at this
  simpa only [PyData.shown] using this
end Mn

namespace K01
open PySem PySem.Spec PyProof.Rows L2 Mn
-- order: _law_pen:1 _law_raised:3 _law_raised_too:3 _law_more_kinds:1 _law_kinds:2 _law_told:5 _law_draw:1 _law_pick:2 _law_field:3 _law_due:1 law:6
def top (i : Nat) : Stmt := PySem.Challenge.pw_freewalls_k01_errors_as_told.main.body.getD i (.Pass ⟨0, 0, 0, 0⟩)
def inner (st : Stmt) (j : Nat) : Stmt := match st with | .ClassDef _ _ _ b _ _ _ _ _ _ _ => b.getD j (.Pass ⟨0, 0, 0, 0⟩) | _ => .Pass ⟨0, 0, 0, 0⟩
abbrev s__law_pen : Stmt := top 19
abbrev s__law_raised : Stmt := top 25
abbrev s__law_raised_too : Stmt := top 26
abbrev s__law_more_kinds : Stmt := top 23
abbrev s__law_kinds : Stmt := top 22
abbrev s__law_told : Stmt := top 27
abbrev s__law_draw : Stmt := top 20
abbrev s__law_pick : Stmt := top 21
abbrev s__law_field : Stmt := top 24
abbrev s__law_due : Stmt := top 28
abbrev s_law : Stmt := top 29
def exN : ExN := [("BadNumber", ["what", "number"]), ("BadRow", ["what", "row"]), ("BadTable", ["what"]), ("BadForm", ["what"]), ("BadLot", ["what", "lot"]), ("BadName", ["name"]), ("BadText", ["line", "word"]), ("NoWall", ["what", "index"]), ("NoName", ["name"]), ("TakenName", ["name"]), ("Unlike", ["what"]), ("NotFree", ["paper"]), ("TooMany", ["what", "many", "limit"]), ("NotKept", ["promise", "witness"]), ("NothingToUndo", []), ("NothingToRedo", []), ("WallsError", [])]
def flN : List Str := ["what", "number", "row", "lot", "name", "line", "word", "index", "paper", "many", "limit", "promise", "witness"]
abbrev i_BadNumber : Stmt := inner (top 2) 0
abbrev i_BadRow : Stmt := inner (top 3) 0
abbrev i_BadTable : Stmt := inner (top 4) 0
abbrev i_BadForm : Stmt := inner (top 5) 0
abbrev i_BadLot : Stmt := inner (top 6) 0
abbrev i_BadName : Stmt := inner (top 7) 0
abbrev i_BadText : Stmt := inner (top 8) 0
abbrev i_NoWall : Stmt := inner (top 9) 0
abbrev i_NoName : Stmt := inner (top 10) 0
abbrev i_TakenName : Stmt := inner (top 11) 0
abbrev i_Unlike : Stmt := inner (top 12) 0
abbrev i_NotFree : Stmt := inner (top 13) 0
abbrev i_TooMany : Stmt := inner (top 14) 0
abbrev i_NotKept : Stmt := inner (top 15) 0
def fnL : List He.DefD := [⟨("_law_pen", none), "_law_pen", "_law_pen", defArgs s__law_pen, defBody s__law_pen, defScope s__law_pen, [], []⟩,
  ⟨("_law_raised", none), "_law_raised", "_law_raised", defArgs s__law_raised, defBody s__law_raised, defScope s__law_raised, [], []⟩,
  ⟨("_law_raised_too", none), "_law_raised_too", "_law_raised_too", defArgs s__law_raised_too, defBody s__law_raised_too, defScope s__law_raised_too, [], []⟩,
  ⟨("_law_more_kinds", none), "_law_more_kinds", "_law_more_kinds", defArgs s__law_more_kinds, defBody s__law_more_kinds, defScope s__law_more_kinds, [], []⟩,
  ⟨("_law_kinds", none), "_law_kinds", "_law_kinds", defArgs s__law_kinds, defBody s__law_kinds, defScope s__law_kinds, [], []⟩,
  ⟨("_law_told", none), "_law_told", "_law_told", defArgs s__law_told, defBody s__law_told, defScope s__law_told, [], []⟩,
  ⟨("_law_draw", none), "_law_draw", "_law_draw", defArgs s__law_draw, defBody s__law_draw, defScope s__law_draw, [], []⟩,
  ⟨("_law_pick", none), "_law_pick", "_law_pick", defArgs s__law_pick, defBody s__law_pick, defScope s__law_pick, [], []⟩,
  ⟨("_law_field", none), "_law_field", "_law_field", defArgs s__law_field, defBody s__law_field, defScope s__law_field, [], []⟩,
  ⟨("_law_due", none), "_law_due", "_law_due", defArgs s__law_due, defBody s__law_due, defScope s__law_due, [], []⟩,
  ⟨("law", none), "law", "law", defArgs s_law, defBody s_law, defScope s_law, [], []⟩,
  ⟨("BadNumber", some "__init__"), "__init__", "BadNumber.__init__", defArgs i_BadNumber, defBody i_BadNumber, defScope i_BadNumber, [], []⟩,
  ⟨("BadRow", some "__init__"), "__init__", "BadRow.__init__", defArgs i_BadRow, defBody i_BadRow, defScope i_BadRow, [], []⟩,
  ⟨("BadTable", some "__init__"), "__init__", "BadTable.__init__", defArgs i_BadTable, defBody i_BadTable, defScope i_BadTable, [], []⟩,
  ⟨("BadForm", some "__init__"), "__init__", "BadForm.__init__", defArgs i_BadForm, defBody i_BadForm, defScope i_BadForm, [], []⟩,
  ⟨("BadLot", some "__init__"), "__init__", "BadLot.__init__", defArgs i_BadLot, defBody i_BadLot, defScope i_BadLot, [], []⟩,
  ⟨("BadName", some "__init__"), "__init__", "BadName.__init__", defArgs i_BadName, defBody i_BadName, defScope i_BadName, [], []⟩,
  ⟨("BadText", some "__init__"), "__init__", "BadText.__init__", defArgs i_BadText, defBody i_BadText, defScope i_BadText, [], []⟩,
  ⟨("NoWall", some "__init__"), "__init__", "NoWall.__init__", defArgs i_NoWall, defBody i_NoWall, defScope i_NoWall, [], []⟩,
  ⟨("NoName", some "__init__"), "__init__", "NoName.__init__", defArgs i_NoName, defBody i_NoName, defScope i_NoName, [], []⟩,
  ⟨("TakenName", some "__init__"), "__init__", "TakenName.__init__", defArgs i_TakenName, defBody i_TakenName, defScope i_TakenName, [], []⟩,
  ⟨("Unlike", some "__init__"), "__init__", "Unlike.__init__", defArgs i_Unlike, defBody i_Unlike, defScope i_Unlike, [], []⟩,
  ⟨("NotFree", some "__init__"), "__init__", "NotFree.__init__", defArgs i_NotFree, defBody i_NotFree, defScope i_NotFree, [], []⟩,
  ⟨("TooMany", some "__init__"), "__init__", "TooMany.__init__", defArgs i_TooMany, defBody i_TooMany, defScope i_TooMany, [], []⟩,
  ⟨("NotKept", some "__init__"), "__init__", "NotKept.__init__", defArgs i_NotKept, defBody i_NotKept, defScope i_NotKept, [], []⟩]
def faL : List He.Fa := [.glo "_law_pen", .glo "_law_raised", .glo "_law_raised_too", .glo "_law_more_kinds", .glo "_law_kinds", .glo "_law_told", .glo "_law_draw", .glo "_law_pick", .glo "_law_field", .glo "_law_due", .glo "law", .free "ValueError", .free "int", .free "isinstance", .free "len", .free "list", .free "range", .free "repr"]
def exL (K : PySem.W.Frag) : Bool := exB exN K && noB exN flN K
def Ad (K : PySem.W.Frag) : Adr := { fa := fun _ => 0, ca := fun c => He.ga K (exN.getD c ("", [])).1, T := [] }
structure Facts (K : PySem.W.Frag) (mg : Str → Option Value) (base : Heap) : Prop where
  X : K.In base
  G : base.Ns mainGlobals mg
  c : He.SaysD faL fnL K
  ex : exL K = true
  sys : SysAt base
section
variable {K : PySem.W.Frag} {mg : Str → Option Value} {base : Heap}
theorem Facts.gl__law_pen (G : Facts K mg base) : mg "_law_pen" = some (.ref (He.fAd K ("_law_pen", none))) := He.glo_ok G.X G.G (G.c.fact 0 (f := .glo "_law_pen") rfl)
theorem Facts.d__law_pen (G : Facts K mg base) : ∃ fdt, FunD K "_law_pen" "_law_pen" (defArgs s__law_pen) (defBody s__law_pen) (defScope s__law_pen) [] [] (He.fAd K ("_law_pen", none)) fdt := G.c.def_ 0 (d := ⟨("_law_pen", none), "_law_pen", "_law_pen", defArgs s__law_pen, defBody s__law_pen, defScope s__law_pen, [], []⟩) rfl
theorem Facts.gl__law_raised (G : Facts K mg base) : mg "_law_raised" = some (.ref (He.fAd K ("_law_raised", none))) := He.glo_ok G.X G.G (G.c.fact 1 (f := .glo "_law_raised") rfl)
theorem Facts.d__law_raised (G : Facts K mg base) : ∃ fdt, FunD K "_law_raised" "_law_raised" (defArgs s__law_raised) (defBody s__law_raised) (defScope s__law_raised) [] [] (He.fAd K ("_law_raised", none)) fdt := G.c.def_ 1 (d := ⟨("_law_raised", none), "_law_raised", "_law_raised", defArgs s__law_raised, defBody s__law_raised, defScope s__law_raised, [], []⟩) rfl
theorem Facts.gl__law_raised_too (G : Facts K mg base) : mg "_law_raised_too" = some (.ref (He.fAd K ("_law_raised_too", none))) := He.glo_ok G.X G.G (G.c.fact 2 (f := .glo "_law_raised_too") rfl)
theorem Facts.d__law_raised_too (G : Facts K mg base) : ∃ fdt, FunD K "_law_raised_too" "_law_raised_too" (defArgs s__law_raised_too) (defBody s__law_raised_too) (defScope s__law_raised_too) [] [] (He.fAd K ("_law_raised_too", none)) fdt := G.c.def_ 2 (d := ⟨("_law_raised_too", none), "_law_raised_too", "_law_raised_too", defArgs s__law_raised_too, defBody s__law_raised_too, defScope s__law_raised_too, [], []⟩) rfl
theorem Facts.gl__law_more_kinds (G : Facts K mg base) : mg "_law_more_kinds" = some (.ref (He.fAd K ("_law_more_kinds", none))) := He.glo_ok G.X G.G (G.c.fact 3 (f := .glo "_law_more_kinds") rfl)
theorem Facts.d__law_more_kinds (G : Facts K mg base) : ∃ fdt, FunD K "_law_more_kinds" "_law_more_kinds" (defArgs s__law_more_kinds) (defBody s__law_more_kinds) (defScope s__law_more_kinds) [] [] (He.fAd K ("_law_more_kinds", none)) fdt := G.c.def_ 3 (d := ⟨("_law_more_kinds", none), "_law_more_kinds", "_law_more_kinds", defArgs s__law_more_kinds, defBody s__law_more_kinds, defScope s__law_more_kinds, [], []⟩) rfl
theorem Facts.gl__law_kinds (G : Facts K mg base) : mg "_law_kinds" = some (.ref (He.fAd K ("_law_kinds", none))) := He.glo_ok G.X G.G (G.c.fact 4 (f := .glo "_law_kinds") rfl)
theorem Facts.d__law_kinds (G : Facts K mg base) : ∃ fdt, FunD K "_law_kinds" "_law_kinds" (defArgs s__law_kinds) (defBody s__law_kinds) (defScope s__law_kinds) [] [] (He.fAd K ("_law_kinds", none)) fdt := G.c.def_ 4 (d := ⟨("_law_kinds", none), "_law_kinds", "_law_kinds", defArgs s__law_kinds, defBody s__law_kinds, defScope s__law_kinds, [], []⟩) rfl
theorem Facts.gl__law_told (G : Facts K mg base) : mg "_law_told" = some (.ref (He.fAd K ("_law_told", none))) := He.glo_ok G.X G.G (G.c.fact 5 (f := .glo "_law_told") rfl)
theorem Facts.d__law_told (G : Facts K mg base) : ∃ fdt, FunD K "_law_told" "_law_told" (defArgs s__law_told) (defBody s__law_told) (defScope s__law_told) [] [] (He.fAd K ("_law_told", none)) fdt := G.c.def_ 5 (d := ⟨("_law_told", none), "_law_told", "_law_told", defArgs s__law_told, defBody s__law_told, defScope s__law_told, [], []⟩) rfl
theorem Facts.gl__law_draw (G : Facts K mg base) : mg "_law_draw" = some (.ref (He.fAd K ("_law_draw", none))) := He.glo_ok G.X G.G (G.c.fact 6 (f := .glo "_law_draw") rfl)
theorem Facts.d__law_draw (G : Facts K mg base) : ∃ fdt, FunD K "_law_draw" "_law_draw" (defArgs s__law_draw) (defBody s__law_draw) (defScope s__law_draw) [] [] (He.fAd K ("_law_draw", none)) fdt := G.c.def_ 6 (d := ⟨("_law_draw", none), "_law_draw", "_law_draw", defArgs s__law_draw, defBody s__law_draw, defScope s__law_draw, [], []⟩) rfl
theorem Facts.gl__law_pick (G : Facts K mg base) : mg "_law_pick" = some (.ref (He.fAd K ("_law_pick", none))) := He.glo_ok G.X G.G (G.c.fact 7 (f := .glo "_law_pick") rfl)
theorem Facts.d__law_pick (G : Facts K mg base) : ∃ fdt, FunD K "_law_pick" "_law_pick" (defArgs s__law_pick) (defBody s__law_pick) (defScope s__law_pick) [] [] (He.fAd K ("_law_pick", none)) fdt := G.c.def_ 7 (d := ⟨("_law_pick", none), "_law_pick", "_law_pick", defArgs s__law_pick, defBody s__law_pick, defScope s__law_pick, [], []⟩) rfl
theorem Facts.gl__law_field (G : Facts K mg base) : mg "_law_field" = some (.ref (He.fAd K ("_law_field", none))) := He.glo_ok G.X G.G (G.c.fact 8 (f := .glo "_law_field") rfl)
theorem Facts.d__law_field (G : Facts K mg base) : ∃ fdt, FunD K "_law_field" "_law_field" (defArgs s__law_field) (defBody s__law_field) (defScope s__law_field) [] [] (He.fAd K ("_law_field", none)) fdt := G.c.def_ 8 (d := ⟨("_law_field", none), "_law_field", "_law_field", defArgs s__law_field, defBody s__law_field, defScope s__law_field, [], []⟩) rfl
theorem Facts.gl__law_due (G : Facts K mg base) : mg "_law_due" = some (.ref (He.fAd K ("_law_due", none))) := He.glo_ok G.X G.G (G.c.fact 9 (f := .glo "_law_due") rfl)
theorem Facts.d__law_due (G : Facts K mg base) : ∃ fdt, FunD K "_law_due" "_law_due" (defArgs s__law_due) (defBody s__law_due) (defScope s__law_due) [] [] (He.fAd K ("_law_due", none)) fdt := G.c.def_ 9 (d := ⟨("_law_due", none), "_law_due", "_law_due", defArgs s__law_due, defBody s__law_due, defScope s__law_due, [], []⟩) rfl
theorem Facts.gl_law (G : Facts K mg base) : mg "law" = some (.ref (He.fAd K ("law", none))) := He.glo_ok G.X G.G (G.c.fact 10 (f := .glo "law") rfl)
theorem Facts.d_law (G : Facts K mg base) : ∃ fdt, FunD K "law" "law" (defArgs s_law) (defBody s_law) (defScope s_law) [] [] (He.fAd K ("law", none)) fdt := G.c.def_ 10 (d := ⟨("law", none), "law", "law", defArgs s_law, defBody s_law, defScope s_law, [], []⟩) rfl
theorem Facts.fr_ValueError (G : Facts K mg base) : mg "ValueError" = none := He.free_ok G.X G.G (G.c.fact 11 (f := .free "ValueError") rfl)
theorem Facts.fr_int (G : Facts K mg base) : mg "int" = none := He.free_ok G.X G.G (G.c.fact 12 (f := .free "int") rfl)
theorem Facts.fr_isinstance (G : Facts K mg base) : mg "isinstance" = none := He.free_ok G.X G.G (G.c.fact 13 (f := .free "isinstance") rfl)
theorem Facts.fr_len (G : Facts K mg base) : mg "len" = none := He.free_ok G.X G.G (G.c.fact 14 (f := .free "len") rfl)
theorem Facts.fr_list (G : Facts K mg base) : mg "list" = none := He.free_ok G.X G.G (G.c.fact 15 (f := .free "list") rfl)
theorem Facts.fr_range (G : Facts K mg base) : mg "range" = none := He.free_ok G.X G.G (G.c.fact 16 (f := .free "range") rfl)
theorem Facts.fr_repr (G : Facts K mg base) : mg "repr" = none := He.free_ok G.X G.G (G.c.fact 17 (f := .free "repr") rfl)
theorem Facts.e1 (G : Facts K mg base) : exB exN K = true := (Bool.and_eq_true_iff.mp G.ex).1
theorem Facts.e2 (G : Facts K mg base) : noB exN flN K = true := (Bool.and_eq_true_iff.mp G.ex).2
theorem Facts.ex_BadNumber (G : Facts K mg base) : ExF K mg ((Ad K).ca 0) "BadNumber" := exB_f G.e1 G.X G.G 0 (flds := ["what", "number"]) rfl
theorem Facts.ei_BadNumber (G : Facts K mg base) : ExI K "BadNumber" ["what", "number"] := exB_i G.e1 0 rfl
theorem Facts.di_BadNumber (G : Facts K mg base) : ∃ fdt, FunD K "__init__" "BadNumber.__init__" (defArgs i_BadNumber) (defBody i_BadNumber) (defScope i_BadNumber) [] [] (He.fAd K ("BadNumber", some "__init__")) fdt := G.c.def_ 11 (d := ⟨("BadNumber", some "__init__"), "__init__", "BadNumber.__init__", defArgs i_BadNumber, defBody i_BadNumber, defScope i_BadNumber, [], []⟩) rfl
theorem Facts.ex_BadRow (G : Facts K mg base) : ExF K mg ((Ad K).ca 1) "BadRow" := exB_f G.e1 G.X G.G 1 (flds := ["what", "row"]) rfl
theorem Facts.ei_BadRow (G : Facts K mg base) : ExI K "BadRow" ["what", "row"] := exB_i G.e1 1 rfl
theorem Facts.di_BadRow (G : Facts K mg base) : ∃ fdt, FunD K "__init__" "BadRow.__init__" (defArgs i_BadRow) (defBody i_BadRow) (defScope i_BadRow) [] [] (He.fAd K ("BadRow", some "__init__")) fdt := G.c.def_ 12 (d := ⟨("BadRow", some "__init__"), "__init__", "BadRow.__init__", defArgs i_BadRow, defBody i_BadRow, defScope i_BadRow, [], []⟩) rfl
theorem Facts.ex_BadTable (G : Facts K mg base) : ExF K mg ((Ad K).ca 2) "BadTable" := exB_f G.e1 G.X G.G 2 (flds := ["what"]) rfl
theorem Facts.ei_BadTable (G : Facts K mg base) : ExI K "BadTable" ["what"] := exB_i G.e1 2 rfl
theorem Facts.di_BadTable (G : Facts K mg base) : ∃ fdt, FunD K "__init__" "BadTable.__init__" (defArgs i_BadTable) (defBody i_BadTable) (defScope i_BadTable) [] [] (He.fAd K ("BadTable", some "__init__")) fdt := G.c.def_ 13 (d := ⟨("BadTable", some "__init__"), "__init__", "BadTable.__init__", defArgs i_BadTable, defBody i_BadTable, defScope i_BadTable, [], []⟩) rfl
theorem Facts.ex_BadForm (G : Facts K mg base) : ExF K mg ((Ad K).ca 3) "BadForm" := exB_f G.e1 G.X G.G 3 (flds := ["what"]) rfl
theorem Facts.ei_BadForm (G : Facts K mg base) : ExI K "BadForm" ["what"] := exB_i G.e1 3 rfl
theorem Facts.di_BadForm (G : Facts K mg base) : ∃ fdt, FunD K "__init__" "BadForm.__init__" (defArgs i_BadForm) (defBody i_BadForm) (defScope i_BadForm) [] [] (He.fAd K ("BadForm", some "__init__")) fdt := G.c.def_ 14 (d := ⟨("BadForm", some "__init__"), "__init__", "BadForm.__init__", defArgs i_BadForm, defBody i_BadForm, defScope i_BadForm, [], []⟩) rfl
theorem Facts.ex_BadLot (G : Facts K mg base) : ExF K mg ((Ad K).ca 4) "BadLot" := exB_f G.e1 G.X G.G 4 (flds := ["what", "lot"]) rfl
theorem Facts.ei_BadLot (G : Facts K mg base) : ExI K "BadLot" ["what", "lot"] := exB_i G.e1 4 rfl
theorem Facts.di_BadLot (G : Facts K mg base) : ∃ fdt, FunD K "__init__" "BadLot.__init__" (defArgs i_BadLot) (defBody i_BadLot) (defScope i_BadLot) [] [] (He.fAd K ("BadLot", some "__init__")) fdt := G.c.def_ 15 (d := ⟨("BadLot", some "__init__"), "__init__", "BadLot.__init__", defArgs i_BadLot, defBody i_BadLot, defScope i_BadLot, [], []⟩) rfl
theorem Facts.ex_BadName (G : Facts K mg base) : ExF K mg ((Ad K).ca 5) "BadName" := exB_f G.e1 G.X G.G 5 (flds := ["name"]) rfl
theorem Facts.ei_BadName (G : Facts K mg base) : ExI K "BadName" ["name"] := exB_i G.e1 5 rfl
theorem Facts.di_BadName (G : Facts K mg base) : ∃ fdt, FunD K "__init__" "BadName.__init__" (defArgs i_BadName) (defBody i_BadName) (defScope i_BadName) [] [] (He.fAd K ("BadName", some "__init__")) fdt := G.c.def_ 16 (d := ⟨("BadName", some "__init__"), "__init__", "BadName.__init__", defArgs i_BadName, defBody i_BadName, defScope i_BadName, [], []⟩) rfl
theorem Facts.ex_BadText (G : Facts K mg base) : ExF K mg ((Ad K).ca 6) "BadText" := exB_f G.e1 G.X G.G 6 (flds := ["line", "word"]) rfl
theorem Facts.ei_BadText (G : Facts K mg base) : ExI K "BadText" ["line", "word"] := exB_i G.e1 6 rfl
theorem Facts.di_BadText (G : Facts K mg base) : ∃ fdt, FunD K "__init__" "BadText.__init__" (defArgs i_BadText) (defBody i_BadText) (defScope i_BadText) [] [] (He.fAd K ("BadText", some "__init__")) fdt := G.c.def_ 17 (d := ⟨("BadText", some "__init__"), "__init__", "BadText.__init__", defArgs i_BadText, defBody i_BadText, defScope i_BadText, [], []⟩) rfl
theorem Facts.ex_NoWall (G : Facts K mg base) : ExF K mg ((Ad K).ca 7) "NoWall" := exB_f G.e1 G.X G.G 7 (flds := ["what", "index"]) rfl
theorem Facts.ei_NoWall (G : Facts K mg base) : ExI K "NoWall" ["what", "index"] := exB_i G.e1 7 rfl
theorem Facts.di_NoWall (G : Facts K mg base) : ∃ fdt, FunD K "__init__" "NoWall.__init__" (defArgs i_NoWall) (defBody i_NoWall) (defScope i_NoWall) [] [] (He.fAd K ("NoWall", some "__init__")) fdt := G.c.def_ 18 (d := ⟨("NoWall", some "__init__"), "__init__", "NoWall.__init__", defArgs i_NoWall, defBody i_NoWall, defScope i_NoWall, [], []⟩) rfl
theorem Facts.ex_NoName (G : Facts K mg base) : ExF K mg ((Ad K).ca 8) "NoName" := exB_f G.e1 G.X G.G 8 (flds := ["name"]) rfl
theorem Facts.ei_NoName (G : Facts K mg base) : ExI K "NoName" ["name"] := exB_i G.e1 8 rfl
theorem Facts.di_NoName (G : Facts K mg base) : ∃ fdt, FunD K "__init__" "NoName.__init__" (defArgs i_NoName) (defBody i_NoName) (defScope i_NoName) [] [] (He.fAd K ("NoName", some "__init__")) fdt := G.c.def_ 19 (d := ⟨("NoName", some "__init__"), "__init__", "NoName.__init__", defArgs i_NoName, defBody i_NoName, defScope i_NoName, [], []⟩) rfl
theorem Facts.ex_TakenName (G : Facts K mg base) : ExF K mg ((Ad K).ca 9) "TakenName" := exB_f G.e1 G.X G.G 9 (flds := ["name"]) rfl
theorem Facts.ei_TakenName (G : Facts K mg base) : ExI K "TakenName" ["name"] := exB_i G.e1 9 rfl
theorem Facts.di_TakenName (G : Facts K mg base) : ∃ fdt, FunD K "__init__" "TakenName.__init__" (defArgs i_TakenName) (defBody i_TakenName) (defScope i_TakenName) [] [] (He.fAd K ("TakenName", some "__init__")) fdt := G.c.def_ 20 (d := ⟨("TakenName", some "__init__"), "__init__", "TakenName.__init__", defArgs i_TakenName, defBody i_TakenName, defScope i_TakenName, [], []⟩) rfl
theorem Facts.ex_Unlike (G : Facts K mg base) : ExF K mg ((Ad K).ca 10) "Unlike" := exB_f G.e1 G.X G.G 10 (flds := ["what"]) rfl
theorem Facts.ei_Unlike (G : Facts K mg base) : ExI K "Unlike" ["what"] := exB_i G.e1 10 rfl
theorem Facts.di_Unlike (G : Facts K mg base) : ∃ fdt, FunD K "__init__" "Unlike.__init__" (defArgs i_Unlike) (defBody i_Unlike) (defScope i_Unlike) [] [] (He.fAd K ("Unlike", some "__init__")) fdt := G.c.def_ 21 (d := ⟨("Unlike", some "__init__"), "__init__", "Unlike.__init__", defArgs i_Unlike, defBody i_Unlike, defScope i_Unlike, [], []⟩) rfl
theorem Facts.ex_NotFree (G : Facts K mg base) : ExF K mg ((Ad K).ca 11) "NotFree" := exB_f G.e1 G.X G.G 11 (flds := ["paper"]) rfl
theorem Facts.ei_NotFree (G : Facts K mg base) : ExI K "NotFree" ["paper"] := exB_i G.e1 11 rfl
theorem Facts.di_NotFree (G : Facts K mg base) : ∃ fdt, FunD K "__init__" "NotFree.__init__" (defArgs i_NotFree) (defBody i_NotFree) (defScope i_NotFree) [] [] (He.fAd K ("NotFree", some "__init__")) fdt := G.c.def_ 22 (d := ⟨("NotFree", some "__init__"), "__init__", "NotFree.__init__", defArgs i_NotFree, defBody i_NotFree, defScope i_NotFree, [], []⟩) rfl
theorem Facts.ex_TooMany (G : Facts K mg base) : ExF K mg ((Ad K).ca 12) "TooMany" := exB_f G.e1 G.X G.G 12 (flds := ["what", "many", "limit"]) rfl
theorem Facts.ei_TooMany (G : Facts K mg base) : ExI K "TooMany" ["what", "many", "limit"] := exB_i G.e1 12 rfl
theorem Facts.di_TooMany (G : Facts K mg base) : ∃ fdt, FunD K "__init__" "TooMany.__init__" (defArgs i_TooMany) (defBody i_TooMany) (defScope i_TooMany) [] [] (He.fAd K ("TooMany", some "__init__")) fdt := G.c.def_ 23 (d := ⟨("TooMany", some "__init__"), "__init__", "TooMany.__init__", defArgs i_TooMany, defBody i_TooMany, defScope i_TooMany, [], []⟩) rfl
theorem Facts.ex_NotKept (G : Facts K mg base) : ExF K mg ((Ad K).ca 13) "NotKept" := exB_f G.e1 G.X G.G 13 (flds := ["promise", "witness"]) rfl
theorem Facts.ei_NotKept (G : Facts K mg base) : ExI K "NotKept" ["promise", "witness"] := exB_i G.e1 13 rfl
theorem Facts.di_NotKept (G : Facts K mg base) : ∃ fdt, FunD K "__init__" "NotKept.__init__" (defArgs i_NotKept) (defBody i_NotKept) (defScope i_NotKept) [] [] (He.fAd K ("NotKept", some "__init__")) fdt := G.c.def_ 24 (d := ⟨("NotKept", some "__init__"), "__init__", "NotKept.__init__", defArgs i_NotKept, defBody i_NotKept, defScope i_NotKept, [], []⟩) rfl
theorem Facts.ex_NothingToUndo (G : Facts K mg base) : ExF K mg ((Ad K).ca 14) "NothingToUndo" := exB_f G.e1 G.X G.G 14 (flds := []) rfl
theorem Facts.e0_NothingToUndo (G : Facts K mg base) : PySem.W.excIn K ((Ad K).ca 14) He.veBase "ValueError.__new__" = true := exB_0 G.e1 14 rfl
theorem Facts.ex_NothingToRedo (G : Facts K mg base) : ExF K mg ((Ad K).ca 15) "NothingToRedo" := exB_f G.e1 G.X G.G 15 (flds := []) rfl
theorem Facts.e0_NothingToRedo (G : Facts K mg base) : PySem.W.excIn K ((Ad K).ca 15) He.veBase "ValueError.__new__" = true := exB_0 G.e1 15 rfl
theorem Facts.ex_WallsError (G : Facts K mg base) : ExF K mg ((Ad K).ca 16) "WallsError" := exB_f G.e1 G.X G.G 16 (flds := []) rfl
theorem Facts.e0_WallsError (G : Facts K mg base) : PySem.W.excIn K ((Ad K).ca 16) He.veBase "ValueError.__new__" = true := exB_0 G.e1 16 rfl
theorem Facts.exC (G : Facts K mg base) {c : Nat} (hc : c < 17) : ∃ y, ExF K mg ((Ad K).ca c) y := ⟨(exN.getD c ("", [])).1, exB_f G.e1 G.X G.G c (flds := (exN.getD c ("", [])).2) (by rw [List.getD_eq_getElem?_getD, List.getElem?_eq_getElem (show c < exN.length from hc)]; rfl)⟩
variable {P : Program} {w : World}
theorem sc_i_BadNumber : FnScope ["self", "what", "number"] ["self", "what", "number"] (defScope i_BadNumber) := ⟨rfl, rfl, rfl, by decide +kernel, rfl, by decide +kernel, by decide +kernel⟩
theorem init_BadNumber (G : Facts K mg base) : ∃ fdt, FunD K "__init__" "BadNumber.__init__" (defArgs i_BadNumber) (defBody i_BadNumber) (defScope i_BadNumber) [] [] (He.fAd K ("BadNumber", some "__init__")) fdt ∧ FnOk P w K mg base CX0 1 (He.fAd K ("BadNumber", some "__init__")) fdt ["self", "what", "number"] (spInit ((Ad K).ca 0) ["what", "number"]) := by
  obtain ⟨fdt, F⟩ := G.di_BadNumber
  refine ⟨fdt, F, F.ok sc_i_BadNumber (fun vs H Q E ⟨a, ws, h, hl, _⟩ => by rw [h, List.length_cons, hl]; rfl) fun cdv A outer s H vs Q E hr h => ⟨(tSeq (tOst K "what" (tVar 0) (tVar 1)) (tOst K "number" (tVar 0) (tVar 2))), ?_, init2 (G.ex_BadNumber).o ((G.ei_BadNumber).no "what" (by decide)) ((G.ei_BadNumber).no "number" (by decide)) h⟩⟩
  exact (pss_cons (ps_ost (pe_var (i := 0) rfl (Or.inl rfl)) (pe_var (i := 1) rfl (Or.inl rfl))) (pss_one (ps_ost (pe_var (i := 0) rfl (Or.inl rfl)) (pe_var (i := 2) rfl (Or.inl rfl)))))
theorem sc_i_BadRow : FnScope ["self", "what", "row"] ["self", "what", "row"] (defScope i_BadRow) := ⟨rfl, rfl, rfl, by decide +kernel, rfl, by decide +kernel, by decide +kernel⟩
theorem init_BadRow (G : Facts K mg base) : ∃ fdt, FunD K "__init__" "BadRow.__init__" (defArgs i_BadRow) (defBody i_BadRow) (defScope i_BadRow) [] [] (He.fAd K ("BadRow", some "__init__")) fdt ∧ FnOk P w K mg base CX0 1 (He.fAd K ("BadRow", some "__init__")) fdt ["self", "what", "row"] (spInit ((Ad K).ca 1) ["what", "row"]) := by
  obtain ⟨fdt, F⟩ := G.di_BadRow
  refine ⟨fdt, F, F.ok sc_i_BadRow (fun vs H Q E ⟨a, ws, h, hl, _⟩ => by rw [h, List.length_cons, hl]; rfl) fun cdv A outer s H vs Q E hr h => ⟨(tSeq (tOst K "what" (tVar 0) (tVar 1)) (tOst K "row" (tVar 0) (tVar 2))), ?_, init2 (G.ex_BadRow).o ((G.ei_BadRow).no "what" (by decide)) ((G.ei_BadRow).no "row" (by decide)) h⟩⟩
  exact (pss_cons (ps_ost (pe_var (i := 0) rfl (Or.inl rfl)) (pe_var (i := 1) rfl (Or.inl rfl))) (pss_one (ps_ost (pe_var (i := 0) rfl (Or.inl rfl)) (pe_var (i := 2) rfl (Or.inl rfl)))))
theorem sc_i_BadTable : FnScope ["self", "what"] ["self", "what"] (defScope i_BadTable) := ⟨rfl, rfl, rfl, by decide +kernel, rfl, by decide +kernel, by decide +kernel⟩
theorem init_BadTable (G : Facts K mg base) : ∃ fdt, FunD K "__init__" "BadTable.__init__" (defArgs i_BadTable) (defBody i_BadTable) (defScope i_BadTable) [] [] (He.fAd K ("BadTable", some "__init__")) fdt ∧ FnOk P w K mg base CX0 1 (He.fAd K ("BadTable", some "__init__")) fdt ["self", "what"] (spInit ((Ad K).ca 2) ["what"]) := by
  obtain ⟨fdt, F⟩ := G.di_BadTable
  refine ⟨fdt, F, F.ok sc_i_BadTable (fun vs H Q E ⟨a, ws, h, hl, _⟩ => by rw [h, List.length_cons, hl]; rfl) fun cdv A outer s H vs Q E hr h => ⟨(tOst K "what" (tVar 0) (tVar 1)), ?_, init1 (G.ex_BadTable).o ((G.ei_BadTable).no "what" (by decide)) h⟩⟩
  exact (pss_one (ps_ost (pe_var (i := 0) rfl (Or.inl rfl)) (pe_var (i := 1) rfl (Or.inl rfl))))
theorem sc_i_BadForm : FnScope ["self", "what"] ["self", "what"] (defScope i_BadForm) := ⟨rfl, rfl, rfl, by decide +kernel, rfl, by decide +kernel, by decide +kernel⟩
theorem init_BadForm (G : Facts K mg base) : ∃ fdt, FunD K "__init__" "BadForm.__init__" (defArgs i_BadForm) (defBody i_BadForm) (defScope i_BadForm) [] [] (He.fAd K ("BadForm", some "__init__")) fdt ∧ FnOk P w K mg base CX0 1 (He.fAd K ("BadForm", some "__init__")) fdt ["self", "what"] (spInit ((Ad K).ca 3) ["what"]) := by
  obtain ⟨fdt, F⟩ := G.di_BadForm
  refine ⟨fdt, F, F.ok sc_i_BadForm (fun vs H Q E ⟨a, ws, h, hl, _⟩ => by rw [h, List.length_cons, hl]; rfl) fun cdv A outer s H vs Q E hr h => ⟨(tOst K "what" (tVar 0) (tVar 1)), ?_, init1 (G.ex_BadForm).o ((G.ei_BadForm).no "what" (by decide)) h⟩⟩
  exact (pss_one (ps_ost (pe_var (i := 0) rfl (Or.inl rfl)) (pe_var (i := 1) rfl (Or.inl rfl))))
theorem sc_i_BadLot : FnScope ["self", "what", "lot"] ["self", "what", "lot"] (defScope i_BadLot) := ⟨rfl, rfl, rfl, by decide +kernel, rfl, by decide +kernel, by decide +kernel⟩
theorem init_BadLot (G : Facts K mg base) : ∃ fdt, FunD K "__init__" "BadLot.__init__" (defArgs i_BadLot) (defBody i_BadLot) (defScope i_BadLot) [] [] (He.fAd K ("BadLot", some "__init__")) fdt ∧ FnOk P w K mg base CX0 1 (He.fAd K ("BadLot", some "__init__")) fdt ["self", "what", "lot"] (spInit ((Ad K).ca 4) ["what", "lot"]) := by
  obtain ⟨fdt, F⟩ := G.di_BadLot
  refine ⟨fdt, F, F.ok sc_i_BadLot (fun vs H Q E ⟨a, ws, h, hl, _⟩ => by rw [h, List.length_cons, hl]; rfl) fun cdv A outer s H vs Q E hr h => ⟨(tSeq (tOst K "what" (tVar 0) (tVar 1)) (tOst K "lot" (tVar 0) (tVar 2))), ?_, init2 (G.ex_BadLot).o ((G.ei_BadLot).no "what" (by decide)) ((G.ei_BadLot).no "lot" (by decide)) h⟩⟩
  exact (pss_cons (ps_ost (pe_var (i := 0) rfl (Or.inl rfl)) (pe_var (i := 1) rfl (Or.inl rfl))) (pss_one (ps_ost (pe_var (i := 0) rfl (Or.inl rfl)) (pe_var (i := 2) rfl (Or.inl rfl)))))
theorem sc_i_BadName : FnScope ["self", "name"] ["self", "name"] (defScope i_BadName) := ⟨rfl, rfl, rfl, by decide +kernel, rfl, by decide +kernel, by decide +kernel⟩
theorem init_BadName (G : Facts K mg base) : ∃ fdt, FunD K "__init__" "BadName.__init__" (defArgs i_BadName) (defBody i_BadName) (defScope i_BadName) [] [] (He.fAd K ("BadName", some "__init__")) fdt ∧ FnOk P w K mg base CX0 1 (He.fAd K ("BadName", some "__init__")) fdt ["self", "name"] (spInit ((Ad K).ca 5) ["name"]) := by
  obtain ⟨fdt, F⟩ := G.di_BadName
  refine ⟨fdt, F, F.ok sc_i_BadName (fun vs H Q E ⟨a, ws, h, hl, _⟩ => by rw [h, List.length_cons, hl]; rfl) fun cdv A outer s H vs Q E hr h => ⟨(tOst K "name" (tVar 0) (tVar 1)), ?_, init1 (G.ex_BadName).o ((G.ei_BadName).no "name" (by decide)) h⟩⟩
  exact (pss_one (ps_ost (pe_var (i := 0) rfl (Or.inl rfl)) (pe_var (i := 1) rfl (Or.inl rfl))))
theorem sc_i_BadText : FnScope ["self", "line", "word"] ["self", "line", "word"] (defScope i_BadText) := ⟨rfl, rfl, rfl, by decide +kernel, rfl, by decide +kernel, by decide +kernel⟩
theorem init_BadText (G : Facts K mg base) : ∃ fdt, FunD K "__init__" "BadText.__init__" (defArgs i_BadText) (defBody i_BadText) (defScope i_BadText) [] [] (He.fAd K ("BadText", some "__init__")) fdt ∧ FnOk P w K mg base CX0 1 (He.fAd K ("BadText", some "__init__")) fdt ["self", "line", "word"] (spInit ((Ad K).ca 6) ["line", "word"]) := by
  obtain ⟨fdt, F⟩ := G.di_BadText
  refine ⟨fdt, F, F.ok sc_i_BadText (fun vs H Q E ⟨a, ws, h, hl, _⟩ => by rw [h, List.length_cons, hl]; rfl) fun cdv A outer s H vs Q E hr h => ⟨(tSeq (tOst K "line" (tVar 0) (tVar 1)) (tOst K "word" (tVar 0) (tVar 2))), ?_, init2 (G.ex_BadText).o ((G.ei_BadText).no "line" (by decide)) ((G.ei_BadText).no "word" (by decide)) h⟩⟩
  exact (pss_cons (ps_ost (pe_var (i := 0) rfl (Or.inl rfl)) (pe_var (i := 1) rfl (Or.inl rfl))) (pss_one (ps_ost (pe_var (i := 0) rfl (Or.inl rfl)) (pe_var (i := 2) rfl (Or.inl rfl)))))
theorem sc_i_NoWall : FnScope ["self", "what", "index"] ["self", "what", "index"] (defScope i_NoWall) := ⟨rfl, rfl, rfl, by decide +kernel, rfl, by decide +kernel, by decide +kernel⟩
theorem init_NoWall (G : Facts K mg base) : ∃ fdt, FunD K "__init__" "NoWall.__init__" (defArgs i_NoWall) (defBody i_NoWall) (defScope i_NoWall) [] [] (He.fAd K ("NoWall", some "__init__")) fdt ∧ FnOk P w K mg base CX0 1 (He.fAd K ("NoWall", some "__init__")) fdt ["self", "what", "index"] (spInit ((Ad K).ca 7) ["what", "index"]) := by
  obtain ⟨fdt, F⟩ := G.di_NoWall
  refine ⟨fdt, F, F.ok sc_i_NoWall (fun vs H Q E ⟨a, ws, h, hl, _⟩ => by rw [h, List.length_cons, hl]; rfl) fun cdv A outer s H vs Q E hr h => ⟨(tSeq (tOst K "what" (tVar 0) (tVar 1)) (tOst K "index" (tVar 0) (tVar 2))), ?_, init2 (G.ex_NoWall).o ((G.ei_NoWall).no "what" (by decide)) ((G.ei_NoWall).no "index" (by decide)) h⟩⟩
  exact (pss_cons (ps_ost (pe_var (i := 0) rfl (Or.inl rfl)) (pe_var (i := 1) rfl (Or.inl rfl))) (pss_one (ps_ost (pe_var (i := 0) rfl (Or.inl rfl)) (pe_var (i := 2) rfl (Or.inl rfl)))))
theorem sc_i_NoName : FnScope ["self", "name"] ["self", "name"] (defScope i_NoName) := ⟨rfl, rfl, rfl, by decide +kernel, rfl, by decide +kernel, by decide +kernel⟩
theorem init_NoName (G : Facts K mg base) : ∃ fdt, FunD K "__init__" "NoName.__init__" (defArgs i_NoName) (defBody i_NoName) (defScope i_NoName) [] [] (He.fAd K ("NoName", some "__init__")) fdt ∧ FnOk P w K mg base CX0 1 (He.fAd K ("NoName", some "__init__")) fdt ["self", "name"] (spInit ((Ad K).ca 8) ["name"]) := by
  obtain ⟨fdt, F⟩ := G.di_NoName
  refine ⟨fdt, F, F.ok sc_i_NoName (fun vs H Q E ⟨a, ws, h, hl, _⟩ => by rw [h, List.length_cons, hl]; rfl) fun cdv A outer s H vs Q E hr h => ⟨(tOst K "name" (tVar 0) (tVar 1)), ?_, init1 (G.ex_NoName).o ((G.ei_NoName).no "name" (by decide)) h⟩⟩
  exact (pss_one (ps_ost (pe_var (i := 0) rfl (Or.inl rfl)) (pe_var (i := 1) rfl (Or.inl rfl))))
theorem sc_i_TakenName : FnScope ["self", "name"] ["self", "name"] (defScope i_TakenName) := ⟨rfl, rfl, rfl, by decide +kernel, rfl, by decide +kernel, by decide +kernel⟩
theorem init_TakenName (G : Facts K mg base) : ∃ fdt, FunD K "__init__" "TakenName.__init__" (defArgs i_TakenName) (defBody i_TakenName) (defScope i_TakenName) [] [] (He.fAd K ("TakenName", some "__init__")) fdt ∧ FnOk P w K mg base CX0 1 (He.fAd K ("TakenName", some "__init__")) fdt ["self", "name"] (spInit ((Ad K).ca 9) ["name"]) := by
  obtain ⟨fdt, F⟩ := G.di_TakenName
  refine ⟨fdt, F, F.ok sc_i_TakenName (fun vs H Q E ⟨a, ws, h, hl, _⟩ => by rw [h, List.length_cons, hl]; rfl) fun cdv A outer s H vs Q E hr h => ⟨(tOst K "name" (tVar 0) (tVar 1)), ?_, init1 (G.ex_TakenName).o ((G.ei_TakenName).no "name" (by decide)) h⟩⟩
  exact (pss_one (ps_ost (pe_var (i := 0) rfl (Or.inl rfl)) (pe_var (i := 1) rfl (Or.inl rfl))))
theorem sc_i_Unlike : FnScope ["self", "what"] ["self", "what"] (defScope i_Unlike) := ⟨rfl, rfl, rfl, by decide +kernel, rfl, by decide +kernel, by decide +kernel⟩
theorem init_Unlike (G : Facts K mg base) : ∃ fdt, FunD K "__init__" "Unlike.__init__" (defArgs i_Unlike) (defBody i_Unlike) (defScope i_Unlike) [] [] (He.fAd K ("Unlike", some "__init__")) fdt ∧ FnOk P w K mg base CX0 1 (He.fAd K ("Unlike", some "__init__")) fdt ["self", "what"] (spInit ((Ad K).ca 10) ["what"]) := by
  obtain ⟨fdt, F⟩ := G.di_Unlike
  refine ⟨fdt, F, F.ok sc_i_Unlike (fun vs H Q E ⟨a, ws, h, hl, _⟩ => by rw [h, List.length_cons, hl]; rfl) fun cdv A outer s H vs Q E hr h => ⟨(tOst K "what" (tVar 0) (tVar 1)), ?_, init1 (G.ex_Unlike).o ((G.ei_Unlike).no "what" (by decide)) h⟩⟩
  exact (pss_one (ps_ost (pe_var (i := 0) rfl (Or.inl rfl)) (pe_var (i := 1) rfl (Or.inl rfl))))
theorem sc_i_NotFree : FnScope ["self", "paper"] ["self", "paper"] (defScope i_NotFree) := ⟨rfl, rfl, rfl, by decide +kernel, rfl, by decide +kernel, by decide +kernel⟩
theorem init_NotFree (G : Facts K mg base) : ∃ fdt, FunD K "__init__" "NotFree.__init__" (defArgs i_NotFree) (defBody i_NotFree) (defScope i_NotFree) [] [] (He.fAd K ("NotFree", some "__init__")) fdt ∧ FnOk P w K mg base CX0 1 (He.fAd K ("NotFree", some "__init__")) fdt ["self", "paper"] (spInit ((Ad K).ca 11) ["paper"]) := by
  obtain ⟨fdt, F⟩ := G.di_NotFree
  refine ⟨fdt, F, F.ok sc_i_NotFree (fun vs H Q E ⟨a, ws, h, hl, _⟩ => by rw [h, List.length_cons, hl]; rfl) fun cdv A outer s H vs Q E hr h => ⟨(tOst K "paper" (tVar 0) (tVar 1)), ?_, init1 (G.ex_NotFree).o ((G.ei_NotFree).no "paper" (by decide)) h⟩⟩
  exact (pss_one (ps_ost (pe_var (i := 0) rfl (Or.inl rfl)) (pe_var (i := 1) rfl (Or.inl rfl))))
theorem sc_i_TooMany : FnScope ["self", "what", "many", "limit"] ["self", "what", "many", "limit"] (defScope i_TooMany) := ⟨rfl, rfl, rfl, by decide +kernel, rfl, by decide +kernel, by decide +kernel⟩
theorem init_TooMany (G : Facts K mg base) : ∃ fdt, FunD K "__init__" "TooMany.__init__" (defArgs i_TooMany) (defBody i_TooMany) (defScope i_TooMany) [] [] (He.fAd K ("TooMany", some "__init__")) fdt ∧ FnOk P w K mg base CX0 1 (He.fAd K ("TooMany", some "__init__")) fdt ["self", "what", "many", "limit"] (spInit ((Ad K).ca 12) ["what", "many", "limit"]) := by
  obtain ⟨fdt, F⟩ := G.di_TooMany
  refine ⟨fdt, F, F.ok sc_i_TooMany (fun vs H Q E ⟨a, ws, h, hl, _⟩ => by rw [h, List.length_cons, hl]; rfl) fun cdv A outer s H vs Q E hr h => ⟨(tSeq (tOst K "what" (tVar 0) (tVar 1)) (tSeq (tOst K "many" (tVar 0) (tVar 2)) (tOst K "limit" (tVar 0) (tVar 3)))), ?_, init3 (G.ex_TooMany).o ((G.ei_TooMany).no "what" (by decide)) ((G.ei_TooMany).no "many" (by decide)) ((G.ei_TooMany).no "limit" (by decide)) h⟩⟩
  exact (pss_cons (ps_ost (pe_var (i := 0) rfl (Or.inl rfl)) (pe_var (i := 1) rfl (Or.inl rfl))) (pss_cons (ps_ost (pe_var (i := 0) rfl (Or.inl rfl)) (pe_var (i := 2) rfl (Or.inl rfl))) (pss_one (ps_ost (pe_var (i := 0) rfl (Or.inl rfl)) (pe_var (i := 3) rfl (Or.inl rfl))))))
theorem sc_i_NotKept : FnScope ["self", "promise", "witness"] ["self", "promise", "witness"] (defScope i_NotKept) := ⟨rfl, rfl, rfl, by decide +kernel, rfl, by decide +kernel, by decide +kernel⟩
theorem init_NotKept (G : Facts K mg base) : ∃ fdt, FunD K "__init__" "NotKept.__init__" (defArgs i_NotKept) (defBody i_NotKept) (defScope i_NotKept) [] [] (He.fAd K ("NotKept", some "__init__")) fdt ∧ FnOk P w K mg base CX0 1 (He.fAd K ("NotKept", some "__init__")) fdt ["self", "promise", "witness"] (spInit ((Ad K).ca 13) ["promise", "witness"]) := by
  obtain ⟨fdt, F⟩ := G.di_NotKept
  refine ⟨fdt, F, F.ok sc_i_NotKept (fun vs H Q E ⟨a, ws, h, hl, _⟩ => by rw [h, List.length_cons, hl]; rfl) fun cdv A outer s H vs Q E hr h => ⟨(tSeq (tOst K "promise" (tVar 0) (tVar 1)) (tOst K "witness" (tVar 0) (tVar 2))), ?_, init2 (G.ex_NotKept).o ((G.ei_NotKept).no "promise" (by decide)) ((G.ei_NotKept).no "witness" (by decide)) h⟩⟩
  exact (pss_cons (ps_ost (pe_var (i := 0) rfl (Or.inl rfl)) (pe_var (i := 1) rfl (Or.inl rfl))) (pss_one (ps_ost (pe_var (i := 0) rfl (Or.inl rfl)) (pe_var (i := 2) rfl (Or.inl rfl)))))
end
section
variable {P : Program} {w : World} {K : PySem.W.Frag} {mg : Str → Option Value} {base : Heap}
abbrev N__law_pen : List Str := ["script", "fold", "cell"]
theorem sc__law_pen : FnScope N__law_pen ["script"] (defScope s__law_pen) := ⟨rfl, rfl, rfl, by decide +kernel, rfl, by decide +kernel, by decide +kernel⟩
def m__law_pen : SX := (sSeq (sSet 1 (mC (.int 0))) (sSeq (sFor (mItems (mV 0)) (gN 2) (sSeq (sSet 1 (m2 dMod (mInt (m2 dAdd (m2 dMul (mW 1) (mC (.int 47))) (mW 2))) (mC (.int 1000000007)))) sNil)) (sSeq (sRet (mPen (mDisp ["cells", "at", "digits", "count", "fold"] (mCons (mLstc (mW 0)) (mCons (mC (.int 0)) (mCons (mC (.int 0)) (mCons (mC (.int 0)) (mCons (mV 1) mNil)))))))) sNil)))
abbrev φ__law_pen : FD := fd 3 m__law_pen
theorem ok__law_pen (G : Facts K mg base) : ∃ fdt, FunD K "_law_pen" "_law_pen" (defArgs s__law_pen) (defBody s__law_pen) (defScope s__law_pen) [] [] (He.fAd K ("_law_pen", none)) fdt ∧ FnM P w K mg base 1 (He.fAd K ("_law_pen", none)) fdt ["script"] (spI K (Ad K) 1 φ__law_pen) := by
  obtain ⟨fdt, F⟩ := G.d__law_pen
  refine ⟨fdt, F, fnM_ok (k := 0) (m := m__law_pen) F sc__law_pen rfl rfl rfl fun cdv B outer s H E hgd hr => ?_⟩
  exact (sss_cons (ss_set 1 se_int sc__law_pen.nd) (sss_cons (ss_for (passes_of rfl) rfl (si_seq (se_v 0)) (sg_n 2 sc__law_pen.nd) (sss_cons (ss_set 1 (se_mod (sb_of (se_intc (G.fr_int) (sb_of (se_add (sb_of (se_mul (sb_v 1) (sb_of se_int))) (sb_v 2))))) (sb_of se_int)) sc__law_pen.nd) sss_nil)) (sss_cons (ss_ret (se_pen (so_disp (sps_cons (se_so (so_lstc (G.fr_list) (sb_v 0))) (sps_cons se_int (sps_cons se_int (sps_cons se_int (sps_cons (se_v 1) sps_nil)))))))) sss_nil)))
abbrev N__law_raised : List Str := ["kind", "one", "two"]
theorem sc__law_raised : FnScope N__law_raised ["kind", "one", "two"] (defScope s__law_raised) := ⟨rfl, rfl, rfl, by decide +kernel, rfl, by decide +kernel, by decide +kernel⟩
def m__law_raised : SX := (sSeq (sIf (mT (m2 dEq (mW 0) (mC (.int 0)))) (sSeq (sRaise 0 ["what", "number"] (mCons (mV 1) (mCons (mV 2) mNil))) sNil) sNil) (sSeq (sIf (mT (m2 dEq (mW 0) (mC (.int 1)))) (sSeq (sRaise 1 ["what", "row"] (mCons (mV 1) (mCons (mV 2) mNil))) sNil) sNil) (sSeq (sIf (mT (m2 dEq (mW 0) (mC (.int 2)))) (sSeq (sRaise 2 ["what"] (mCons (mV 1) mNil)) sNil) sNil) (sSeq (sIf (mT (m2 dEq (mW 0) (mC (.int 3)))) (sSeq (sRaise 3 ["what"] (mCons (mV 1) mNil)) sNil) sNil) (sSeq (sIf (mT (m2 dEq (mW 0) (mC (.int 4)))) (sSeq (sRaise 4 ["what", "lot"] (mCons (mV 1) (mCons (mV 2) mNil))) sNil) sNil) (sSeq (sIf (mT (m2 dEq (mW 0) (mC (.int 5)))) (sSeq (sRaise 5 ["name"] (mCons (mV 1) mNil)) sNil) sNil) (sSeq (sIf (mT (m2 dEq (mW 0) (mC (.int 6)))) (sSeq (sRaise 6 ["line", "word"] (mCons (mV 1) (mCons (mV 2) mNil))) sNil) sNil) (sSeq (sIf (mT (m2 dEq (mW 0) (mC (.int 7)))) (sSeq (sRaise 7 ["what", "index"] (mCons (mV 1) (mCons (mV 2) mNil))) sNil) sNil) sNil))))))))
abbrev φ__law_raised : FD := fd 3 m__law_raised
theorem ok__law_raised (G : Facts K mg base) : ∃ fdt, FunD K "_law_raised" "_law_raised" (defArgs s__law_raised) (defBody s__law_raised) (defScope s__law_raised) [] [] (He.fAd K ("_law_raised", none)) fdt ∧ FnM P w K mg base 3 (He.fAd K ("_law_raised", none)) fdt ["kind", "one", "two"] (spI K (Ad K) 3 φ__law_raised) := by
  obtain ⟨fdt, F⟩ := G.d__law_raised
  obtain ⟨fd_BadNumber, F_BadNumber, I_BadNumber⟩ := init_BadNumber (P := P) (w := w) G
  have b_BadNumber : L2.Binds K fd_BadNumber ["self", "what", "number"] [] := FunD.bindsN F_BadNumber fun _ _ _ _ _ _ us hl => match us, hl with | [_, _, _], _ => rfl
  obtain ⟨fd_BadRow, F_BadRow, I_BadRow⟩ := init_BadRow (P := P) (w := w) G
  have b_BadRow : L2.Binds K fd_BadRow ["self", "what", "row"] [] := FunD.bindsN F_BadRow fun _ _ _ _ _ _ us hl => match us, hl with | [_, _, _], _ => rfl
  obtain ⟨fd_BadTable, F_BadTable, I_BadTable⟩ := init_BadTable (P := P) (w := w) G
  have b_BadTable : L2.Binds K fd_BadTable ["self", "what"] [] := FunD.bindsN F_BadTable fun _ _ _ _ _ _ us hl => match us, hl with | [_, _], _ => rfl
  obtain ⟨fd_BadForm, F_BadForm, I_BadForm⟩ := init_BadForm (P := P) (w := w) G
  have b_BadForm : L2.Binds K fd_BadForm ["self", "what"] [] := FunD.bindsN F_BadForm fun _ _ _ _ _ _ us hl => match us, hl with | [_, _], _ => rfl
  obtain ⟨fd_BadLot, F_BadLot, I_BadLot⟩ := init_BadLot (P := P) (w := w) G
  have b_BadLot : L2.Binds K fd_BadLot ["self", "what", "lot"] [] := FunD.bindsN F_BadLot fun _ _ _ _ _ _ us hl => match us, hl with | [_, _, _], _ => rfl
  obtain ⟨fd_BadName, F_BadName, I_BadName⟩ := init_BadName (P := P) (w := w) G
  have b_BadName : L2.Binds K fd_BadName ["self", "name"] [] := FunD.bindsN F_BadName fun _ _ _ _ _ _ us hl => match us, hl with | [_, _], _ => rfl
  obtain ⟨fd_BadText, F_BadText, I_BadText⟩ := init_BadText (P := P) (w := w) G
  have b_BadText : L2.Binds K fd_BadText ["self", "line", "word"] [] := FunD.bindsN F_BadText fun _ _ _ _ _ _ us hl => match us, hl with | [_, _, _], _ => rfl
  obtain ⟨fd_NoWall, F_NoWall, I_NoWall⟩ := init_NoWall (P := P) (w := w) G
  have b_NoWall : L2.Binds K fd_NoWall ["self", "what", "index"] [] := FunD.bindsN F_NoWall fun _ _ _ _ _ _ us hl => match us, hl with | [_, _, _], _ => rfl
  refine ⟨fdt, F, fnM_ok (k := 2) (m := m__law_raised) F sc__law_raised rfl rfl rfl fun cdv B outer s H E hgd hr => ?_⟩
  exact (sss_cons (ss_if (st_eq (room_h1 hr) (sb_v 0) (sb_of se_int)) (sss_cons (ss_raise rfl (G.ex_BadNumber) (G.ei_BadNumber).iC (G.ei_BadNumber).tI I_BadNumber (hr.mono (by decide)) b_BadNumber rfl (sa_cons (se_v 1) (sa_cons (se_v 2) sa_nil))) sss_nil) sss_nil) (sss_cons (ss_if (st_eq (room_h1 hr) (sb_v 0) (sb_of se_int)) (sss_cons (ss_raise rfl (G.ex_BadRow) (G.ei_BadRow).iC (G.ei_BadRow).tI I_BadRow (hr.mono (by decide)) b_BadRow rfl (sa_cons (se_v 1) (sa_cons (se_v 2) sa_nil))) sss_nil) sss_nil) (sss_cons (ss_if (st_eq (room_h1 hr) (sb_v 0) (sb_of se_int)) (sss_cons (ss_raise rfl (G.ex_BadTable) (G.ei_BadTable).iC (G.ei_BadTable).tI I_BadTable (hr.mono (by decide)) b_BadTable rfl (sa_cons (se_v 1) sa_nil)) sss_nil) sss_nil) (sss_cons (ss_if (st_eq (room_h1 hr) (sb_v 0) (sb_of se_int)) (sss_cons (ss_raise rfl (G.ex_BadForm) (G.ei_BadForm).iC (G.ei_BadForm).tI I_BadForm (hr.mono (by decide)) b_BadForm rfl (sa_cons (se_v 1) sa_nil)) sss_nil) sss_nil) (sss_cons (ss_if (st_eq (room_h1 hr) (sb_v 0) (sb_of se_int)) (sss_cons (ss_raise rfl (G.ex_BadLot) (G.ei_BadLot).iC (G.ei_BadLot).tI I_BadLot (hr.mono (by decide)) b_BadLot rfl (sa_cons (se_v 1) (sa_cons (se_v 2) sa_nil))) sss_nil) sss_nil) (sss_cons (ss_if (st_eq (room_h1 hr) (sb_v 0) (sb_of se_int)) (sss_cons (ss_raise rfl (G.ex_BadName) (G.ei_BadName).iC (G.ei_BadName).tI I_BadName (hr.mono (by decide)) b_BadName rfl (sa_cons (se_v 1) sa_nil)) sss_nil) sss_nil) (sss_cons (ss_if (st_eq (room_h1 hr) (sb_v 0) (sb_of se_int)) (sss_cons (ss_raise rfl (G.ex_BadText) (G.ei_BadText).iC (G.ei_BadText).tI I_BadText (hr.mono (by decide)) b_BadText rfl (sa_cons (se_v 1) (sa_cons (se_v 2) sa_nil))) sss_nil) sss_nil) (sss_cons (ss_if (st_eq (room_h1 hr) (sb_v 0) (sb_of se_int)) (sss_cons (ss_raise rfl (G.ex_NoWall) (G.ei_NoWall).iC (G.ei_NoWall).tI I_NoWall (hr.mono (by decide)) b_NoWall rfl (sa_cons (se_v 1) (sa_cons (se_v 2) sa_nil))) sss_nil) sss_nil) sss_nil))))))))
abbrev N__law_raised_too : List Str := ["kind", "one", "two", "three"]
theorem sc__law_raised_too : FnScope N__law_raised_too ["kind", "one", "two", "three"] (defScope s__law_raised_too) := ⟨rfl, rfl, rfl, by decide +kernel, rfl, by decide +kernel, by decide +kernel⟩
def m__law_raised_too : SX := (sSeq (sIf (mT (m2 dEq (mW 0) (mC (.int 8)))) (sSeq (sRaise 8 ["name"] (mCons (mV 1) mNil)) sNil) sNil) (sSeq (sIf (mT (m2 dEq (mW 0) (mC (.int 9)))) (sSeq (sRaise 9 ["name"] (mCons (mV 1) mNil)) sNil) sNil) (sSeq (sIf (mT (m2 dEq (mW 0) (mC (.int 10)))) (sSeq (sRaise 10 ["what"] (mCons (mV 1) mNil)) sNil) sNil) (sSeq (sIf (mT (m2 dEq (mW 0) (mC (.int 11)))) (sSeq (sRaise 11 ["paper"] (mCons (mV 1) mNil)) sNil) sNil) (sSeq (sIf (mT (m2 dEq (mW 0) (mC (.int 12)))) (sSeq (sRaise 12 ["what", "many", "limit"] (mCons (mV 1) (mCons (mV 2) (mCons (mV 3) mNil)))) sNil) sNil) (sSeq (sIf (mT (m2 dEq (mW 0) (mC (.int 13)))) (sSeq (sRaise 13 ["promise", "witness"] (mCons (mV 1) (mCons (mV 2) mNil))) sNil) sNil) (sSeq (sIf (mT (m2 dEq (mW 0) (mC (.int 14)))) (sSeq (sRaise0 14) sNil) sNil) (sSeq (sIf (mT (m2 dEq (mW 0) (mC (.int 15)))) (sSeq (sRaise0 15) sNil) sNil) sNil))))))))
abbrev φ__law_raised_too : FD := fd 4 m__law_raised_too
theorem ok__law_raised_too (G : Facts K mg base) : ∃ fdt, FunD K "_law_raised_too" "_law_raised_too" (defArgs s__law_raised_too) (defBody s__law_raised_too) (defScope s__law_raised_too) [] [] (He.fAd K ("_law_raised_too", none)) fdt ∧ FnM P w K mg base 3 (He.fAd K ("_law_raised_too", none)) fdt ["kind", "one", "two", "three"] (spI K (Ad K) 4 φ__law_raised_too) := by
  obtain ⟨fdt, F⟩ := G.d__law_raised_too
  obtain ⟨fd_NoName, F_NoName, I_NoName⟩ := init_NoName (P := P) (w := w) G
  have b_NoName : L2.Binds K fd_NoName ["self", "name"] [] := FunD.bindsN F_NoName fun _ _ _ _ _ _ us hl => match us, hl with | [_, _], _ => rfl
  obtain ⟨fd_TakenName, F_TakenName, I_TakenName⟩ := init_TakenName (P := P) (w := w) G
  have b_TakenName : L2.Binds K fd_TakenName ["self", "name"] [] := FunD.bindsN F_TakenName fun _ _ _ _ _ _ us hl => match us, hl with | [_, _], _ => rfl
  obtain ⟨fd_Unlike, F_Unlike, I_Unlike⟩ := init_Unlike (P := P) (w := w) G
  have b_Unlike : L2.Binds K fd_Unlike ["self", "what"] [] := FunD.bindsN F_Unlike fun _ _ _ _ _ _ us hl => match us, hl with | [_, _], _ => rfl
  obtain ⟨fd_NotFree, F_NotFree, I_NotFree⟩ := init_NotFree (P := P) (w := w) G
  have b_NotFree : L2.Binds K fd_NotFree ["self", "paper"] [] := FunD.bindsN F_NotFree fun _ _ _ _ _ _ us hl => match us, hl with | [_, _], _ => rfl
  obtain ⟨fd_TooMany, F_TooMany, I_TooMany⟩ := init_TooMany (P := P) (w := w) G
  have b_TooMany : L2.Binds K fd_TooMany ["self", "what", "many", "limit"] [] := FunD.bindsN F_TooMany fun _ _ _ _ _ _ us hl => match us, hl with | [_, _, _, _], _ => rfl
  obtain ⟨fd_NotKept, F_NotKept, I_NotKept⟩ := init_NotKept (P := P) (w := w) G
  have b_NotKept : L2.Binds K fd_NotKept ["self", "promise", "witness"] [] := FunD.bindsN F_NotKept fun _ _ _ _ _ _ us hl => match us, hl with | [_, _, _], _ => rfl
  refine ⟨fdt, F, fnM_ok (k := 2) (m := m__law_raised_too) F sc__law_raised_too rfl rfl rfl fun cdv B outer s H E hgd hr => ?_⟩
  exact (sss_cons (ss_if (st_eq (room_h1 hr) (sb_v 0) (sb_of se_int)) (sss_cons (ss_raise rfl (G.ex_NoName) (G.ei_NoName).iC (G.ei_NoName).tI I_NoName (hr.mono (by decide)) b_NoName rfl (sa_cons (se_v 1) sa_nil)) sss_nil) sss_nil) (sss_cons (ss_if (st_eq (room_h1 hr) (sb_v 0) (sb_of se_int)) (sss_cons (ss_raise rfl (G.ex_TakenName) (G.ei_TakenName).iC (G.ei_TakenName).tI I_TakenName (hr.mono (by decide)) b_TakenName rfl (sa_cons (se_v 1) sa_nil)) sss_nil) sss_nil) (sss_cons (ss_if (st_eq (room_h1 hr) (sb_v 0) (sb_of se_int)) (sss_cons (ss_raise rfl (G.ex_Unlike) (G.ei_Unlike).iC (G.ei_Unlike).tI I_Unlike (hr.mono (by decide)) b_Unlike rfl (sa_cons (se_v 1) sa_nil)) sss_nil) sss_nil) (sss_cons (ss_if (st_eq (room_h1 hr) (sb_v 0) (sb_of se_int)) (sss_cons (ss_raise rfl (G.ex_NotFree) (G.ei_NotFree).iC (G.ei_NotFree).tI I_NotFree (hr.mono (by decide)) b_NotFree rfl (sa_cons (se_v 1) sa_nil)) sss_nil) sss_nil) (sss_cons (ss_if (st_eq (room_h1 hr) (sb_v 0) (sb_of se_int)) (sss_cons (ss_raise rfl (G.ex_TooMany) (G.ei_TooMany).iC (G.ei_TooMany).tI I_TooMany (hr.mono (by decide)) b_TooMany rfl (sa_cons (se_v 1) (sa_cons (se_v 2) (sa_cons (se_v 3) sa_nil)))) sss_nil) sss_nil) (sss_cons (ss_if (st_eq (room_h1 hr) (sb_v 0) (sb_of se_int)) (sss_cons (ss_raise rfl (G.ex_NotKept) (G.ei_NotKept).iC (G.ei_NotKept).tI I_NotKept (hr.mono (by decide)) b_NotKept rfl (sa_cons (se_v 1) (sa_cons (se_v 2) sa_nil))) sss_nil) sss_nil) (sss_cons (ss_if (st_eq (room_h1 hr) (sb_v 0) (sb_of se_int)) (sss_cons (ss_raise0 rfl (G.ex_NothingToUndo) PySem.F.excBase_ValueError (G.e0_NothingToUndo) rfl) sss_nil) sss_nil) (sss_cons (ss_if (st_eq (room_h1 hr) (sb_v 0) (sb_of se_int)) (sss_cons (ss_raise0 rfl (G.ex_NothingToRedo) PySem.F.excBase_ValueError (G.e0_NothingToRedo) rfl) sss_nil) sss_nil) sss_nil))))))))
abbrev N__law_more_kinds : List Str := ["e", "found"]
theorem sc__law_more_kinds : FnScope N__law_more_kinds ["e"] (defScope s__law_more_kinds) := ⟨rfl, rfl, rfl, by decide +kernel, rfl, by decide +kernel, by decide +kernel⟩
def m__law_more_kinds (a : Addr) (od : Option Addr) (c : Nat) : SX := (sSeq (sOwn 1 (mLst mNil)) (sSeq (sIf (mTru (mIsx 0 a od (subE 17 c 8))) (sSeq (sDropF (fApp 1 (fOf (mTup (mCons (mC (.str "noname")) (mCons (m1 dRepr (mXfld 0 a od "name")) mNil)))))) sNil) sNil) (sSeq (sIf (mTru (mIsx 0 a od (subE 17 c 9))) (sSeq (sDropF (fApp 1 (fOf (mTup (mCons (mC (.str "taken")) (mCons (m1 dRepr (mXfld 0 a od "name")) mNil)))))) sNil) sNil) (sSeq (sIf (mTru (mIsx 0 a od (subE 17 c 10))) (sSeq (sDropF (fApp 1 (fOf (mTup (mCons (mC (.str "unlike")) (mCons (mXfld 0 a od "what") mNil)))))) sNil) sNil) (sSeq (sIf (mTru (mIsx 0 a od (subE 17 c 11))) (sSeq (sDropF (fApp 1 (fOf (mTup (mCons (mC (.str "notfree")) (mCons (mXfld 0 a od "paper") mNil)))))) sNil) sNil) (sSeq (sIf (mTru (mIsx 0 a od (subE 17 c 12))) (sSeq (sDropF (fApp 1 (fOf (mTup (mCons (mC (.str "many")) (mCons (mXfld 0 a od "what") (mCons (mXfld 0 a od "many") (mCons (mXfld 0 a od "limit") mNil)))))))) sNil) sNil) (sSeq (sIf (mTru (mIsx 0 a od (subE 17 c 13))) (sSeq (sDropF (fApp 1 (fOf (mTup (mCons (mC (.str "kept")) (mCons (mXfld 0 a od "promise") (mCons (mXfld 0 a od "witness") mNil))))))) sNil) sNil) (sSeq (sIf (mTru (mIsx 0 a od (subE 17 c 14))) (sSeq (sDropF (fApp 1 (fOf (mTup (mCons (mC (.str "undo")) mNil))))) sNil) sNil) (sSeq (sIf (mTru (mIsx 0 a od (subE 17 c 15))) (sSeq (sDropF (fApp 1 (fOf (mTup (mCons (mC (.str "redo")) mNil))))) sNil) sNil) (sSeq (sFreeze 1) (sSeq (sRet (mV 1)) sNil)))))))))))
def v__law_more_kinds (c : Nat) (fs : List (Str × D)) (p : Pn) : RS := rowK (subE 17 c 8) (tupR [some (.str "noname"), (List.lookup ("name" : Str) fs).bind dRepr] p) [] fun x => rowK (subE 17 c 9) (tupR [some (.str "taken"), (List.lookup ("name" : Str) fs).bind dRepr] p) x fun x => rowK (subE 17 c 10) (tupR [some (.str "unlike"), List.lookup ("what" : Str) fs] p) x fun x => rowK (subE 17 c 11) (tupR [some (.str "notfree"), List.lookup ("paper" : Str) fs] p) x fun x => rowK (subE 17 c 12) (tupR [some (.str "many"), List.lookup ("what" : Str) fs, List.lookup ("many" : Str) fs, List.lookup ("limit" : Str) fs] p) x fun x => rowK (subE 17 c 13) (tupR [some (.str "kept"), List.lookup ("promise" : Str) fs, List.lookup ("witness" : Str) fs] p) x fun x => rowK (subE 17 c 14) (tupR [some (.str "undo")] p) x fun x => rowK (subE 17 c 15) (tupR [some (.str "redo")] p) x fun x => .rt (.lst x) p
def φ__law_more_kinds (c : Nat) (fs : List (Str × D)) (p : Pn) : R D := (v__law_more_kinds c fs p).out
theorem same__law_more_kinds (a : Addr) (od : Option Addr) (c : Nat) (fs : List (Str × D)) (p : Pn) (_hc : c < 17) : fd 2 (m__law_more_kinds a od c) [.exc a od fs] p = φ__law_more_kinds c fs p := by
  have r0 := fun acc k => row_run (a := a) (od := od) (fs := fs) (acc := acc) (p := p) (b := subE 17 c 8) (ev_tup (ev_cons (ev_c (d := .str "noname")) (ev_cons (ev_1 (f := dRepr) (ev_x (f := "name"))) ev_nil))) k
  have r1 := fun acc k => row_run (a := a) (od := od) (fs := fs) (acc := acc) (p := p) (b := subE 17 c 9) (ev_tup (ev_cons (ev_c (d := .str "taken")) (ev_cons (ev_1 (f := dRepr) (ev_x (f := "name"))) ev_nil))) k
  have r2 := fun acc k => row_run (a := a) (od := od) (fs := fs) (acc := acc) (p := p) (b := subE 17 c 10) (ev_tup (ev_cons (ev_c (d := .str "unlike")) (ev_cons (ev_x (f := "what")) ev_nil))) k
  have r3 := fun acc k => row_run (a := a) (od := od) (fs := fs) (acc := acc) (p := p) (b := subE 17 c 11) (ev_tup (ev_cons (ev_c (d := .str "notfree")) (ev_cons (ev_x (f := "paper")) ev_nil))) k
  have r4 := fun acc k => row_run (a := a) (od := od) (fs := fs) (acc := acc) (p := p) (b := subE 17 c 12) (ev_tup (ev_cons (ev_c (d := .str "many")) (ev_cons (ev_x (f := "what")) (ev_cons (ev_x (f := "many")) (ev_cons (ev_x (f := "limit")) ev_nil))))) k
  have r5 := fun acc k => row_run (a := a) (od := od) (fs := fs) (acc := acc) (p := p) (b := subE 17 c 13) (ev_tup (ev_cons (ev_c (d := .str "kept")) (ev_cons (ev_x (f := "promise")) (ev_cons (ev_x (f := "witness")) ev_nil)))) k
  have r6 := fun acc k => row_run (a := a) (od := od) (fs := fs) (acc := acc) (p := p) (b := subE 17 c 14) (ev_tup (ev_cons (ev_c (d := .str "undo")) ev_nil)) k
  have r7 := fun acc k => row_run (a := a) (od := od) (fs := fs) (acc := acc) (p := p) (b := subE 17 c 15) (ev_tup (ev_cons (ev_c (d := .str "redo")) ev_nil)) k
  show (m__law_more_kinds a od c [.val (.exc a od fs), .no] p).out = (v__law_more_kinds c fs p).out
  unfold m__law_more_kinds v__law_more_kinds
  simp only [own_run, r0, r1, r2, r3, r4, r5, r6, r7, ret_run]
theorem ok__law_more_kinds (G : Facts K mg base) : ∃ fdt, FunD K "_law_more_kinds" "_law_more_kinds" (defArgs s__law_more_kinds) (defBody s__law_more_kinds) (defScope s__law_more_kinds) [] [] (He.fAd K ("_law_more_kinds", none)) fdt ∧ FnK P w K mg base (Ad K) 17 1 (He.fAd K ("_law_more_kinds", none)) fdt ["e"] φ__law_more_kinds := by
  obtain ⟨fdt, F⟩ := G.d__law_more_kinds
  refine ⟨fdt, F, fnK_ok (k := 0) (nn := 2) F sc__law_more_kinds rfl rfl m__law_more_kinds (fun cdv B outer s H E a oe od c hgd hr hc hz hf => ?_) same__law_more_kinds⟩
  obtain ⟨y, hT⟩ := G.exC hc
  have hp : (a, oe) ∈ [(a, oe)] := List.mem_singleton.mpr rfl
  exact (sss_cons (ss_own 1 (so_lst sa_nil) sc__law_more_kinds.nd) (sss_cons (ss_if (st_tru (sb_of (se_isx 0 (v := .ref (He.ga K "NoName")) (cv := .ref (He.ga K "NoName")) hT hp hz hf ((exB_more G.e1 c hc).2.2 8 (by decide)) (pe_glob rfl (G.ex_NoName).gC rfl) (fun u h => h) rfl (G.fr_isinstance)))) (sss_cons (ss_exprF (sf_app 1 (sf_of (se_tup (sa_cons se_str (sa_cons (se_repr hgd (roomH_hu hr) G.sys rfl (G.fr_repr) (se_xfld 0 "name" hT (noB_ok G.e2 c hc 4 rfl) hp hz hf)) sa_nil)))))) sss_nil) sss_nil) (sss_cons (ss_if (st_tru (sb_of (se_isx 0 (v := .ref (He.ga K "TakenName")) (cv := .ref (He.ga K "TakenName")) hT hp hz hf ((exB_more G.e1 c hc).2.2 9 (by decide)) (pe_glob rfl (G.ex_TakenName).gC rfl) (fun u h => h) rfl (G.fr_isinstance)))) (sss_cons (ss_exprF (sf_app 1 (sf_of (se_tup (sa_cons se_str (sa_cons (se_repr hgd (roomH_hu hr) G.sys rfl (G.fr_repr) (se_xfld 0 "name" hT (noB_ok G.e2 c hc 4 rfl) hp hz hf)) sa_nil)))))) sss_nil) sss_nil) (sss_cons (ss_if (st_tru (sb_of (se_isx 0 (v := .ref (He.ga K "Unlike")) (cv := .ref (He.ga K "Unlike")) hT hp hz hf ((exB_more G.e1 c hc).2.2 10 (by decide)) (pe_glob rfl (G.ex_Unlike).gC rfl) (fun u h => h) rfl (G.fr_isinstance)))) (sss_cons (ss_exprF (sf_app 1 (sf_of (se_tup (sa_cons se_str (sa_cons (se_xfld 0 "what" hT (noB_ok G.e2 c hc 0 rfl) hp hz hf) sa_nil)))))) sss_nil) sss_nil) (sss_cons (ss_if (st_tru (sb_of (se_isx 0 (v := .ref (He.ga K "NotFree")) (cv := .ref (He.ga K "NotFree")) hT hp hz hf ((exB_more G.e1 c hc).2.2 11 (by decide)) (pe_glob rfl (G.ex_NotFree).gC rfl) (fun u h => h) rfl (G.fr_isinstance)))) (sss_cons (ss_exprF (sf_app 1 (sf_of (se_tup (sa_cons se_str (sa_cons (se_xfld 0 "paper" hT (noB_ok G.e2 c hc 8 rfl) hp hz hf) sa_nil)))))) sss_nil) sss_nil) (sss_cons (ss_if (st_tru (sb_of (se_isx 0 (v := .ref (He.ga K "TooMany")) (cv := .ref (He.ga K "TooMany")) hT hp hz hf ((exB_more G.e1 c hc).2.2 12 (by decide)) (pe_glob rfl (G.ex_TooMany).gC rfl) (fun u h => h) rfl (G.fr_isinstance)))) (sss_cons (ss_exprF (sf_app 1 (sf_of (se_tup (sa_cons se_str (sa_cons (se_xfld 0 "what" hT (noB_ok G.e2 c hc 0 rfl) hp hz hf) (sa_cons (se_xfld 0 "many" hT (noB_ok G.e2 c hc 9 rfl) hp hz hf) (sa_cons (se_xfld 0 "limit" hT (noB_ok G.e2 c hc 10 rfl) hp hz hf) sa_nil)))))))) sss_nil) sss_nil) (sss_cons (ss_if (st_tru (sb_of (se_isx 0 (v := .ref (He.ga K "NotKept")) (cv := .ref (He.ga K "NotKept")) hT hp hz hf ((exB_more G.e1 c hc).2.2 13 (by decide)) (pe_glob rfl (G.ex_NotKept).gC rfl) (fun u h => h) rfl (G.fr_isinstance)))) (sss_cons (ss_exprF (sf_app 1 (sf_of (se_tup (sa_cons se_str (sa_cons (se_xfld 0 "promise" hT (noB_ok G.e2 c hc 11 rfl) hp hz hf) (sa_cons (se_xfld 0 "witness" hT (noB_ok G.e2 c hc 12 rfl) hp hz hf) sa_nil))))))) sss_nil) sss_nil) (sss_cons (ss_if (st_tru (sb_of (se_isx 0 (v := .ref (He.ga K "NothingToUndo")) (cv := .ref (He.ga K "NothingToUndo")) hT hp hz hf ((exB_more G.e1 c hc).2.2 14 (by decide)) (pe_glob rfl (G.ex_NothingToUndo).gC rfl) (fun u h => h) rfl (G.fr_isinstance)))) (sss_cons (ss_exprF (sf_app 1 (sf_of (se_tup (sa_cons se_str sa_nil))))) sss_nil) sss_nil) (sss_cons (ss_if (st_tru (sb_of (se_isx 0 (v := .ref (He.ga K "NothingToRedo")) (cv := .ref (He.ga K "NothingToRedo")) hT hp hz hf ((exB_more G.e1 c hc).2.2 15 (by decide)) (pe_glob rfl (G.ex_NothingToRedo).gC rfl) (fun u h => h) rfl (G.fr_isinstance)))) (sss_cons (ss_exprF (sf_app 1 (sf_of (se_tup (sa_cons se_str sa_nil))))) sss_nil) sss_nil) (sss_freeze 1 (sss_cons (ss_ret (se_v 1)) sss_nil)))))))))))
abbrev N__law_kinds : List Str := ["e", "found"]
theorem sc__law_kinds : FnScope N__law_kinds ["e"] (defScope s__law_kinds) := ⟨rfl, rfl, rfl, by decide +kernel, rfl, by decide +kernel, by decide +kernel⟩
def m__law_kinds (a : Addr) (od : Option Addr) (c : Nat) : SX := (sSeq (sOwn 1 (mLst mNil)) (sSeq (sIf (mTru (mIsx 0 a od (subE 17 c 0))) (sSeq (sDropF (fApp 1 (fOf (mTup (mCons (mC (.str "number")) (mCons (mXfld 0 a od "what") (mCons (m1 dRepr (mXfld 0 a od "number")) mNil))))))) sNil) sNil) (sSeq (sIf (mTru (mIsx 0 a od (subE 17 c 1))) (sSeq (sDropF (fApp 1 (fOf (mTup (mCons (mC (.str "row")) (mCons (mXfld 0 a od "what") (mCons (m1 dRepr (mXfld 0 a od "row")) mNil))))))) sNil) sNil) (sSeq (sIf (mTru (mIsx 0 a od (subE 17 c 2))) (sSeq (sDropF (fApp 1 (fOf (mTup (mCons (mC (.str "table")) (mCons (mXfld 0 a od "what") mNil)))))) sNil) sNil) (sSeq (sIf (mTru (mIsx 0 a od (subE 17 c 3))) (sSeq (sDropF (fApp 1 (fOf (mTup (mCons (mC (.str "form")) (mCons (mXfld 0 a od "what") mNil)))))) sNil) sNil) (sSeq (sIf (mTru (mIsx 0 a od (subE 17 c 4))) (sSeq (sDropF (fApp 1 (fOf (mTup (mCons (mC (.str "lot")) (mCons (mXfld 0 a od "what") (mCons (m1 dRepr (mXfld 0 a od "lot")) mNil))))))) sNil) sNil) (sSeq (sIf (mTru (mIsx 0 a od (subE 17 c 5))) (sSeq (sDropF (fApp 1 (fOf (mTup (mCons (mC (.str "badname")) (mCons (m1 dRepr (mXfld 0 a od "name")) mNil)))))) sNil) sNil) (sSeq (sIf (mTru (mIsx 0 a od (subE 17 c 6))) (sSeq (sDropF (fApp 1 (fOf (mTup (mCons (mC (.str "text")) (mCons (mXfld 0 a od "line") (mCons (mXfld 0 a od "word") mNil))))))) sNil) sNil) (sSeq (sIf (mTru (mIsx 0 a od (subE 17 c 7))) (sSeq (sDropF (fApp 1 (fOf (mTup (mCons (mC (.str "wall")) (mCons (mXfld 0 a od "what") (mCons (m1 dRepr (mXfld 0 a od "index")) mNil))))))) sNil) sNil) (sSeq (sRet (m2 dCat (mW 1) (mKal 0 a od (φ__law_more_kinds c)))) sNil))))))))))
def v__law_kinds (c : Nat) (fs : List (Str × D)) (p : Pn) : RS := rowK (subE 17 c 0) (tupR [some (.str "number"), List.lookup ("what" : Str) fs, (List.lookup ("number" : Str) fs).bind dRepr] p) [] fun x => rowK (subE 17 c 1) (tupR [some (.str "row"), List.lookup ("what" : Str) fs, (List.lookup ("row" : Str) fs).bind dRepr] p) x fun x => rowK (subE 17 c 2) (tupR [some (.str "table"), List.lookup ("what" : Str) fs] p) x fun x => rowK (subE 17 c 3) (tupR [some (.str "form"), List.lookup ("what" : Str) fs] p) x fun x => rowK (subE 17 c 4) (tupR [some (.str "lot"), List.lookup ("what" : Str) fs, (List.lookup ("lot" : Str) fs).bind dRepr] p) x fun x => rowK (subE 17 c 5) (tupR [some (.str "badname"), (List.lookup ("name" : Str) fs).bind dRepr] p) x fun x => rowK (subE 17 c 6) (tupR [some (.str "text"), List.lookup ("line" : Str) fs, List.lookup ("word" : Str) fs] p) x fun x => rowK (subE 17 c 7) (tupR [some (.str "wall"), List.lookup ("what" : Str) fs, (List.lookup ("index" : Str) fs).bind dRepr] p) x fun x => catR x (φ__law_more_kinds c fs p)
def φ__law_kinds (c : Nat) (fs : List (Str × D)) (p : Pn) : R D := (v__law_kinds c fs p).out
theorem same__law_kinds (a : Addr) (od : Option Addr) (c : Nat) (fs : List (Str × D)) (p : Pn) (_hc : c < 17) : fd 2 (m__law_kinds a od c) [.exc a od fs] p = φ__law_kinds c fs p := by
  have r0 := fun acc k => row_run (a := a) (od := od) (fs := fs) (acc := acc) (p := p) (b := subE 17 c 0) (ev_tup (ev_cons (ev_c (d := .str "number")) (ev_cons (ev_x (f := "what")) (ev_cons (ev_1 (f := dRepr) (ev_x (f := "number"))) ev_nil)))) k
  have r1 := fun acc k => row_run (a := a) (od := od) (fs := fs) (acc := acc) (p := p) (b := subE 17 c 1) (ev_tup (ev_cons (ev_c (d := .str "row")) (ev_cons (ev_x (f := "what")) (ev_cons (ev_1 (f := dRepr) (ev_x (f := "row"))) ev_nil)))) k
  have r2 := fun acc k => row_run (a := a) (od := od) (fs := fs) (acc := acc) (p := p) (b := subE 17 c 2) (ev_tup (ev_cons (ev_c (d := .str "table")) (ev_cons (ev_x (f := "what")) ev_nil))) k
  have r3 := fun acc k => row_run (a := a) (od := od) (fs := fs) (acc := acc) (p := p) (b := subE 17 c 3) (ev_tup (ev_cons (ev_c (d := .str "form")) (ev_cons (ev_x (f := "what")) ev_nil))) k
  have r4 := fun acc k => row_run (a := a) (od := od) (fs := fs) (acc := acc) (p := p) (b := subE 17 c 4) (ev_tup (ev_cons (ev_c (d := .str "lot")) (ev_cons (ev_x (f := "what")) (ev_cons (ev_1 (f := dRepr) (ev_x (f := "lot"))) ev_nil)))) k
  have r5 := fun acc k => row_run (a := a) (od := od) (fs := fs) (acc := acc) (p := p) (b := subE 17 c 5) (ev_tup (ev_cons (ev_c (d := .str "badname")) (ev_cons (ev_1 (f := dRepr) (ev_x (f := "name"))) ev_nil))) k
  have r6 := fun acc k => row_run (a := a) (od := od) (fs := fs) (acc := acc) (p := p) (b := subE 17 c 6) (ev_tup (ev_cons (ev_c (d := .str "text")) (ev_cons (ev_x (f := "line")) (ev_cons (ev_x (f := "word")) ev_nil)))) k
  have r7 := fun acc k => row_run (a := a) (od := od) (fs := fs) (acc := acc) (p := p) (b := subE 17 c 7) (ev_tup (ev_cons (ev_c (d := .str "wall")) (ev_cons (ev_x (f := "what")) (ev_cons (ev_1 (f := dRepr) (ev_x (f := "index"))) ev_nil)))) k
  show (m__law_kinds a od c [.val (.exc a od fs), .no] p).out = (v__law_kinds c fs p).out
  unfold m__law_kinds v__law_kinds
  simp only [own_run, r0, r1, r2, r3, r4, r5, r6, r7, cat_run]
theorem ok__law_kinds (G : Facts K mg base) : ∃ fdt, FunD K "_law_kinds" "_law_kinds" (defArgs s__law_kinds) (defBody s__law_kinds) (defScope s__law_kinds) [] [] (He.fAd K ("_law_kinds", none)) fdt ∧ FnK P w K mg base (Ad K) 17 2 (He.fAd K ("_law_kinds", none)) fdt ["e"] φ__law_kinds := by
  obtain ⟨fdt, F⟩ := G.d__law_kinds
  obtain ⟨fd__law_more_kinds, F__law_more_kinds, M__law_more_kinds⟩ := ok__law_more_kinds (P := P) (w := w) G
  have b__law_more_kinds : L2.Binds K fd__law_more_kinds ["e"] [] := FunD.bindsN F__law_more_kinds fun _ _ _ _ _ _ us hl => match us, hl with | [_], _ => rfl
  refine ⟨fdt, F, fnK_ok (k := 1) (nn := 2) F sc__law_kinds rfl rfl m__law_kinds (fun cdv B outer s H E a oe od c hgd hr hc hz hf => ?_) same__law_kinds⟩
  obtain ⟨y, hT⟩ := G.exC hc
  have hp : (a, oe) ∈ [(a, oe)] := List.mem_singleton.mpr rfl
  exact (sss_cons (ss_own 1 (so_lst sa_nil) sc__law_kinds.nd) (sss_cons (ss_if (st_tru (sb_of (se_isx 0 (v := .ref (He.ga K "BadNumber")) (cv := .ref (He.ga K "BadNumber")) hT hp hz hf ((exB_more G.e1 c hc).2.2 0 (by decide)) (pe_glob rfl (G.ex_BadNumber).gC rfl) (fun u h => h) rfl (G.fr_isinstance)))) (sss_cons (ss_exprF (sf_app 1 (sf_of (se_tup (sa_cons se_str (sa_cons (se_xfld 0 "what" hT (noB_ok G.e2 c hc 0 rfl) hp hz hf) (sa_cons (se_repr hgd (roomH_hu hr) G.sys rfl (G.fr_repr) (se_xfld 0 "number" hT (noB_ok G.e2 c hc 1 rfl) hp hz hf)) sa_nil))))))) sss_nil) sss_nil) (sss_cons (ss_if (st_tru (sb_of (se_isx 0 (v := .ref (He.ga K "BadRow")) (cv := .ref (He.ga K "BadRow")) hT hp hz hf ((exB_more G.e1 c hc).2.2 1 (by decide)) (pe_glob rfl (G.ex_BadRow).gC rfl) (fun u h => h) rfl (G.fr_isinstance)))) (sss_cons (ss_exprF (sf_app 1 (sf_of (se_tup (sa_cons se_str (sa_cons (se_xfld 0 "what" hT (noB_ok G.e2 c hc 0 rfl) hp hz hf) (sa_cons (se_repr hgd (roomH_hu hr) G.sys rfl (G.fr_repr) (se_xfld 0 "row" hT (noB_ok G.e2 c hc 2 rfl) hp hz hf)) sa_nil))))))) sss_nil) sss_nil) (sss_cons (ss_if (st_tru (sb_of (se_isx 0 (v := .ref (He.ga K "BadTable")) (cv := .ref (He.ga K "BadTable")) hT hp hz hf ((exB_more G.e1 c hc).2.2 2 (by decide)) (pe_glob rfl (G.ex_BadTable).gC rfl) (fun u h => h) rfl (G.fr_isinstance)))) (sss_cons (ss_exprF (sf_app 1 (sf_of (se_tup (sa_cons se_str (sa_cons (se_xfld 0 "what" hT (noB_ok G.e2 c hc 0 rfl) hp hz hf) sa_nil)))))) sss_nil) sss_nil) (sss_cons (ss_if (st_tru (sb_of (se_isx 0 (v := .ref (He.ga K "BadForm")) (cv := .ref (He.ga K "BadForm")) hT hp hz hf ((exB_more G.e1 c hc).2.2 3 (by decide)) (pe_glob rfl (G.ex_BadForm).gC rfl) (fun u h => h) rfl (G.fr_isinstance)))) (sss_cons (ss_exprF (sf_app 1 (sf_of (se_tup (sa_cons se_str (sa_cons (se_xfld 0 "what" hT (noB_ok G.e2 c hc 0 rfl) hp hz hf) sa_nil)))))) sss_nil) sss_nil) (sss_cons (ss_if (st_tru (sb_of (se_isx 0 (v := .ref (He.ga K "BadLot")) (cv := .ref (He.ga K "BadLot")) hT hp hz hf ((exB_more G.e1 c hc).2.2 4 (by decide)) (pe_glob rfl (G.ex_BadLot).gC rfl) (fun u h => h) rfl (G.fr_isinstance)))) (sss_cons (ss_exprF (sf_app 1 (sf_of (se_tup (sa_cons se_str (sa_cons (se_xfld 0 "what" hT (noB_ok G.e2 c hc 0 rfl) hp hz hf) (sa_cons (se_repr hgd (roomH_hu hr) G.sys rfl (G.fr_repr) (se_xfld 0 "lot" hT (noB_ok G.e2 c hc 3 rfl) hp hz hf)) sa_nil))))))) sss_nil) sss_nil) (sss_cons (ss_if (st_tru (sb_of (se_isx 0 (v := .ref (He.ga K "BadName")) (cv := .ref (He.ga K "BadName")) hT hp hz hf ((exB_more G.e1 c hc).2.2 5 (by decide)) (pe_glob rfl (G.ex_BadName).gC rfl) (fun u h => h) rfl (G.fr_isinstance)))) (sss_cons (ss_exprF (sf_app 1 (sf_of (se_tup (sa_cons se_str (sa_cons (se_repr hgd (roomH_hu hr) G.sys rfl (G.fr_repr) (se_xfld 0 "name" hT (noB_ok G.e2 c hc 4 rfl) hp hz hf)) sa_nil)))))) sss_nil) sss_nil) (sss_cons (ss_if (st_tru (sb_of (se_isx 0 (v := .ref (He.ga K "BadText")) (cv := .ref (He.ga K "BadText")) hT hp hz hf ((exB_more G.e1 c hc).2.2 6 (by decide)) (pe_glob rfl (G.ex_BadText).gC rfl) (fun u h => h) rfl (G.fr_isinstance)))) (sss_cons (ss_exprF (sf_app 1 (sf_of (se_tup (sa_cons se_str (sa_cons (se_xfld 0 "line" hT (noB_ok G.e2 c hc 5 rfl) hp hz hf) (sa_cons (se_xfld 0 "word" hT (noB_ok G.e2 c hc 6 rfl) hp hz hf) sa_nil))))))) sss_nil) sss_nil) (sss_cons (ss_if (st_tru (sb_of (se_isx 0 (v := .ref (He.ga K "NoWall")) (cv := .ref (He.ga K "NoWall")) hT hp hz hf ((exB_more G.e1 c hc).2.2 7 (by decide)) (pe_glob rfl (G.ex_NoWall).gC rfl) (fun u h => h) rfl (G.fr_isinstance)))) (sss_cons (ss_exprF (sf_app 1 (sf_of (se_tup (sa_cons se_str (sa_cons (se_xfld 0 "what" hT (noB_ok G.e2 c hc 0 rfl) hp hz hf) (sa_cons (se_repr hgd (roomH_hu hr) G.sys rfl (G.fr_repr) (se_xfld 0 "index" hT (noB_ok G.e2 c hc 7 rfl) hp hz hf)) sa_nil))))))) sss_nil) sss_nil) (sss_cons (ss_ret (se_so (so_cat (sb_v 1) (sb_of (se_callK 0 M__law_more_kinds hgd (L2H.RoomH.mono (j := 1) hr (by decide)) hp hc hz hf rfl (G.gl__law_more_kinds) F__law_more_kinds.kp b__law_more_kinds))))) sss_nil))))))))))
abbrev N__law_told : List Str := ["kind", "one", "two", "three", "found", "e"]
theorem sc__law_told : FnScope N__law_told ["kind", "one", "two", "three"] (defScope s__law_told) := ⟨rfl, rfl, rfl, by decide +kernel, rfl, by decide +kernel, by decide +kernel⟩
def sua__law_told (a : Addr) (od : Option Addr) (c : Nat) : SX := (sSeq (sIf (mTru (mIsx 5 a od true)) (sSeq (sSet 4 (mKal 5 a od (φ__law_kinds c))) sNil) sNil) sNil)
abbrev su__law_told (c : Nat) (fs : List (Str × D)) : SX := toldS (φ__law_kinds c) fs
theorem hrel__law_told : ∀ a od c fs env p, c < 17 → (sua__law_told a od c (env.set 5 (.val (.exc a od fs))) p).wipe 5 = su__law_told c fs env p := fun a od c fs env p _ => told_rel
def m__law_told : SX := (sSeq (sSet 4 (mC .non)) (sSeq (sTry 17 (mThen (mDo φ__law_raised (mCons (mV 0) (mCons (mV 1) (mCons (mV 2) mNil)))) (mThen (mDo φ__law_raised_too (mCons (mV 0) (mCons (mV 1) (mCons (mV 2) (mCons (mV 3) mNil))))) mU)) su__law_told) (sSeq (sRet (mV 4)) sNil)))
abbrev φ__law_told : FD := fd 6 m__law_told
theorem ok__law_told (G : Facts K mg base) : ∃ fdt, FunD K "_law_told" "_law_told" (defArgs s__law_told) (defBody s__law_told) (defScope s__law_told) [] [] (He.fAd K ("_law_told", none)) fdt ∧ FnM P w K mg base 5 (He.fAd K ("_law_told", none)) fdt ["kind", "one", "two", "three"] (spI K (Ad K) 4 φ__law_told) := by
  obtain ⟨fdt, F⟩ := G.d__law_told
  obtain ⟨fd__law_raised, F__law_raised, M__law_raised⟩ := ok__law_raised (P := P) (w := w) G
  have b__law_raised : L2.Binds K fd__law_raised ["kind", "one", "two"] [] := FunD.bindsN F__law_raised fun _ _ _ _ _ _ us hl => match us, hl with | [_, _, _], _ => rfl
  obtain ⟨fd__law_raised_too, F__law_raised_too, M__law_raised_too⟩ := ok__law_raised_too (P := P) (w := w) G
  have b__law_raised_too : L2.Binds K fd__law_raised_too ["kind", "one", "two", "three"] [] := FunD.bindsN F__law_raised_too fun _ _ _ _ _ _ us hl => match us, hl with | [_, _, _, _], _ => rfl
  obtain ⟨fd__law_kinds, F__law_kinds, M__law_kinds⟩ := ok__law_kinds (P := P) (w := w) G
  have b__law_kinds : L2.Binds K fd__law_kinds ["e"] [] := FunD.bindsN F__law_kinds fun _ _ _ _ _ _ us hl => match us, hl with | [_], _ => rfl
  refine ⟨fdt, F, fnM_ok (k := 4) (m := m__law_told) F sc__law_told rfl rfl rfl fun cdv B outer s H E hgd hr => ?_⟩
  exact (sss_cons (ss_set 4 se_non sc__law_told.nd) (sss_cons (ss_try 5 (C := He.ga K "WallsError") (L := 17) (sua__law_told) rfl rfl sc__law_told.nd rfl rfl rfl (G.ex_WallsError).gC (by decide) (fun c hc => (exB_more G.e1 c hc).2.1)
    (fun pn xe => (scs_cons (sc_call M__law_raised hgd (hr.mono (by decide)) rfl (G.gl__law_raised) F__law_raised.kp b__law_raised (sa_cons (se_v 0) (sa_cons (se_v 1) (sa_cons (se_v 2) sa_nil))) (mLenS (mLenS (mLenS mLen0)))) (scs_cons (sc_call M__law_raised_too hgd (hr.mono (by decide)) rfl (G.gl__law_raised_too) F__law_raised_too.kp b__law_raised_too (sa_cons (se_v 0) (sa_cons (se_v 1) (sa_cons (se_v 2) (sa_cons (se_v 3) sa_nil)))) (mLenS (mLenS (mLenS (mLenS mLen0))))) scs_nil)))
    (fun a oe od c pn hc hz hf => by
      obtain ⟨y, hT⟩ := G.exC hc
      have hp : (a, oe) ∈ (a, oe) :: pn := List.mem_cons_self
      have hr := room_mark hr (some (.ref a))
      exact (sss_cons (ss_if (st_tru (sb_of (se_isx 5 (v := .ty "ValueError") (cv := .type "ValueError") hT hp hz hf (exB_more G.e1 c hc).1 (pe_bltn rfl (G.fr_ValueError) PyProof.Rows.Boot.«ValueError» rfl) (fun u h => h) rfl (G.fr_isinstance)))) (sss_cons (ss_set 4 (se_callK 5 M__law_kinds hgd (L2H.RoomH.mono (j := 2) hr (by decide)) hp hc hz hf rfl (G.gl__law_kinds) F__law_kinds.kp b__law_kinds) sc__law_told.nd) sss_nil) sss_nil) sss_nil))
    hrel__law_told) (sss_cons (ss_ret (se_v 4)) sss_nil)))
abbrev N__law_draw : List Str := ["pen", "many", "cell", "digit", "blend"]
theorem sc__law_draw : FnScope N__law_draw ["pen", "many"] (defScope s__law_draw) := ⟨rfl, rfl, rfl, by decide +kernel, rfl, by decide +kernel, by decide +kernel⟩
def m__law_draw : SX := (sSeq (sPput .count (mW 0) (m2 dAdd (mPget .count (mW 0)) (mC (.int 1)))) (sSeq (sIf (mAnd (mT (m2 dEq (mPget .digits (mW 0)) (mC (.int 0)))) (mT (m2 dLt (mPget .at_ (mW 0)) (mLen (mPget .cells (mW 0)))))) (sSeq (sSet 2 (m2 dIx (mPget .cells (mW 0)) (mPget .at_ (mW 0)))) (sSeq (sPput .at_ (mW 0) (m2 dAdd (mPget .at_ (mW 0)) (mC (.int 1)))) (sSeq (sIf (mT (m2 dGe (mW 2) (m2 dPow (mC (.int 10)) (mC (.int 18))))) (sSeq (sPput .digits (mW 0) (m2 dSub (mW 2) (m2 dPow (mC (.int 10)) (mC (.int 18))))) sNil) (sSeq (sPput .fold (mW 0) (m2 dMod (mInt (m2 dAdd (m2 dMul (mPget .fold (mW 0)) (mC (.int 69069))) (mW 2))) (mC (.int 2147483587)))) sNil)) sNil))) sNil) (sSeq (sIf (mT (m2 dGt (mPget .digits (mW 0)) (mC (.int 0)))) (sSeq (sSet 3 (m2 dMod (mInt (mPget .digits (mW 0))) (mW 1))) (sSeq (sPput .digits (mW 0) (m2 dDiv (mPget .digits (mW 0)) (mW 1))) (sSeq (sRet (mV 3)) sNil))) sNil) (sSeq (sSet 4 (m2 dMod (mInt (m2 dAdd (m2 dAdd (m2 dMul (mPget .fold (mW 0)) (mC (.int 48271))) (m2 dMul (mPget .count (mW 0)) (mC (.int 7919)))) (mC (.int 13)))) (mC (.int 2147483647)))) (sSeq (sSet 4 (m2 dMod (mInt (m2 dAdd (m2 dAdd (m2 dMul (mW 4) (mW 4)) (m2 dMul (mC (.int 31)) (mW 4))) (mPget .count (mW 0)))) (mC (.int 2147483629)))) (sSeq (sPput .fold (mW 0) (m2 dMod (mInt (m2 dAdd (m2 dMul (mW 4) (mC (.int 16807))) (mC (.int 7)))) (mC (.int 2147483647)))) (sSeq (sRet (m2 dMod (mInt (m2 dDiv (mW 4) (mC (.int 64)))) (mW 1))) sNil)))))))
abbrev φ__law_draw : FD := fd 5 m__law_draw
theorem ok__law_draw (G : Facts K mg base) : ∃ fdt, FunD K "_law_draw" "_law_draw" (defArgs s__law_draw) (defBody s__law_draw) (defScope s__law_draw) [] [] (He.fAd K ("_law_draw", none)) fdt ∧ FnM P w K mg base 1 (He.fAd K ("_law_draw", none)) fdt ["pen", "many"] (spI K (Ad K) 2 φ__law_draw) := by
  obtain ⟨fdt, F⟩ := G.d__law_draw
  refine ⟨fdt, F, fnM_ok (k := 0) (m := m__law_draw) F sc__law_draw rfl rfl rfl fun cdv B outer s H E hgd hr => ?_⟩
  exact (sss_cons (ss_pput .count (room_1 hr) (sb_v 0) (se_add (sb_of (se_pget .count (room_1 hr) (sb_v 0))) (sb_of se_int))) (sss_cons (ss_if (st_w (sw_and (st_eq (room_h1 hr) (sb_of (se_pget .digits (room_1 hr) (sb_v 0))) (sb_of se_int)) (sw_and1 (st_lt (sb_of (se_pget .at_ (room_1 hr) (sb_v 0))) (sb_of (se_len (G.fr_len) (sb_of (se_pget .cells (room_1 hr) (sb_v 0))))))))) (sss_cons (ss_set 2 (se_at (sb_of (se_pget .cells (room_1 hr) (sb_v 0))) (sb_of (se_pget .at_ (room_1 hr) (sb_v 0)))) sc__law_draw.nd) (sss_cons (ss_pput .at_ (room_1 hr) (sb_v 0) (se_add (sb_of (se_pget .at_ (room_1 hr) (sb_v 0))) (sb_of se_int))) (sss_cons (ss_if (st_ge (sb_v 2) (sb_of (se_pow (sb_of se_int) (sb_of se_int)))) (sss_cons (ss_pput .digits (room_1 hr) (sb_v 0) (se_sub (sb_v 2) (sb_of (se_pow (sb_of se_int) (sb_of se_int))))) sss_nil) (sss_cons (ss_pput .fold (room_1 hr) (sb_v 0) (se_mod (sb_of (se_intc (G.fr_int) (sb_of (se_add (sb_of (se_mul (sb_of (se_pget .fold (room_1 hr) (sb_v 0))) (sb_of se_int))) (sb_v 2))))) (sb_of se_int))) sss_nil)) sss_nil))) sss_nil) (sss_cons (ss_if (st_gt (sb_of (se_pget .digits (room_1 hr) (sb_v 0))) (sb_of se_int)) (sss_cons (ss_set 3 (se_mod (sb_of (se_intc (G.fr_int) (sb_of (se_pget .digits (room_1 hr) (sb_v 0))))) (sb_v 1)) sc__law_draw.nd) (sss_cons (ss_pput .digits (room_1 hr) (sb_v 0) (se_div (sb_of (se_pget .digits (room_1 hr) (sb_v 0))) (sb_v 1))) (sss_cons (ss_ret (se_v 3)) sss_nil))) sss_nil) (sss_cons (ss_set 4 (se_mod (sb_of (se_intc (G.fr_int) (sb_of (se_add (sb_of (se_add (sb_of (se_mul (sb_of (se_pget .fold (room_1 hr) (sb_v 0))) (sb_of se_int))) (sb_of (se_mul (sb_of (se_pget .count (room_1 hr) (sb_v 0))) (sb_of se_int))))) (sb_of se_int))))) (sb_of se_int)) sc__law_draw.nd) (sss_cons (ss_set 4 (se_mod (sb_of (se_intc (G.fr_int) (sb_of (se_add (sb_of (se_add (sb_of (se_mul (sb_v 4) (sb_v 4))) (sb_of (se_mul (sb_of se_int) (sb_v 4))))) (sb_of (se_pget .count (room_1 hr) (sb_v 0))))))) (sb_of se_int)) sc__law_draw.nd) (sss_cons (ss_pput .fold (room_1 hr) (sb_v 0) (se_mod (sb_of (se_intc (G.fr_int) (sb_of (se_add (sb_of (se_mul (sb_v 4) (sb_of se_int))) (sb_of se_int))))) (sb_of se_int))) (sss_cons (ss_ret (se_mod (sb_of (se_intc (G.fr_int) (sb_of (se_div (sb_v 4) (sb_of se_int))))) (sb_v 1))) sss_nil)))))))
abbrev N__law_pick : List Str := ["pen", "some"]
theorem sc__law_pick : FnScope N__law_pick ["pen", "some"] (defScope s__law_pick) := ⟨rfl, rfl, rfl, by decide +kernel, rfl, by decide +kernel, by decide +kernel⟩
def m__law_pick : SX := (sSeq (sRet (m2 dIx (mW 1) (mDef φ__law_draw (mCons (mV 0) (mCons (mLen (mW 1)) mNil))))) sNil)
abbrev φ__law_pick : FD := fd 2 m__law_pick
theorem ok__law_pick (G : Facts K mg base) : ∃ fdt, FunD K "_law_pick" "_law_pick" (defArgs s__law_pick) (defBody s__law_pick) (defScope s__law_pick) [] [] (He.fAd K ("_law_pick", none)) fdt ∧ FnM P w K mg base 2 (He.fAd K ("_law_pick", none)) fdt ["pen", "some"] (spI K (Ad K) 2 φ__law_pick) := by
  obtain ⟨fdt, F⟩ := G.d__law_pick
  obtain ⟨fd__law_draw, F__law_draw, M__law_draw⟩ := ok__law_draw (P := P) (w := w) G
  have b__law_draw : L2.Binds K fd__law_draw ["pen", "many"] [] := FunD.bindsN F__law_draw fun _ _ _ _ _ _ us hl => match us, hl with | [_, _], _ => rfl
  refine ⟨fdt, F, fnM_ok (k := 1) (m := m__law_pick) F sc__law_pick rfl rfl rfl fun cdv B outer s H E hgd hr => ?_⟩
  exact (sss_cons (ss_ret (se_at (sb_v 1) (sb_of (se_callM M__law_draw hgd (hr.mono (by decide)) rfl (G.gl__law_draw) F__law_draw.kp b__law_draw (sa_cons (se_v 0) (sa_cons (se_len (G.fr_len) (sb_v 1)) sa_nil)) (mLenS (mLenS mLen0)))))) sss_nil)
abbrev N__law_field : List Str := ["pen", "way"]
theorem sc__law_field : FnScope N__law_field ["pen"] (defScope s__law_field) := ⟨rfl, rfl, rfl, by decide +kernel, rfl, by decide +kernel, by decide +kernel⟩
def m__law_field : SX := (sSeq (sSet 1 (mDef φ__law_draw (mCons (mV 0) (mCons (mC (.int 8)) mNil)))) (sSeq (sIf (mT (m2 dEq (mW 1) (mC (.int 0)))) (sSeq (sRet (mLst (mCons (mDef φ__law_draw (mCons (mV 0) (mCons (mC (.int 100)) mNil))) (mCons (mLst mNil) mNil)))) sNil) sNil) (sSeq (sIf (mT (m2 dEq (mW 1) (mC (.int 1)))) (sSeq (sRet (mTup (mCons (mC (.str "a")) (mCons (mTup (mCons (mDef φ__law_draw (mCons (mV 0) (mCons (m2 dPow (mC (.int 10)) (mC (.int 6))) mNil))) mNil)) mNil)))) sNil) sNil) (sSeq (sRet (mDef φ__law_pick (mCons (mV 0) (mCons (mLst (mCons (mC .non) (mCons (mC (.bl true)) (mCons (mC (.bl false)) (mCons (mC (.int 0)) (mCons (m1 dNeg (mC (.int 1))) (mCons (mC (.str "x")) (mCons (mC (.str "")) (mCons (m2 dPow (mC (.int 10)) (mC (.int 40))) (mCons (mDisp ["k"] (mCons (mC (.int 1)) mNil)) mNil)))))))))) mNil)))) sNil))))
abbrev φ__law_field : FD := fd 2 m__law_field
theorem ok__law_field (G : Facts K mg base) : ∃ fdt, FunD K "_law_field" "_law_field" (defArgs s__law_field) (defBody s__law_field) (defScope s__law_field) [] [] (He.fAd K ("_law_field", none)) fdt ∧ FnM P w K mg base 3 (He.fAd K ("_law_field", none)) fdt ["pen"] (spI K (Ad K) 1 φ__law_field) := by
  obtain ⟨fdt, F⟩ := G.d__law_field
  obtain ⟨fd__law_draw, F__law_draw, M__law_draw⟩ := ok__law_draw (P := P) (w := w) G
  have b__law_draw : L2.Binds K fd__law_draw ["pen", "many"] [] := FunD.bindsN F__law_draw fun _ _ _ _ _ _ us hl => match us, hl with | [_, _], _ => rfl
  obtain ⟨fd__law_pick, F__law_pick, M__law_pick⟩ := ok__law_pick (P := P) (w := w) G
  have b__law_pick : L2.Binds K fd__law_pick ["pen", "some"] [] := FunD.bindsN F__law_pick fun _ _ _ _ _ _ us hl => match us, hl with | [_, _], _ => rfl
  refine ⟨fdt, F, fnM_ok (k := 2) (m := m__law_field) F sc__law_field rfl rfl rfl fun cdv B outer s H E hgd hr => ?_⟩
  exact (sss_cons (ss_set 1 (se_callM M__law_draw hgd (hr.mono (by decide)) rfl (G.gl__law_draw) F__law_draw.kp b__law_draw (sa_cons (se_v 0) (sa_cons se_int sa_nil)) (mLenS (mLenS mLen0))) sc__law_field.nd) (sss_cons (ss_if (st_eq (room_h1 hr) (sb_v 1) (sb_of se_int)) (sss_cons (ss_ret (se_so (so_lst (sa_cons (se_callM M__law_draw hgd (hr.mono (by decide)) rfl (G.gl__law_draw) F__law_draw.kp b__law_draw (sa_cons (se_v 0) (sa_cons se_int sa_nil)) (mLenS (mLenS mLen0))) (sa_cons (se_so (so_lst sa_nil)) sa_nil))))) sss_nil) sss_nil) (sss_cons (ss_if (st_eq (room_h1 hr) (sb_v 1) (sb_of se_int)) (sss_cons (ss_ret (se_tup (sa_cons se_str (sa_cons (se_tup (sa_cons (se_callM M__law_draw hgd (hr.mono (by decide)) rfl (G.gl__law_draw) F__law_draw.kp b__law_draw (sa_cons (se_v 0) (sa_cons (se_pow (sb_of se_int) (sb_of se_int)) sa_nil)) (mLenS (mLenS mLen0))) sa_nil)) sa_nil)))) sss_nil) sss_nil) (sss_cons (ss_ret (se_callM M__law_pick hgd (hr.mono (by decide)) rfl (G.gl__law_pick) F__law_pick.kp b__law_pick (sa_cons (se_v 0) (sa_cons (se_so (so_lst (sa_cons se_non (sa_cons se_bl (sa_cons se_bl (sa_cons se_int (sa_cons (se_neg (sb_of se_int)) (sa_cons se_str (sa_cons se_str (sa_cons (se_pow (sb_of se_int) (sb_of se_int)) (sa_cons (se_so (so_disp (sps_cons se_int sps_nil))) sa_nil))))))))))) sa_nil)) (mLenS (mLenS mLen0)))) sss_nil))))
abbrev N__law_due : List Str := ["kind", "one", "two", "three", "words"]
theorem sc__law_due : FnScope N__law_due ["kind", "one", "two", "three"] (defScope s__law_due) := ⟨rfl, rfl, rfl, by decide +kernel, rfl, by decide +kernel, by decide +kernel⟩
def m__law_due : SX := (sSeq (sSet 4 (mLst (mCons (mC (.str "number")) (mCons (mC (.str "row")) (mCons (mC (.str "table")) (mCons (mC (.str "form")) (mCons (mC (.str "lot")) (mCons (mC (.str "badname")) (mCons (mC (.str "text")) (mCons (mC (.str "wall")) (mCons (mC (.str "noname")) (mCons (mC (.str "taken")) (mCons (mC (.str "unlike")) (mCons (mC (.str "notfree")) mNil)))))))))))))) (sSeq (sSet 4 (m2 dCat (mW 4) (mLst (mCons (mC (.str "many")) (mCons (mC (.str "kept")) (mCons (mC (.str "undo")) (mCons (mC (.str "redo")) mNil))))))) (sSeq (sIf (mT (m2 (dIn false) (mW 0) (mTup (mCons (mC (.int 0)) (mCons (mC (.int 1)) (mCons (mC (.int 4)) (mCons (mC (.int 7)) mNil))))))) (sSeq (sRet (mTup (mCons (m2 dIx (mW 4) (mW 0)) (mCons (mV 1) (mCons (m1 dRepr (mV 2)) mNil))))) sNil) sNil) (sSeq (sIf (mT (m2 (dIn false) (mW 0) (mTup (mCons (mC (.int 2)) (mCons (mC (.int 3)) (mCons (mC (.int 10)) (mCons (mC (.int 11)) mNil))))))) (sSeq (sRet (mTup (mCons (m2 dIx (mW 4) (mW 0)) (mCons (mV 1) mNil)))) sNil) sNil) (sSeq (sIf (mT (m2 (dIn false) (mW 0) (mTup (mCons (mC (.int 5)) (mCons (mC (.int 8)) (mCons (mC (.int 9)) mNil)))))) (sSeq (sRet (mTup (mCons (m2 dIx (mW 4) (mW 0)) (mCons (m1 dRepr (mV 1)) mNil)))) sNil) sNil) (sSeq (sIf (mT (m2 (dIn false) (mW 0) (mTup (mCons (mC (.int 6)) (mCons (mC (.int 13)) mNil))))) (sSeq (sRet (mTup (mCons (m2 dIx (mW 4) (mW 0)) (mCons (mV 1) (mCons (mV 2) mNil))))) sNil) sNil) (sSeq (sRet (mIf (mT (m2 dEq (mW 0) (mC (.int 12)))) (mTup (mCons (m2 dIx (mW 4) (mW 0)) (mCons (mV 1) (mCons (mV 2) (mCons (mV 3) mNil))))) (mTup (mCons (m2 dIx (mW 4) (mW 0)) mNil)))) sNil)))))))
abbrev φ__law_due : FD := fd 5 m__law_due
theorem ok__law_due (G : Facts K mg base) : ∃ fdt, FunD K "_law_due" "_law_due" (defArgs s__law_due) (defBody s__law_due) (defScope s__law_due) [] [] (He.fAd K ("_law_due", none)) fdt ∧ FnM P w K mg base 1 (He.fAd K ("_law_due", none)) fdt ["kind", "one", "two", "three"] (spI K (Ad K) 4 φ__law_due) := by
  obtain ⟨fdt, F⟩ := G.d__law_due
  refine ⟨fdt, F, fnM_ok (k := 0) (m := m__law_due) F sc__law_due rfl rfl rfl fun cdv B outer s H E hgd hr => ?_⟩
  exact (sss_cons (ss_set 4 (se_so (so_lst (sa_cons se_str (sa_cons se_str (sa_cons se_str (sa_cons se_str (sa_cons se_str (sa_cons se_str (sa_cons se_str (sa_cons se_str (sa_cons se_str (sa_cons se_str (sa_cons se_str (sa_cons se_str sa_nil)))))))))))))) sc__law_due.nd) (sss_cons (ss_set 4 (se_so (so_cat (sb_v 4) (sb_so (so_lst (sa_cons se_str (sa_cons se_str (sa_cons se_str (sa_cons se_str sa_nil)))))))) sc__law_due.nd) (sss_cons (ss_if (st_in (sb_v 0) (sb_of (se_tup (sa_cons se_int (sa_cons se_int (sa_cons se_int (sa_cons se_int sa_nil))))))) (sss_cons (ss_ret (se_tup (sa_cons (se_at (sb_v 4) (sb_v 0)) (sa_cons (se_v 1) (sa_cons (se_repr hgd (room_hu hr) G.sys rfl (G.fr_repr) (se_v 2)) sa_nil))))) sss_nil) sss_nil) (sss_cons (ss_if (st_in (sb_v 0) (sb_of (se_tup (sa_cons se_int (sa_cons se_int (sa_cons se_int (sa_cons se_int sa_nil))))))) (sss_cons (ss_ret (se_tup (sa_cons (se_at (sb_v 4) (sb_v 0)) (sa_cons (se_v 1) sa_nil)))) sss_nil) sss_nil) (sss_cons (ss_if (st_in (sb_v 0) (sb_of (se_tup (sa_cons se_int (sa_cons se_int (sa_cons se_int sa_nil)))))) (sss_cons (ss_ret (se_tup (sa_cons (se_at (sb_v 4) (sb_v 0)) (sa_cons (se_repr hgd (room_hu hr) G.sys rfl (G.fr_repr) (se_v 1)) sa_nil)))) sss_nil) sss_nil) (sss_cons (ss_if (st_in (sb_v 0) (sb_of (se_tup (sa_cons se_int (sa_cons se_int sa_nil))))) (sss_cons (ss_ret (se_tup (sa_cons (se_at (sb_v 4) (sb_v 0)) (sa_cons (se_v 1) (sa_cons (se_v 2) sa_nil))))) sss_nil) sss_nil) (sss_cons (ss_ret (se_if (st_eq (room_h1 hr) (sb_v 0) (sb_of se_int)) (se_tup (sa_cons (se_at (sb_v 4) (sb_v 0)) (sa_cons (se_v 1) (sa_cons (se_v 2) (sa_cons (se_v 3) sa_nil))))) (se_tup (sa_cons (se_at (sb_v 4) (sb_v 0)) sa_nil)))) sss_nil)))))))
abbrev N_law : List Str := ["script", "pen", "kind", "one", "two", "three", "told"]
theorem sc_law : FnScope N_law ["script"] (defScope s_law) := ⟨rfl, rfl, rfl, by decide +kernel, rfl, by decide +kernel, by decide +kernel⟩
def m_law : SX := (sSeq (sSet 1 (mDef φ__law_pen (mCons (mV 0) mNil))) (sSeq (sFor ((mC (.int 16)).bind fun d => lift (dRng1 d)) (gN 2) (sSeq (sPar3 3 4 5 (mCons (mDef φ__law_field (mCons (mV 1) mNil)) (mCons (mDef φ__law_field (mCons (mV 1) mNil)) (mCons (mDef φ__law_field (mCons (mV 1) mNil)) mNil)))) (sSeq (sSet 6 (mDef φ__law_told (mCons (mV 2) (mCons (mV 3) (mCons (mV 4) (mCons (mV 5) mNil)))))) (sSeq (sIf (mOr (mT (m1 (fun d => some (.bl (isNon d))) (mW 6))) (mOr (mT (m2 dNe (mLen (mW 6)) (mC (.int 1)))) (mT (m2 dNe (m1 dRepr (m2 dIx (mW 6) (mC (.int 0)))) (m1 dRepr (mDef φ__law_due (mCons (mV 2) (mCons (mV 3) (mCons (mV 4) (mCons (mV 5) mNil)))))))))) (sSeq (sRet (mC (.bl false))) sNil) sNil) sNil)))) (sSeq (sRet (mC (.bl true))) sNil)))
abbrev φ_law : FD := fd 7 m_law
theorem ok_law (G : Facts K mg base) : ∃ fdt, FunD K "law" "law" (defArgs s_law) (defBody s_law) (defScope s_law) [] [] (He.fAd K ("law", none)) fdt ∧ FnM P w K mg base 6 (He.fAd K ("law", none)) fdt ["script"] (spI K (Ad K) 1 φ_law) := by
  obtain ⟨fdt, F⟩ := G.d_law
  obtain ⟨fd__law_pen, F__law_pen, M__law_pen⟩ := ok__law_pen (P := P) (w := w) G
  have b__law_pen : L2.Binds K fd__law_pen ["script"] [] := FunD.bindsN F__law_pen fun _ _ _ _ _ _ us hl => match us, hl with | [_], _ => rfl
  obtain ⟨fd__law_told, F__law_told, M__law_told⟩ := ok__law_told (P := P) (w := w) G
  have b__law_told : L2.Binds K fd__law_told ["kind", "one", "two", "three"] [] := FunD.bindsN F__law_told fun _ _ _ _ _ _ us hl => match us, hl with | [_, _, _, _], _ => rfl
  obtain ⟨fd__law_field, F__law_field, M__law_field⟩ := ok__law_field (P := P) (w := w) G
  have b__law_field : L2.Binds K fd__law_field ["pen"] [] := FunD.bindsN F__law_field fun _ _ _ _ _ _ us hl => match us, hl with | [_], _ => rfl
  obtain ⟨fd__law_due, F__law_due, M__law_due⟩ := ok__law_due (P := P) (w := w) G
  have b__law_due : L2.Binds K fd__law_due ["kind", "one", "two", "three"] [] := FunD.bindsN F__law_due fun _ _ _ _ _ _ us hl => match us, hl with | [_, _, _, _], _ => rfl
  refine ⟨fdt, F, fnM_ok (k := 5) (m := m_law) F sc_law rfl rfl rfl fun cdv B outer s H E hgd hr => ?_⟩
  exact (sss_cons (ss_set 1 (se_callM M__law_pen hgd (hr.mono (by decide)) rfl (G.gl__law_pen) F__law_pen.kp b__law_pen (sa_cons (se_v 0) sa_nil) (mLenS mLen0)) sc_law.nd) (sss_cons (ss_for (passes_of rfl) rfl (si_range1 rfl (G.fr_range) (sb_of se_int)) (sg_n 2 sc_law.nd) (sss_cons (ss_par3 rfl sc_law.nd (sa_cons (se_callM M__law_field hgd (hr.mono (by decide)) rfl (G.gl__law_field) F__law_field.kp b__law_field (sa_cons (se_v 1) sa_nil) (mLenS mLen0)) (sa_cons (se_callM M__law_field hgd (hr.mono (by decide)) rfl (G.gl__law_field) F__law_field.kp b__law_field (sa_cons (se_v 1) sa_nil) (mLenS mLen0)) (sa_cons (se_callM M__law_field hgd (hr.mono (by decide)) rfl (G.gl__law_field) F__law_field.kp b__law_field (sa_cons (se_v 1) sa_nil) (mLenS mLen0)) sa_nil)))) (sss_cons (ss_set 6 (se_callM M__law_told hgd (hr.mono (by decide)) rfl (G.gl__law_told) F__law_told.kp b__law_told (sa_cons (se_v 2) (sa_cons (se_v 3) (sa_cons (se_v 4) (sa_cons (se_v 5) sa_nil)))) (mLenS (mLenS (mLenS (mLenS mLen0))))) sc_law.nd) (sss_cons (ss_if (st_w (sw_or (st_isN (sb_v 6)) (sw_or (st_ne (room_h1 hr) (sb_of (se_len (G.fr_len) (sb_v 6))) (sb_of se_int)) (sw_or1 (st_ne (room_h1 hr) (sb_of (se_repr hgd (room_hu hr) G.sys rfl (G.fr_repr) (se_at (sb_v 6) (sb_of se_int)))) (sb_of (se_repr hgd (room_hu hr) G.sys rfl (G.fr_repr) (se_callM M__law_due hgd (hr.mono (by decide)) rfl (G.gl__law_due) F__law_due.kp b__law_due (sa_cons (se_v 2) (sa_cons (se_v 3) (sa_cons (se_v 4) (sa_cons (se_v 5) sa_nil)))) (mLenS (mLenS (mLenS (mLenS mLen0)))))))))))) (sss_cons (ss_ret se_bl) sss_nil) sss_nil) sss_nil)))) (sss_cons (ss_ret se_bl) sss_nil)))
end
end K01

namespace K01
open PySem PySem.Spec PyProof.Rows L2 Mn
def nm0 : List PySem.Str := ["WallsError", "BadNumber", "BadRow", "BadTable", "BadForm", "BadLot", "BadName", "BadText", "NoWall", "NoName", "TakenName", "Unlike", "NotFree", "TooMany", "NotKept", "NothingToUndo", "NothingToRedo", "_law_pen", "_law_draw", "_law_pick", "_law_kinds", "_law_more_kinds", "_law_field", "_law_raised", "_law_raised_too", "_law_told", "_law_due"]
def nms : List PySem.Str := nm0
abbrev hk : PySem.W.Hook := hookM 5 faL fnL [] exL
def ob (s : PySem.W.SharedT) : He.AlX × Bool := obM 5 faL fnL [] exL s
theorem ob_eq (s : PySem.W.SharedT) : ob s = hk.obs s.abs := obM_eq s
theorem run (w : World) : HandSHeadRun.RunEq (PySem.W.OpenLaw.row PySem.Challenge.rw_freewalls_k01_errors_as_told) (PySem.W.view (PySem.W.OpenLaw.row PySem.Challenge.rw_freewalls_k01_errors_as_told).prog [29]) hk ob 12000 nms w := by
  intro os
  kernel_rfl
theorem facts {P : Program} {w : World} {K : PySem.W.Frag} {h : Heap} {mg : Str → Option Value} {fa : Addr} (X : K.In h) (G : h.Ns mainGlobals mg) (hfa : mg ("law" : Str) = some (.ref fa)) (c : He.SaysX faL fnL [] [] exL w h K) :
    ∃ fdt : FuncData, (∀ (s : Shared) (u : Value), BindsTo s fdt ⟨[u], []⟩ [("script", u)]) ∧ ∀ base : Heap, K.In base → base.Ns mainGlobals mg → SysAt base → FnM P w K mg base 6 fa fdt ["script"] (spI K (Ad K) 1 φ_law) := by
  have cd : He.SaysD faL fnL K := congrArg (fun z : He.AlT => z.1) c.t
  obtain ⟨fdt, F⟩ := cd.def_ 10 (d := ⟨("law", none), "law", "law", defArgs s_law, defBody s_law, defScope s_law, [], []⟩) rfl
  have e := hfa.symm.trans (He.glo_ok X G (cd.fact 10 (f := .glo "law") rfl))
  cases e
  have b := FunD.bindsA (ps := ["script"]) F fun _ _ _ _ _ _ us hl => match us, hl with | [_], _ => rfl
  refine ⟨fdt, fun s u => b s [u] rfl, fun base KB GB SB => ?_⟩
  obtain ⟨fdt', F', M'⟩ := ok_law (P := P) (w := w) (⟨KB, GB, cd, c.more, SB⟩ : Facts K mg base)
  obtain ⟨_, _, _, _, _, _, _, _, _, _, _, lk, _⟩ := F.ex
  obtain ⟨_, _, _, _, _, _, _, _, _, _, _, lk', _⟩ := F'.ex
  have e2 := lk.symm.trans lk'
  have e3 : fdt = fdt' := by
    have e4 := Option.some.inj e2
    injection e4 with _ _ e5 _
    injection e5
  rw [e3]
  exact M'
end K01

namespace K01
open PySem PySem.Spec PyProof.Rows L2 Mn
theorem ev_def {env : List Cell} {p p1 p2 : Pn} {φ : FD} {m : EX (List D)} {ds : List D} {d : D} (h1 : m env p = .ok ds p1) (h2 : φ ds p1 = .ok d p2) : mDef φ m env p = .ok d p2 := by
  unfold mDef EX.bind R.bind
  rw [h1]
  dsimp only
  rw [h2]
theorem draw {r : PenR} {n : Nat} {many : Int} (h : PenI r n) (hn : n < 2 ^ 59) (hm : 0 < many) (hm2 : many < 2 ^ 30) : ∃ d r', φ__law_draw [.pen, .int many] (some r) = .ok (.int d) (some r') ∧ 0 ≤ d ∧ d < many ∧ PenI r' (n + 1) := draw_ok h hn hm hm2
theorem pick {r : PenR} {n : Nat} {ds : List D} (h : PenI r n) (hn : n < 2 ^ 59) (h0 : 0 < ds.length) (h1 : ds.length < 2 ^ 30) : ∃ d r', φ__law_pick [.pen, .lst ds] (some r) = .ok d (some r') ∧ d ∈ ds ∧ PenI r' (n + 1) := by
  obtain ⟨i, r', e, i0, i1, h'⟩ := draw (many := (ds.length : Int)) h hn (by omega) (by omega)
  obtain ⟨k, rfl⟩ := Int.eq_ofNat_of_zero_le i0
  have hk : k < ds.length := by omega
  have e2 : dIx (.lst ds) (.int (k : Int)) = some ds[k] := atI_nat (List.getElem?_eq_getElem hk)
  refine ⟨ds[k], r', ?_, List.getElem_mem hk, h'⟩
  show (m__law_pick [.val .pen, .val (.lst ds)] (some r)).out = _
  unfold m__law_pick
  rw [sSeq_rt (ev_ret (ev_m2 (ev_w rfl) (ev_def (ev_lc (ev_v rfl) (ev_lc (ev_mLen (ev_w rfl) (len_lst _)) ev_ln)) e) e2))]
  rfl
abbrev Fl (d : D) : Prop := DOk 60 2 d
def nine : List D := [.non, .bl true, .bl false, .int 0, .int (-1), .str "x", .str "", .int (10 ^ 40), .dct [(.inr "k", .int 1)]]
theorem nine_ok : ∀ d ∈ nine, Fl d := by
  intro d hd
  simp only [nine, List.mem_cons, List.not_mem_nil, or_false] at hd
  rcases hd with rfl | rfl | rfl | rfl | rfl | rfl | rfl | rfl | rfl
  · exact ⟨.none, by simp [toRd], by simp [PyData.showable], by simp only [PyData.shown]; exact tx_of (by decide +kernel) (by decide +kernel), by simp [PyData.depth]⟩
  · exact ⟨.bool true, by simp [toRd], by simp [PyData.showable], by simp only [PyData.shown]; exact tx_of (by decide +kernel) (by decide +kernel), by simp [PyData.depth]⟩
  · exact ⟨.bool false, by simp [toRd], by simp [PyData.showable], by simp only [PyData.shown]; exact tx_of (by decide +kernel) (by decide +kernel), by simp [PyData.depth]⟩
  · exact (dok_nat (k := 1) (by omega) (by omega) (by omega) (by omega)).mono (by omega) (by omega)
  · exact ⟨.int (-1), by simp [toRd], by simp [PyData.showable]; decide +kernel, by simp only [PyData.shown]; exact tx_of (by decide +kernel) (by decide +kernel), by simp [PyData.depth]⟩
  · exact (dok_str (n := 1) (tx_of (by decide +kernel) (by decide +kernel))).mono (by omega) (by omega)
  · exact (dok_str (n := 1) (tx_of (by decide +kernel) (by decide +kernel))).mono (by omega) (by omega)
  · exact (dok_nat (i := 10 ^ 40) (k := 41) (by decide +kernel) (by omega) (by omega) (by decide +kernel)).mono (by omega) (by omega)
  · refine ⟨.dict [(.str "k", .int 1)], by simp [toRd, toRdKV, kPy], by simp [PyData.showable, PyData.showableKv]; decide +kernel, ?_, by simp [PyData.depth, PyData.depthKv]⟩
    simp only [PyData.shown, PyData.shownKv]
    exact tx_of (by decide +kernel) (by decide +kernel)
theorem ev_tupd {env : List Cell} {p p1 : Pn} {m : EX (List D)} {ds : List D} (h1 : m env p = .ok ds p1) (h2 : ds.length ≤ sizeLine) : mTup m env p = .ok (.tup ds) p1 := by
  unfold mTup EX.bind R.bind
  rw [h1]
  unfold lift dTup
  dsimp only
  rw [if_pos h2]
theorem ev_lstd {env : List Cell} {p p1 : Pn} {m : EX (List D)} {ds : List D} (h1 : m env p = .ok ds p1) (h2 : ds.length ≤ sizeLine) : mLst m env p = .ok (.lst ds) p1 := by
  unfold mLst EX.bind R.bind
  rw [h1]
  unfold lift dLst
  dsimp only
  rw [if_pos h2]
theorem neg_eq (i : Int) : dNeg (.int i) = some (.int (-i)) := id rfl
theorem field {r : PenR} {n : Nat} (h : PenI r n) (hn : n < 2 ^ 58) : ∃ d r', φ__law_field [.pen] (some r) = .ok d (some r') ∧ Fl d ∧ PenI r' (n + 2) := by
  obtain ⟨way, r1, e1, w0, w1, h1⟩ := draw (many := 8) h (by omega) (by omega) (by omega)
  have s1 : sSet 1 (mDef φ__law_draw (mCons (mV 0) (mCons (mC (.int 8)) mNil))) [.val .pen, .no] (some r) = .nx [.val .pen, .val (.int way)] (some r1) := ev_set (i := 1) (ev_def (ev_lc (ev_v rfl) (ev_lc ev_cc ev_ln)) e1)
  have t0 : mT (m2 dEq (mW 1) (mC (.int 0))) [.val .pen, .val (.int way)] (some r1) = .ok (way == 0) (some r1) := ev_T (ev_m2 (ev_w rfl) ev_cc (eq_int _ _))
  have t1 : mT (m2 dEq (mW 1) (mC (.int 1))) [.val .pen, .val (.int way)] (some r1) = .ok (way == 1) (some r1) := ev_T (ev_m2 (ev_w rfl) ev_cc (eq_int _ _))
  have p6 : dPow (.int 10) (.int 6) = some (.int 1000000) := by rw [pow_eq 10 (by omega) (by omega) (by omega)]; rfl
  have p40 : dPow (.int 10) (.int 40) = some (.int (10 ^ 40)) := by rw [pow_eq 10 (by omega) (by omega) (by omega)]; rfl
  cases c0 : (way == 0) with
  | true =>
    rw [c0] at t0
    obtain ⟨i, r2, e2, i0, i1, h2⟩ := draw (many := 100) h1 (by omega) (by omega) (by omega)
    refine ⟨.lst [.int i, .lst []], r2, ?_, ?_, h2⟩
    · show (m__law_field [.val .pen, .no] (some r)).out = _
      unfold m__law_field
      rw [ev_seq s1 (sSeq_rt (ev_if1 t0 (sSeq_rt (ev_ret (ev_lstd (ev_lc (ev_def (ev_lc (ev_v rfl) (ev_lc ev_cc ev_ln)) e2) (ev_lc (ev_lstd ev_ln (by decide)) ev_ln)) (by rw [sizeLine_eq]; simp))))))]
      rfl
    · refine (dok_lst (m := 3) (k := 1) (ds := [.int i, .lst []]) fun d hd => ?_).mono (by simp) (by decide)
      simp only [List.mem_cons, List.not_mem_nil, or_false] at hd
      rcases hd with rfl | rfl
      · exact (dok_nat (k := 2) i0 (by omega) (by omega) (by omega)).mono (by omega) (by omega)
      · exact (dok_lst (m := 0) (k := 0) (ds := []) fun d hd => nomatch hd).mono (by decide) (by decide)
  | false =>
    rw [c0] at t0
    cases c1 : (way == 1) with
    | true =>
      rw [c1] at t1
      obtain ⟨i, r2, e2, i0, i1, h2⟩ := draw (many := 1000000) h1 (by omega) (by omega) (by omega)
      refine ⟨.tup [.str "a", .tup [.int i]], r2, ?_, ?_, h2⟩
      · show (m__law_field [.val .pen, .no] (some r)).out = _
        unfold m__law_field
        rw [ev_seq s1 (ev_seq (ev_if0 t0 ev_sn) (sSeq_rt (ev_if1 t1 (sSeq_rt (ev_ret (ev_tupd (ev_lc ev_cc (ev_lc (ev_tupd (ev_lc (ev_def (ev_lc (ev_v rfl) (ev_lc (ev_m2 ev_cc ev_cc p6) ev_ln)) e2) ev_ln) (by rw [sizeLine_eq]; simp)) ev_ln)) (by rw [sizeLine_eq]; simp)))))))]
        rfl
      · refine (dok_tup (m := 12) (k := 1) (ds := [.str "a", .tup [.int i]]) fun d hd => ?_).mono (by simp) (by decide)
        simp only [List.mem_cons, List.not_mem_nil, or_false] at hd
        rcases hd with rfl | rfl
        · exact (dok_str (n := 1) (tx_of (by decide +kernel) (by decide +kernel))).mono (by omega) (by omega)
        · exact (dok_tup (m := 6) (k := 0) (ds := [.int i]) fun d hd => by
            simp only [List.mem_cons, List.not_mem_nil, or_false] at hd
            rw [hd]
            exact dok_nat (k := 6) i0 (by omega) (by omega) (by omega)).mono (by simp) (by decide)
    | false =>
      rw [c1] at t1
      obtain ⟨d, r2, e2, hm, h2⟩ := pick (ds := nine) h1 (by omega) (by decide) (by decide)
      refine ⟨d, r2, ?_, nine_ok d hm, h2⟩
      show (m__law_field [.val .pen, .no] (some r)).out = _
      unfold m__law_field
      rw [ev_seq s1 (ev_seq (ev_if0 t0 ev_sn) (ev_seq (ev_if0 t1 ev_sn) (sSeq_rt (ev_ret (ev_def (ev_lc (ev_v rfl) (ev_lc (ev_lstd (ev_lc ev_cc (ev_lc ev_cc (ev_lc ev_cc (ev_lc ev_cc (ev_lc (ev_m1 ev_cc (neg_eq _)) (ev_lc ev_cc (ev_lc ev_cc (ev_lc (ev_m2 ev_cc ev_cc p40) (ev_lc (ev_disp (ev_lc ev_cc ev_ln)) ev_ln))))))))) (by decide)) ev_ln)) e2)))))]
      rfl
end K01

namespace K01
open PySem PySem.Spec PyProof.Rows L2 Mn
theorem lk_ne {k f : Str} {d : D} {fs : List (Str × D)} (h : (k == f) = false) : List.lookup k ((f, d) :: fs) = List.lookup k fs := by simp [List.lookup, h]
theorem lk_eq {k : Str} {d : D} {fs : List (Str × D)} : List.lookup k ((k, d) :: fs) = some d := by simp [List.lookup]
theorem told_try {mb : EX Unit} {c : Nat} {fs : List (Str × D)} {a b x y : Cell} {z : Cell} {p p' p2 : Pn} {T : D} (hm : mb [a, b, x, y, z, .no] p = .ex c fs p') (hc : c < 17) (hk : φ__law_kinds c fs p' = .ok T p2) : sTry 17 mb su__law_told [a, b, x, y, z, .no] p = .nx [a, b, x, y, .val T, .no] p2 := by
  unfold sTry
  rw [hm]
  dsimp only
  rw [if_pos hc]
  show toldS (φ__law_kinds c) fs _ p' = _
  unfold toldS
  rw [if_pos (by simp), hk]
  rfl
theorem ev_ife1 {env : List Cell} {p p1 p2 : Pn} {mt : EX Bool} {m k : EX D} {d : D} (h1 : mt env p = .ok true p1) (h2 : m env p1 = .ok d p2) : mIf mt m k env p = .ok d p2 := by
  unfold mIf EX.bind R.bind
  rw [h1]
  dsimp only
  rw [if_pos rfl, h2]
theorem ev_ife0 {env : List Cell} {p p1 p2 : Pn} {mt : EX Bool} {m k : EX D} {d : D} (h1 : mt env p = .ok false p1) (h2 : k env p1 = .ok d p2) : mIf mt m k env p = .ok d p2 := by
  unfold mIf EX.bind R.bind
  rw [h1]
  dsimp only
  rw [if_neg Bool.false_ne_true, h2]
def words : List D := [.str "number", .str "row", .str "table", .str "form", .str "lot", .str "badname", .str "text", .str "wall", .str "noname", .str "taken", .str "unlike", .str "notfree", .str "many", .str "kept", .str "undo", .str "redo"]
theorem due_pre (k : SX) (a b x y : Cell) (p : Pn) : sSeq (sSet 4 (mLst (mCons (mC (.str "number")) (mCons (mC (.str "row")) (mCons (mC (.str "table")) (mCons (mC (.str "form")) (mCons (mC (.str "lot")) (mCons (mC (.str "badname")) (mCons (mC (.str "text")) (mCons (mC (.str "wall")) (mCons (mC (.str "noname")) (mCons (mC (.str "taken")) (mCons (mC (.str "unlike")) (mCons (mC (.str "notfree")) mNil))))))))))))))
    (sSeq (sSet 4 (m2 dCat (mW 4) (mLst (mCons (mC (.str "many")) (mCons (mC (.str "kept")) (mCons (mC (.str "undo")) (mCons (mC (.str "redo")) mNil))))))) k) [a, b, x, y, .no] p = k [a, b, x, y, .val (.lst words)] p := rfl
theorem kinds0 (one two three : D) (p : Pn) (s : Str) (h : dRepr two = some (.str s)) : φ__law_kinds 0 [("number", two), ("what", one)] p = .ok (.lst [.tup [.str "number", one, .str s]]) p := by
  have l0 : List.lookup ("what" : Str) [(("number" : Str), two), (("what" : Str), one)] = some one := by rw [lk_ne (by decide), lk_eq]
  have l1 : List.lookup ("number" : Str) [(("number" : Str), two), (("what" : Str), one)] = some two := lk_eq
  have m : φ__law_more_kinds 0 [("number", two), ("what", one)] p = .ok (.lst []) p := rfl
  unfold φ__law_kinds v__law_kinds
  rw [l0, l1, m]
  simp only [Option.bind_some, h]
  rfl
theorem told0 (one two three : D) (p : Pn) (s : Str) (h : dRepr two = some (.str s)) : φ__law_told [.int 0, one, two, three] p = .ok (.lst [.tup [.str "number", one, .str s]]) p := by
  have hk := kinds0 one two three p s h
  have hm : mThen (mDo φ__law_raised (mCons (mV 0) (mCons (mV 1) (mCons (mV 2) mNil)))) (mThen (mDo φ__law_raised_too (mCons (mV 0) (mCons (mV 1) (mCons (mV 2) (mCons (mV 3) mNil))))) mU) [.val (.int 0), .val one, .val two, .val three, .val .non, .no] p = .ex 0 [("number", two), ("what", one)] p := rfl
  show (m__law_told [.val (.int 0), .val one, .val two, .val three, .no, .no] p).out = _
  unfold m__law_told
  rw [ev_seq (ev_set (i := 4) ev_cc) (ev_seq (told_try hm (by decide) hk) (sSeq_rt (ev_ret (ev_v rfl))))]
  rfl
theorem due0 (one two three : D) (p : Pn) (s : Str) (h : dRepr two = some (.str s)) : φ__law_due [.int 0, one, two, three] p = .ok (.tup [.str "number", one, .str s]) p := by
  show (m__law_due [.val (.int 0), .val one, .val two, .val three, .no] p).out = _
  unfold m__law_due
  rw [due_pre, sSeq_rt (ev_if1 rfl (sSeq_rt (ev_ret (ev_tupd (ev_lc (ev_m2 (ev_w rfl) (ev_w rfl) (rfl : dIx _ _ = some (.str "number"))) (ev_lc (ev_v rfl) (ev_lc (ev_m1 (ev_v rfl) h) ev_ln))) (by rw [sizeLine_eq]; simp)))))]
  rfl
theorem kinds1 (one two three : D) (p : Pn) (s : Str) (h : dRepr two = some (.str s)) : φ__law_kinds 1 [("row", two), ("what", one)] p = .ok (.lst [.tup [.str "row", one, .str s]]) p := by
  have l0 : List.lookup ("what" : Str) [(("row" : Str), two), (("what" : Str), one)] = some one := by rw [lk_ne (by decide), lk_eq]
  have l1 : List.lookup ("row" : Str) [(("row" : Str), two), (("what" : Str), one)] = some two := lk_eq
  have m : φ__law_more_kinds 1 [("row", two), ("what", one)] p = .ok (.lst []) p := rfl
  unfold φ__law_kinds v__law_kinds
  rw [l0, l1, m]
  simp only [Option.bind_some, h]
  rfl
theorem told1 (one two three : D) (p : Pn) (s : Str) (h : dRepr two = some (.str s)) : φ__law_told [.int 1, one, two, three] p = .ok (.lst [.tup [.str "row", one, .str s]]) p := by
  have hk := kinds1 one two three p s h
  have hm : mThen (mDo φ__law_raised (mCons (mV 0) (mCons (mV 1) (mCons (mV 2) mNil)))) (mThen (mDo φ__law_raised_too (mCons (mV 0) (mCons (mV 1) (mCons (mV 2) (mCons (mV 3) mNil))))) mU) [.val (.int 1), .val one, .val two, .val three, .val .non, .no] p = .ex 1 [("row", two), ("what", one)] p := rfl
  show (m__law_told [.val (.int 1), .val one, .val two, .val three, .no, .no] p).out = _
  unfold m__law_told
  rw [ev_seq (ev_set (i := 4) ev_cc) (ev_seq (told_try hm (by decide) hk) (sSeq_rt (ev_ret (ev_v rfl))))]
  rfl
theorem due1 (one two three : D) (p : Pn) (s : Str) (h : dRepr two = some (.str s)) : φ__law_due [.int 1, one, two, three] p = .ok (.tup [.str "row", one, .str s]) p := by
  show (m__law_due [.val (.int 1), .val one, .val two, .val three, .no] p).out = _
  unfold m__law_due
  rw [due_pre, sSeq_rt (ev_if1 rfl (sSeq_rt (ev_ret (ev_tupd (ev_lc (ev_m2 (ev_w rfl) (ev_w rfl) (rfl : dIx _ _ = some (.str "row"))) (ev_lc (ev_v rfl) (ev_lc (ev_m1 (ev_v rfl) h) ev_ln))) (by rw [sizeLine_eq]; simp)))))]
  rfl
theorem kinds2 (one two three : D) (p : Pn) : φ__law_kinds 2 [("what", one)] p = .ok (.lst [.tup [.str "table", one]]) p := by
  have l0 : List.lookup ("what" : Str) [(("what" : Str), one)] = some one := lk_eq
  have m : φ__law_more_kinds 2 [("what", one)] p = .ok (.lst []) p := rfl
  unfold φ__law_kinds v__law_kinds
  rw [l0, m]
  rfl
theorem told2 (one two three : D) (p : Pn) : φ__law_told [.int 2, one, two, three] p = .ok (.lst [.tup [.str "table", one]]) p := by
  have hk := kinds2 one two three p
  have hm : mThen (mDo φ__law_raised (mCons (mV 0) (mCons (mV 1) (mCons (mV 2) mNil)))) (mThen (mDo φ__law_raised_too (mCons (mV 0) (mCons (mV 1) (mCons (mV 2) (mCons (mV 3) mNil))))) mU) [.val (.int 2), .val one, .val two, .val three, .val .non, .no] p = .ex 2 [("what", one)] p := rfl
  show (m__law_told [.val (.int 2), .val one, .val two, .val three, .no, .no] p).out = _
  unfold m__law_told
  rw [ev_seq (ev_set (i := 4) ev_cc) (ev_seq (told_try hm (by decide) hk) (sSeq_rt (ev_ret (ev_v rfl))))]
  rfl
theorem due2 (one two three : D) (p : Pn) : φ__law_due [.int 2, one, two, three] p = .ok (.tup [.str "table", one]) p := by
  show (m__law_due [.val (.int 2), .val one, .val two, .val three, .no] p).out = _
  unfold m__law_due
  rw [due_pre, ev_seq (ev_if0 rfl ev_sn) (sSeq_rt (ev_if1 rfl (sSeq_rt (ev_ret (ev_tupd (ev_lc (ev_m2 (ev_w rfl) (ev_w rfl) (rfl : dIx _ _ = some (.str "table"))) (ev_lc (ev_v rfl) ev_ln)) (by rw [sizeLine_eq]; simp))))))]
  rfl
theorem kinds3 (one two three : D) (p : Pn) : φ__law_kinds 3 [("what", one)] p = .ok (.lst [.tup [.str "form", one]]) p := by
  have l0 : List.lookup ("what" : Str) [(("what" : Str), one)] = some one := lk_eq
  have m : φ__law_more_kinds 3 [("what", one)] p = .ok (.lst []) p := rfl
  unfold φ__law_kinds v__law_kinds
  rw [l0, m]
  rfl
theorem told3 (one two three : D) (p : Pn) : φ__law_told [.int 3, one, two, three] p = .ok (.lst [.tup [.str "form", one]]) p := by
  have hk := kinds3 one two three p
  have hm : mThen (mDo φ__law_raised (mCons (mV 0) (mCons (mV 1) (mCons (mV 2) mNil)))) (mThen (mDo φ__law_raised_too (mCons (mV 0) (mCons (mV 1) (mCons (mV 2) (mCons (mV 3) mNil))))) mU) [.val (.int 3), .val one, .val two, .val three, .val .non, .no] p = .ex 3 [("what", one)] p := rfl
  show (m__law_told [.val (.int 3), .val one, .val two, .val three, .no, .no] p).out = _
  unfold m__law_told
  rw [ev_seq (ev_set (i := 4) ev_cc) (ev_seq (told_try hm (by decide) hk) (sSeq_rt (ev_ret (ev_v rfl))))]
  rfl
theorem due3 (one two three : D) (p : Pn) : φ__law_due [.int 3, one, two, three] p = .ok (.tup [.str "form", one]) p := by
  show (m__law_due [.val (.int 3), .val one, .val two, .val three, .no] p).out = _
  unfold m__law_due
  rw [due_pre, ev_seq (ev_if0 rfl ev_sn) (sSeq_rt (ev_if1 rfl (sSeq_rt (ev_ret (ev_tupd (ev_lc (ev_m2 (ev_w rfl) (ev_w rfl) (rfl : dIx _ _ = some (.str "form"))) (ev_lc (ev_v rfl) ev_ln)) (by rw [sizeLine_eq]; simp))))))]
  rfl
theorem kinds4 (one two three : D) (p : Pn) (s : Str) (h : dRepr two = some (.str s)) : φ__law_kinds 4 [("lot", two), ("what", one)] p = .ok (.lst [.tup [.str "lot", one, .str s]]) p := by
  have l0 : List.lookup ("what" : Str) [(("lot" : Str), two), (("what" : Str), one)] = some one := by rw [lk_ne (by decide), lk_eq]
  have l1 : List.lookup ("lot" : Str) [(("lot" : Str), two), (("what" : Str), one)] = some two := lk_eq
  have m : φ__law_more_kinds 4 [("lot", two), ("what", one)] p = .ok (.lst []) p := rfl
  unfold φ__law_kinds v__law_kinds
  rw [l0, l1, m]
  simp only [Option.bind_some, h]
  rfl
theorem told4 (one two three : D) (p : Pn) (s : Str) (h : dRepr two = some (.str s)) : φ__law_told [.int 4, one, two, three] p = .ok (.lst [.tup [.str "lot", one, .str s]]) p := by
  have hk := kinds4 one two three p s h
  have hm : mThen (mDo φ__law_raised (mCons (mV 0) (mCons (mV 1) (mCons (mV 2) mNil)))) (mThen (mDo φ__law_raised_too (mCons (mV 0) (mCons (mV 1) (mCons (mV 2) (mCons (mV 3) mNil))))) mU) [.val (.int 4), .val one, .val two, .val three, .val .non, .no] p = .ex 4 [("lot", two), ("what", one)] p := rfl
  show (m__law_told [.val (.int 4), .val one, .val two, .val three, .no, .no] p).out = _
  unfold m__law_told
  rw [ev_seq (ev_set (i := 4) ev_cc) (ev_seq (told_try hm (by decide) hk) (sSeq_rt (ev_ret (ev_v rfl))))]
  rfl
theorem due4 (one two three : D) (p : Pn) (s : Str) (h : dRepr two = some (.str s)) : φ__law_due [.int 4, one, two, three] p = .ok (.tup [.str "lot", one, .str s]) p := by
  show (m__law_due [.val (.int 4), .val one, .val two, .val three, .no] p).out = _
  unfold m__law_due
  rw [due_pre, sSeq_rt (ev_if1 rfl (sSeq_rt (ev_ret (ev_tupd (ev_lc (ev_m2 (ev_w rfl) (ev_w rfl) (rfl : dIx _ _ = some (.str "lot"))) (ev_lc (ev_v rfl) (ev_lc (ev_m1 (ev_v rfl) h) ev_ln))) (by rw [sizeLine_eq]; simp)))))]
  rfl
theorem kinds5 (one two three : D) (p : Pn) (s : Str) (h : dRepr one = some (.str s)) : φ__law_kinds 5 [("name", one)] p = .ok (.lst [.tup [.str "badname", .str s]]) p := by
  have l0 : List.lookup ("name" : Str) [(("name" : Str), one)] = some one := lk_eq
  have m : φ__law_more_kinds 5 [("name", one)] p = .ok (.lst []) p := rfl
  unfold φ__law_kinds v__law_kinds
  rw [l0, m]
  simp only [Option.bind_some, h]
  rfl
theorem told5 (one two three : D) (p : Pn) (s : Str) (h : dRepr one = some (.str s)) : φ__law_told [.int 5, one, two, three] p = .ok (.lst [.tup [.str "badname", .str s]]) p := by
  have hk := kinds5 one two three p s h
  have hm : mThen (mDo φ__law_raised (mCons (mV 0) (mCons (mV 1) (mCons (mV 2) mNil)))) (mThen (mDo φ__law_raised_too (mCons (mV 0) (mCons (mV 1) (mCons (mV 2) (mCons (mV 3) mNil))))) mU) [.val (.int 5), .val one, .val two, .val three, .val .non, .no] p = .ex 5 [("name", one)] p := rfl
  show (m__law_told [.val (.int 5), .val one, .val two, .val three, .no, .no] p).out = _
  unfold m__law_told
  rw [ev_seq (ev_set (i := 4) ev_cc) (ev_seq (told_try hm (by decide) hk) (sSeq_rt (ev_ret (ev_v rfl))))]
  rfl
theorem due5 (one two three : D) (p : Pn) (s : Str) (h : dRepr one = some (.str s)) : φ__law_due [.int 5, one, two, three] p = .ok (.tup [.str "badname", .str s]) p := by
  show (m__law_due [.val (.int 5), .val one, .val two, .val three, .no] p).out = _
  unfold m__law_due
  rw [due_pre, ev_seq (ev_if0 rfl ev_sn) (ev_seq (ev_if0 rfl ev_sn) (sSeq_rt (ev_if1 rfl (sSeq_rt (ev_ret (ev_tupd (ev_lc (ev_m2 (ev_w rfl) (ev_w rfl) (rfl : dIx _ _ = some (.str "badname"))) (ev_lc (ev_m1 (ev_v rfl) h) ev_ln)) (by rw [sizeLine_eq]; simp)))))))]
  rfl
theorem kinds6 (one two three : D) (p : Pn) : φ__law_kinds 6 [("word", two), ("line", one)] p = .ok (.lst [.tup [.str "text", one, two]]) p := by
  have l0 : List.lookup ("line" : Str) [(("word" : Str), two), (("line" : Str), one)] = some one := by rw [lk_ne (by decide), lk_eq]
  have l1 : List.lookup ("word" : Str) [(("word" : Str), two), (("line" : Str), one)] = some two := lk_eq
  have m : φ__law_more_kinds 6 [("word", two), ("line", one)] p = .ok (.lst []) p := rfl
  unfold φ__law_kinds v__law_kinds
  rw [l0, l1, m]
  rfl
theorem told6 (one two three : D) (p : Pn) : φ__law_told [.int 6, one, two, three] p = .ok (.lst [.tup [.str "text", one, two]]) p := by
  have hk := kinds6 one two three p
  have hm : mThen (mDo φ__law_raised (mCons (mV 0) (mCons (mV 1) (mCons (mV 2) mNil)))) (mThen (mDo φ__law_raised_too (mCons (mV 0) (mCons (mV 1) (mCons (mV 2) (mCons (mV 3) mNil))))) mU) [.val (.int 6), .val one, .val two, .val three, .val .non, .no] p = .ex 6 [("word", two), ("line", one)] p := rfl
  show (m__law_told [.val (.int 6), .val one, .val two, .val three, .no, .no] p).out = _
  unfold m__law_told
  rw [ev_seq (ev_set (i := 4) ev_cc) (ev_seq (told_try hm (by decide) hk) (sSeq_rt (ev_ret (ev_v rfl))))]
  rfl
theorem due6 (one two three : D) (p : Pn) : φ__law_due [.int 6, one, two, three] p = .ok (.tup [.str "text", one, two]) p := by
  show (m__law_due [.val (.int 6), .val one, .val two, .val three, .no] p).out = _
  unfold m__law_due
  rw [due_pre, ev_seq (ev_if0 rfl ev_sn) (ev_seq (ev_if0 rfl ev_sn) (ev_seq (ev_if0 rfl ev_sn) (sSeq_rt (ev_if1 rfl (sSeq_rt (ev_ret (ev_tupd (ev_lc (ev_m2 (ev_w rfl) (ev_w rfl) (rfl : dIx _ _ = some (.str "text"))) (ev_lc (ev_v rfl) (ev_lc (ev_v rfl) ev_ln))) (by rw [sizeLine_eq]; simp))))))))]
  rfl
theorem kinds7 (one two three : D) (p : Pn) (s : Str) (h : dRepr two = some (.str s)) : φ__law_kinds 7 [("index", two), ("what", one)] p = .ok (.lst [.tup [.str "wall", one, .str s]]) p := by
  have l0 : List.lookup ("what" : Str) [(("index" : Str), two), (("what" : Str), one)] = some one := by rw [lk_ne (by decide), lk_eq]
  have l1 : List.lookup ("index" : Str) [(("index" : Str), two), (("what" : Str), one)] = some two := lk_eq
  have m : φ__law_more_kinds 7 [("index", two), ("what", one)] p = .ok (.lst []) p := rfl
  unfold φ__law_kinds v__law_kinds
  rw [l0, l1, m]
  simp only [Option.bind_some, h]
  rfl
theorem told7 (one two three : D) (p : Pn) (s : Str) (h : dRepr two = some (.str s)) : φ__law_told [.int 7, one, two, three] p = .ok (.lst [.tup [.str "wall", one, .str s]]) p := by
  have hk := kinds7 one two three p s h
  have hm : mThen (mDo φ__law_raised (mCons (mV 0) (mCons (mV 1) (mCons (mV 2) mNil)))) (mThen (mDo φ__law_raised_too (mCons (mV 0) (mCons (mV 1) (mCons (mV 2) (mCons (mV 3) mNil))))) mU) [.val (.int 7), .val one, .val two, .val three, .val .non, .no] p = .ex 7 [("index", two), ("what", one)] p := rfl
  show (m__law_told [.val (.int 7), .val one, .val two, .val three, .no, .no] p).out = _
  unfold m__law_told
  rw [ev_seq (ev_set (i := 4) ev_cc) (ev_seq (told_try hm (by decide) hk) (sSeq_rt (ev_ret (ev_v rfl))))]
  rfl
theorem due7 (one two three : D) (p : Pn) (s : Str) (h : dRepr two = some (.str s)) : φ__law_due [.int 7, one, two, three] p = .ok (.tup [.str "wall", one, .str s]) p := by
  show (m__law_due [.val (.int 7), .val one, .val two, .val three, .no] p).out = _
  unfold m__law_due
  rw [due_pre, sSeq_rt (ev_if1 rfl (sSeq_rt (ev_ret (ev_tupd (ev_lc (ev_m2 (ev_w rfl) (ev_w rfl) (rfl : dIx _ _ = some (.str "wall"))) (ev_lc (ev_v rfl) (ev_lc (ev_m1 (ev_v rfl) h) ev_ln))) (by rw [sizeLine_eq]; simp)))))]
  rfl
theorem kinds8 (one two three : D) (p : Pn) (s : Str) (h : dRepr one = some (.str s)) : φ__law_kinds 8 [("name", one)] p = .ok (.lst [.tup [.str "noname", .str s]]) p := by
  have l0 : List.lookup ("name" : Str) [(("name" : Str), one)] = some one := lk_eq
  have m : φ__law_more_kinds 8 [("name", one)] p = .ok (.lst [.tup [.str "noname", .str s]]) p := by
    unfold φ__law_more_kinds v__law_more_kinds
    rw [l0]
    simp only [Option.bind_some, h]
    rfl
  unfold φ__law_kinds v__law_kinds
  rw [m]
  rfl
theorem told8 (one two three : D) (p : Pn) (s : Str) (h : dRepr one = some (.str s)) : φ__law_told [.int 8, one, two, three] p = .ok (.lst [.tup [.str "noname", .str s]]) p := by
  have hk := kinds8 one two three p s h
  have hm : mThen (mDo φ__law_raised (mCons (mV 0) (mCons (mV 1) (mCons (mV 2) mNil)))) (mThen (mDo φ__law_raised_too (mCons (mV 0) (mCons (mV 1) (mCons (mV 2) (mCons (mV 3) mNil))))) mU) [.val (.int 8), .val one, .val two, .val three, .val .non, .no] p = .ex 8 [("name", one)] p := rfl
  show (m__law_told [.val (.int 8), .val one, .val two, .val three, .no, .no] p).out = _
  unfold m__law_told
  rw [ev_seq (ev_set (i := 4) ev_cc) (ev_seq (told_try hm (by decide) hk) (sSeq_rt (ev_ret (ev_v rfl))))]
  rfl
theorem due8 (one two three : D) (p : Pn) (s : Str) (h : dRepr one = some (.str s)) : φ__law_due [.int 8, one, two, three] p = .ok (.tup [.str "noname", .str s]) p := by
  show (m__law_due [.val (.int 8), .val one, .val two, .val three, .no] p).out = _
  unfold m__law_due
  rw [due_pre, ev_seq (ev_if0 rfl ev_sn) (ev_seq (ev_if0 rfl ev_sn) (sSeq_rt (ev_if1 rfl (sSeq_rt (ev_ret (ev_tupd (ev_lc (ev_m2 (ev_w rfl) (ev_w rfl) (rfl : dIx _ _ = some (.str "noname"))) (ev_lc (ev_m1 (ev_v rfl) h) ev_ln)) (by rw [sizeLine_eq]; simp)))))))]
  rfl
theorem kinds9 (one two three : D) (p : Pn) (s : Str) (h : dRepr one = some (.str s)) : φ__law_kinds 9 [("name", one)] p = .ok (.lst [.tup [.str "taken", .str s]]) p := by
  have l0 : List.lookup ("name" : Str) [(("name" : Str), one)] = some one := lk_eq
  have m : φ__law_more_kinds 9 [("name", one)] p = .ok (.lst [.tup [.str "taken", .str s]]) p := by
    unfold φ__law_more_kinds v__law_more_kinds
    rw [l0]
    simp only [Option.bind_some, h]
    rfl
  unfold φ__law_kinds v__law_kinds
  rw [m]
  rfl
theorem told9 (one two three : D) (p : Pn) (s : Str) (h : dRepr one = some (.str s)) : φ__law_told [.int 9, one, two, three] p = .ok (.lst [.tup [.str "taken", .str s]]) p := by
  have hk := kinds9 one two three p s h
  have hm : mThen (mDo φ__law_raised (mCons (mV 0) (mCons (mV 1) (mCons (mV 2) mNil)))) (mThen (mDo φ__law_raised_too (mCons (mV 0) (mCons (mV 1) (mCons (mV 2) (mCons (mV 3) mNil))))) mU) [.val (.int 9), .val one, .val two, .val three, .val .non, .no] p = .ex 9 [("name", one)] p := rfl
  show (m__law_told [.val (.int 9), .val one, .val two, .val three, .no, .no] p).out = _
  unfold m__law_told
  rw [ev_seq (ev_set (i := 4) ev_cc) (ev_seq (told_try hm (by decide) hk) (sSeq_rt (ev_ret (ev_v rfl))))]
  rfl
theorem due9 (one two three : D) (p : Pn) (s : Str) (h : dRepr one = some (.str s)) : φ__law_due [.int 9, one, two, three] p = .ok (.tup [.str "taken", .str s]) p := by
  show (m__law_due [.val (.int 9), .val one, .val two, .val three, .no] p).out = _
  unfold m__law_due
  rw [due_pre, ev_seq (ev_if0 rfl ev_sn) (ev_seq (ev_if0 rfl ev_sn) (sSeq_rt (ev_if1 rfl (sSeq_rt (ev_ret (ev_tupd (ev_lc (ev_m2 (ev_w rfl) (ev_w rfl) (rfl : dIx _ _ = some (.str "taken"))) (ev_lc (ev_m1 (ev_v rfl) h) ev_ln)) (by rw [sizeLine_eq]; simp)))))))]
  rfl
theorem kinds10 (one two three : D) (p : Pn) : φ__law_kinds 10 [("what", one)] p = .ok (.lst [.tup [.str "unlike", one]]) p := by
  have l0 : List.lookup ("what" : Str) [(("what" : Str), one)] = some one := lk_eq
  have m : φ__law_more_kinds 10 [("what", one)] p = .ok (.lst [.tup [.str "unlike", one]]) p := by
    unfold φ__law_more_kinds v__law_more_kinds
    rw [l0]
    rfl
  unfold φ__law_kinds v__law_kinds
  rw [m]
  rfl
theorem told10 (one two three : D) (p : Pn) : φ__law_told [.int 10, one, two, three] p = .ok (.lst [.tup [.str "unlike", one]]) p := by
  have hk := kinds10 one two three p
  have hm : mThen (mDo φ__law_raised (mCons (mV 0) (mCons (mV 1) (mCons (mV 2) mNil)))) (mThen (mDo φ__law_raised_too (mCons (mV 0) (mCons (mV 1) (mCons (mV 2) (mCons (mV 3) mNil))))) mU) [.val (.int 10), .val one, .val two, .val three, .val .non, .no] p = .ex 10 [("what", one)] p := rfl
  show (m__law_told [.val (.int 10), .val one, .val two, .val three, .no, .no] p).out = _
  unfold m__law_told
  rw [ev_seq (ev_set (i := 4) ev_cc) (ev_seq (told_try hm (by decide) hk) (sSeq_rt (ev_ret (ev_v rfl))))]
  rfl
theorem due10 (one two three : D) (p : Pn) : φ__law_due [.int 10, one, two, three] p = .ok (.tup [.str "unlike", one]) p := by
  show (m__law_due [.val (.int 10), .val one, .val two, .val three, .no] p).out = _
  unfold m__law_due
  rw [due_pre, ev_seq (ev_if0 rfl ev_sn) (sSeq_rt (ev_if1 rfl (sSeq_rt (ev_ret (ev_tupd (ev_lc (ev_m2 (ev_w rfl) (ev_w rfl) (rfl : dIx _ _ = some (.str "unlike"))) (ev_lc (ev_v rfl) ev_ln)) (by rw [sizeLine_eq]; simp))))))]
  rfl
theorem kinds11 (one two three : D) (p : Pn) : φ__law_kinds 11 [("paper", one)] p = .ok (.lst [.tup [.str "notfree", one]]) p := by
  have l0 : List.lookup ("paper" : Str) [(("paper" : Str), one)] = some one := lk_eq
  have m : φ__law_more_kinds 11 [("paper", one)] p = .ok (.lst [.tup [.str "notfree", one]]) p := by
    unfold φ__law_more_kinds v__law_more_kinds
    rw [l0]
    rfl
  unfold φ__law_kinds v__law_kinds
  rw [m]
  rfl
theorem told11 (one two three : D) (p : Pn) : φ__law_told [.int 11, one, two, three] p = .ok (.lst [.tup [.str "notfree", one]]) p := by
  have hk := kinds11 one two three p
  have hm : mThen (mDo φ__law_raised (mCons (mV 0) (mCons (mV 1) (mCons (mV 2) mNil)))) (mThen (mDo φ__law_raised_too (mCons (mV 0) (mCons (mV 1) (mCons (mV 2) (mCons (mV 3) mNil))))) mU) [.val (.int 11), .val one, .val two, .val three, .val .non, .no] p = .ex 11 [("paper", one)] p := rfl
  show (m__law_told [.val (.int 11), .val one, .val two, .val three, .no, .no] p).out = _
  unfold m__law_told
  rw [ev_seq (ev_set (i := 4) ev_cc) (ev_seq (told_try hm (by decide) hk) (sSeq_rt (ev_ret (ev_v rfl))))]
  rfl
theorem due11 (one two three : D) (p : Pn) : φ__law_due [.int 11, one, two, three] p = .ok (.tup [.str "notfree", one]) p := by
  show (m__law_due [.val (.int 11), .val one, .val two, .val three, .no] p).out = _
  unfold m__law_due
  rw [due_pre, ev_seq (ev_if0 rfl ev_sn) (sSeq_rt (ev_if1 rfl (sSeq_rt (ev_ret (ev_tupd (ev_lc (ev_m2 (ev_w rfl) (ev_w rfl) (rfl : dIx _ _ = some (.str "notfree"))) (ev_lc (ev_v rfl) ev_ln)) (by rw [sizeLine_eq]; simp))))))]
  rfl
theorem kinds12 (one two three : D) (p : Pn) : φ__law_kinds 12 [("limit", three), ("many", two), ("what", one)] p = .ok (.lst [.tup [.str "many", one, two, three]]) p := by
  have l0 : List.lookup ("what" : Str) [(("limit" : Str), three), (("many" : Str), two), (("what" : Str), one)] = some one := by rw [lk_ne (by decide), lk_ne (by decide), lk_eq]
  have l1 : List.lookup ("many" : Str) [(("limit" : Str), three), (("many" : Str), two), (("what" : Str), one)] = some two := by rw [lk_ne (by decide), lk_eq]
  have l2 : List.lookup ("limit" : Str) [(("limit" : Str), three), (("many" : Str), two), (("what" : Str), one)] = some three := lk_eq
  have m : φ__law_more_kinds 12 [("limit", three), ("many", two), ("what", one)] p = .ok (.lst [.tup [.str "many", one, two, three]]) p := by
    unfold φ__law_more_kinds v__law_more_kinds
    rw [l0, l1, l2]
    rfl
  unfold φ__law_kinds v__law_kinds
  rw [m]
  rfl
theorem told12 (one two three : D) (p : Pn) : φ__law_told [.int 12, one, two, three] p = .ok (.lst [.tup [.str "many", one, two, three]]) p := by
  have hk := kinds12 one two three p
  have hm : mThen (mDo φ__law_raised (mCons (mV 0) (mCons (mV 1) (mCons (mV 2) mNil)))) (mThen (mDo φ__law_raised_too (mCons (mV 0) (mCons (mV 1) (mCons (mV 2) (mCons (mV 3) mNil))))) mU) [.val (.int 12), .val one, .val two, .val three, .val .non, .no] p = .ex 12 [("limit", three), ("many", two), ("what", one)] p := rfl
  show (m__law_told [.val (.int 12), .val one, .val two, .val three, .no, .no] p).out = _
  unfold m__law_told
  rw [ev_seq (ev_set (i := 4) ev_cc) (ev_seq (told_try hm (by decide) hk) (sSeq_rt (ev_ret (ev_v rfl))))]
  rfl
theorem due12 (one two three : D) (p : Pn) : φ__law_due [.int 12, one, two, three] p = .ok (.tup [.str "many", one, two, three]) p := by
  show (m__law_due [.val (.int 12), .val one, .val two, .val three, .no] p).out = _
  unfold m__law_due
  rw [due_pre, ev_seq (ev_if0 rfl ev_sn) (ev_seq (ev_if0 rfl ev_sn) (ev_seq (ev_if0 rfl ev_sn) (ev_seq (ev_if0 rfl ev_sn) (sSeq_rt (ev_ret (ev_ife1 rfl (ev_tupd (ev_lc (ev_m2 (ev_w rfl) (ev_w rfl) (rfl : dIx _ _ = some (.str "many"))) (ev_lc (ev_v rfl) (ev_lc (ev_v rfl) (ev_lc (ev_v rfl) ev_ln)))) (by rw [sizeLine_eq]; simp))))))))]
  rfl
theorem kinds13 (one two three : D) (p : Pn) : φ__law_kinds 13 [("witness", two), ("promise", one)] p = .ok (.lst [.tup [.str "kept", one, two]]) p := by
  have l0 : List.lookup ("promise" : Str) [(("witness" : Str), two), (("promise" : Str), one)] = some one := by rw [lk_ne (by decide), lk_eq]
  have l1 : List.lookup ("witness" : Str) [(("witness" : Str), two), (("promise" : Str), one)] = some two := lk_eq
  have m : φ__law_more_kinds 13 [("witness", two), ("promise", one)] p = .ok (.lst [.tup [.str "kept", one, two]]) p := by
    unfold φ__law_more_kinds v__law_more_kinds
    rw [l0, l1]
    rfl
  unfold φ__law_kinds v__law_kinds
  rw [m]
  rfl
theorem told13 (one two three : D) (p : Pn) : φ__law_told [.int 13, one, two, three] p = .ok (.lst [.tup [.str "kept", one, two]]) p := by
  have hk := kinds13 one two three p
  have hm : mThen (mDo φ__law_raised (mCons (mV 0) (mCons (mV 1) (mCons (mV 2) mNil)))) (mThen (mDo φ__law_raised_too (mCons (mV 0) (mCons (mV 1) (mCons (mV 2) (mCons (mV 3) mNil))))) mU) [.val (.int 13), .val one, .val two, .val three, .val .non, .no] p = .ex 13 [("witness", two), ("promise", one)] p := rfl
  show (m__law_told [.val (.int 13), .val one, .val two, .val three, .no, .no] p).out = _
  unfold m__law_told
  rw [ev_seq (ev_set (i := 4) ev_cc) (ev_seq (told_try hm (by decide) hk) (sSeq_rt (ev_ret (ev_v rfl))))]
  rfl
theorem due13 (one two three : D) (p : Pn) : φ__law_due [.int 13, one, two, three] p = .ok (.tup [.str "kept", one, two]) p := by
  show (m__law_due [.val (.int 13), .val one, .val two, .val three, .no] p).out = _
  unfold m__law_due
  rw [due_pre, ev_seq (ev_if0 rfl ev_sn) (ev_seq (ev_if0 rfl ev_sn) (ev_seq (ev_if0 rfl ev_sn) (sSeq_rt (ev_if1 rfl (sSeq_rt (ev_ret (ev_tupd (ev_lc (ev_m2 (ev_w rfl) (ev_w rfl) (rfl : dIx _ _ = some (.str "kept"))) (ev_lc (ev_v rfl) (ev_lc (ev_v rfl) ev_ln))) (by rw [sizeLine_eq]; simp))))))))]
  rfl
theorem kinds14 (one two three : D) (p : Pn) : φ__law_kinds 14 [] p = .ok (.lst [.tup [.str "undo"]]) p := by
  have m : φ__law_more_kinds 14 [] p = .ok (.lst [.tup [.str "undo"]]) p := by
    rfl
  unfold φ__law_kinds v__law_kinds
  rw [m]
  rfl
theorem told14 (one two three : D) (p : Pn) : φ__law_told [.int 14, one, two, three] p = .ok (.lst [.tup [.str "undo"]]) p := by
  have hk := kinds14 one two three p
  have hm : mThen (mDo φ__law_raised (mCons (mV 0) (mCons (mV 1) (mCons (mV 2) mNil)))) (mThen (mDo φ__law_raised_too (mCons (mV 0) (mCons (mV 1) (mCons (mV 2) (mCons (mV 3) mNil))))) mU) [.val (.int 14), .val one, .val two, .val three, .val .non, .no] p = .ex 14 [] p := rfl
  show (m__law_told [.val (.int 14), .val one, .val two, .val three, .no, .no] p).out = _
  unfold m__law_told
  rw [ev_seq (ev_set (i := 4) ev_cc) (ev_seq (told_try hm (by decide) hk) (sSeq_rt (ev_ret (ev_v rfl))))]
  rfl
theorem due14 (one two three : D) (p : Pn) : φ__law_due [.int 14, one, two, three] p = .ok (.tup [.str "undo"]) p := by
  show (m__law_due [.val (.int 14), .val one, .val two, .val three, .no] p).out = _
  unfold m__law_due
  rw [due_pre, ev_seq (ev_if0 rfl ev_sn) (ev_seq (ev_if0 rfl ev_sn) (ev_seq (ev_if0 rfl ev_sn) (ev_seq (ev_if0 rfl ev_sn) (sSeq_rt (ev_ret (ev_ife0 rfl (ev_tupd (ev_lc (ev_m2 (ev_w rfl) (ev_w rfl) (rfl : dIx _ _ = some (.str "undo"))) ev_ln) (by rw [sizeLine_eq]; simp))))))))]
  rfl
theorem kinds15 (one two three : D) (p : Pn) : φ__law_kinds 15 [] p = .ok (.lst [.tup [.str "redo"]]) p := by
  have m : φ__law_more_kinds 15 [] p = .ok (.lst [.tup [.str "redo"]]) p := by
    rfl
  unfold φ__law_kinds v__law_kinds
  rw [m]
  rfl
theorem told15 (one two three : D) (p : Pn) : φ__law_told [.int 15, one, two, three] p = .ok (.lst [.tup [.str "redo"]]) p := by
  have hk := kinds15 one two three p
  have hm : mThen (mDo φ__law_raised (mCons (mV 0) (mCons (mV 1) (mCons (mV 2) mNil)))) (mThen (mDo φ__law_raised_too (mCons (mV 0) (mCons (mV 1) (mCons (mV 2) (mCons (mV 3) mNil))))) mU) [.val (.int 15), .val one, .val two, .val three, .val .non, .no] p = .ex 15 [] p := rfl
  show (m__law_told [.val (.int 15), .val one, .val two, .val three, .no, .no] p).out = _
  unfold m__law_told
  rw [ev_seq (ev_set (i := 4) ev_cc) (ev_seq (told_try hm (by decide) hk) (sSeq_rt (ev_ret (ev_v rfl))))]
  rfl
theorem due15 (one two three : D) (p : Pn) : φ__law_due [.int 15, one, two, three] p = .ok (.tup [.str "redo"]) p := by
  show (m__law_due [.val (.int 15), .val one, .val two, .val three, .no] p).out = _
  unfold m__law_due
  rw [due_pre, ev_seq (ev_if0 rfl ev_sn) (ev_seq (ev_if0 rfl ev_sn) (ev_seq (ev_if0 rfl ev_sn) (ev_seq (ev_if0 rfl ev_sn) (sSeq_rt (ev_ret (ev_ife0 rfl (ev_tupd (ev_lc (ev_m2 (ev_w rfl) (ev_w rfl) (rfl : dIx _ _ = some (.str "redo"))) ev_ln) (by rw [sizeLine_eq]; simp))))))))]
  rfl
end K01

namespace K01
open PySem PySem.Spec PyProof.Rows L2 Mn
/-- what is told is what is due, and its repr is told -/
def Agree (k : Int) (one two three : D) : Prop := ∃ T x, (∀ p, φ__law_told [.int k, one, two, three] p = .ok (.lst [T]) p) ∧ (∀ p, φ__law_due [.int k, one, two, three] p = .ok T p) ∧ dRepr T = some (.str x) ∧ ∃ n, Tx n x
theorem tup_repr {tag : Str} {ds : List D} (ht : Tx 20 tag) (hd : ∀ d ∈ ds, DOk 150 2 d) (hl : ds.length ≤ 4) : ∃ x, dRepr (.tup (.str tag :: ds)) = some (.str x) ∧ ∃ n, Tx n x := by
  have h : DOk ((D.str tag :: ds).length * (150 + 2) + 3) 3 (.tup (.str tag :: ds)) := dok_tup fun d h => by
    rcases List.mem_cons.mp h with rfl | h
    · exact (dok_str ht).mono (by omega) (by omega)
    · exact hd d h
  obtain ⟨s, hs, ht⟩ := dok_repr h (by rw [sizeLine_eq, List.length_cons]; omega) (by omega)
  exact ⟨s, hs, _, ht⟩
theorem agree (k : Nat) (hk : k < 16) {one two three : D} (h1 : Fl one) (h2 : Fl two) (h3 : Fl three) : Agree (k : Int) one two three := by
  obtain ⟨s1, r1, t1⟩ := dok_repr h1 (by rw [sizeLine_eq]; omega) (by omega)
  obtain ⟨s2, r2, t2⟩ := dok_repr h2 (by rw [sizeLine_eq]; omega) (by omega)
  have a1 : DOk 150 2 one := h1.mono (by omega) (by omega)
  have a2 : DOk 150 2 two := h2.mono (by omega) (by omega)
  have a3 : DOk 150 2 three := h3.mono (by omega) (by omega)
  have b1 : DOk 150 2 (.str s1) := (dok_str t1).mono (by omega) (by omega)
  have b2 : DOk 150 2 (.str s2) := (dok_str t2).mono (by omega) (by omega)
  have mem0 : ∀ d ∈ ([] : List D), DOk 150 2 d := fun d h => nomatch h
  have memc : ∀ {d0 : D} {l : List D}, DOk 150 2 d0 → (∀ d ∈ l, DOk 150 2 d) → ∀ d ∈ d0 :: l, DOk 150 2 d := fun {d0 l} h hl d hd => (List.mem_cons.mp hd).elim (fun e => by rw [e]; exact h) (hl d)
  match k, hk with
  | 0, _ => obtain ⟨x, hx⟩ := tup_repr (tag := "number") (ds := [one, .str s2]) (tx_of (by decide +kernel) (by decide +kernel)) (memc a1 (memc b2 mem0)) (by simp); exact ⟨_, x, fun p => told0 one two three p s2 r2, fun p => due0 one two three p s2 r2, hx⟩
  | 1, _ => obtain ⟨x, hx⟩ := tup_repr (tag := "row") (ds := [one, .str s2]) (tx_of (by decide +kernel) (by decide +kernel)) (memc a1 (memc b2 mem0)) (by simp); exact ⟨_, x, fun p => told1 one two three p s2 r2, fun p => due1 one two three p s2 r2, hx⟩
  | 2, _ => obtain ⟨x, hx⟩ := tup_repr (tag := "table") (ds := [one]) (tx_of (by decide +kernel) (by decide +kernel)) (memc a1 mem0) (by simp); exact ⟨_, x, fun p => told2 one two three p, fun p => due2 one two three p, hx⟩
  | 3, _ => obtain ⟨x, hx⟩ := tup_repr (tag := "form") (ds := [one]) (tx_of (by decide +kernel) (by decide +kernel)) (memc a1 mem0) (by simp); exact ⟨_, x, fun p => told3 one two three p, fun p => due3 one two three p, hx⟩
  | 4, _ => obtain ⟨x, hx⟩ := tup_repr (tag := "lot") (ds := [one, .str s2]) (tx_of (by decide +kernel) (by decide +kernel)) (memc a1 (memc b2 mem0)) (by simp); exact ⟨_, x, fun p => told4 one two three p s2 r2, fun p => due4 one two three p s2 r2, hx⟩
  | 5, _ => obtain ⟨x, hx⟩ := tup_repr (tag := "badname") (ds := [.str s1]) (tx_of (by decide +kernel) (by decide +kernel)) (memc b1 mem0) (by simp); exact ⟨_, x, fun p => told5 one two three p s1 r1, fun p => due5 one two three p s1 r1, hx⟩
  | 6, _ => obtain ⟨x, hx⟩ := tup_repr (tag := "text") (ds := [one, two]) (tx_of (by decide +kernel) (by decide +kernel)) (memc a1 (memc a2 mem0)) (by simp); exact ⟨_, x, fun p => told6 one two three p, fun p => due6 one two three p, hx⟩
  | 7, _ => obtain ⟨x, hx⟩ := tup_repr (tag := "wall") (ds := [one, .str s2]) (tx_of (by decide +kernel) (by decide +kernel)) (memc a1 (memc b2 mem0)) (by simp); exact ⟨_, x, fun p => told7 one two three p s2 r2, fun p => due7 one two three p s2 r2, hx⟩
  | 8, _ => obtain ⟨x, hx⟩ := tup_repr (tag := "noname") (ds := [.str s1]) (tx_of (by decide +kernel) (by decide +kernel)) (memc b1 mem0) (by simp); exact ⟨_, x, fun p => told8 one two three p s1 r1, fun p => due8 one two three p s1 r1, hx⟩
  | 9, _ => obtain ⟨x, hx⟩ := tup_repr (tag := "taken") (ds := [.str s1]) (tx_of (by decide +kernel) (by decide +kernel)) (memc b1 mem0) (by simp); exact ⟨_, x, fun p => told9 one two three p s1 r1, fun p => due9 one two three p s1 r1, hx⟩
  | 10, _ => obtain ⟨x, hx⟩ := tup_repr (tag := "unlike") (ds := [one]) (tx_of (by decide +kernel) (by decide +kernel)) (memc a1 mem0) (by simp); exact ⟨_, x, fun p => told10 one two three p, fun p => due10 one two three p, hx⟩
  | 11, _ => obtain ⟨x, hx⟩ := tup_repr (tag := "notfree") (ds := [one]) (tx_of (by decide +kernel) (by decide +kernel)) (memc a1 mem0) (by simp); exact ⟨_, x, fun p => told11 one two three p, fun p => due11 one two three p, hx⟩
  | 12, _ => obtain ⟨x, hx⟩ := tup_repr (tag := "many") (ds := [one, two, three]) (tx_of (by decide +kernel) (by decide +kernel)) (memc a1 (memc a2 (memc a3 mem0))) (by simp); exact ⟨_, x, fun p => told12 one two three p, fun p => due12 one two three p, hx⟩
  | 13, _ => obtain ⟨x, hx⟩ := tup_repr (tag := "kept") (ds := [one, two]) (tx_of (by decide +kernel) (by decide +kernel)) (memc a1 (memc a2 mem0)) (by simp); exact ⟨_, x, fun p => told13 one two three p, fun p => due13 one two three p, hx⟩
  | 14, _ => obtain ⟨x, hx⟩ := tup_repr (tag := "undo") (ds := []) (tx_of (by decide +kernel) (by decide +kernel)) mem0 (by simp); exact ⟨_, x, fun p => told14 one two three p, fun p => due14 one two three p, hx⟩
  | 15, _ => obtain ⟨x, hx⟩ := tup_repr (tag := "redo") (ds := []) (tx_of (by decide +kernel) (by decide +kernel)) mem0 (by simp); exact ⟨_, x, fun p => told15 one two three p, fun p => due15 one two three p, hx⟩
  | _ + 16, h => exact absurd h (by omega)
theorem or0 {env : List Cell} {p p1 p2 : Pn} {mt mu : EX Bool} {b : Bool} (h1 : mt env p = .ok false p1) (h2 : mu env p1 = .ok b p2) : mOr mt mu env p = .ok b p2 := by
  unfold mOr EX.bind R.bind
  rw [h1]
  dsimp only
  rw [if_neg Bool.false_ne_true, h2]
theorem ne_int (a b : Int) : dNe (.int a) (.int b) = some (.bl (!(a == b))) := by
  simp [dNe, eqD, toPy, SeqAt.shaped, PyData.canLay0, PyData.depth, PyData.eqv]
theorem ne_str {x : Str} {n : Nat} (h : Tx n x) : dNe (.str x) (.str x) = some (.bl false) := by
  have e : PyData.strOk x = true := by
    unfold PyData.strOk
    rw [← Array.all_toList]
    exact List.all_eq_true.mpr fun c hc => decide_eq_true (Nat.lt_trans (h.asc c hc).2 (by decide))
  simp [dNe, eqD, toPy, SeqAt.shaped, PyData.canLay0, PyData.depth, PyData.eqv, e]
theorem par3 {env : List Cell} {p p1 : Pn} {m : EX (List D)} {a b c : D} (h : m env p = .ok [a, b, c] p1) : sPar3 3 4 5 m env p = .nx (((env.set 3 (.val a)).set 4 (.val b)).set 5 (.val c)) p1 := by
  unfold sPar3 SX.of R.then
  rw [h]
theorem turn {r : PenR} {n k : Nat} (h : PenI r n) (hn : n < 2 ^ 50) (hk : k < 16) (sc c3 c4 c5 c6 : Cell) : ∃ c3 c4' c5' c6' r', (sSeq
        (sPar3 3 4 5
          (mCons (mDef φ__law_field (mCons (mV 1) mNil))
            (mCons (mDef φ__law_field (mCons (mV 1) mNil)) (mCons (mDef φ__law_field (mCons (mV 1) mNil)) mNil))))
        (sSeq (sSet 6 (mDef φ__law_told (mCons (mV 2) (mCons (mV 3) (mCons (mV 4) (mCons (mV 5) mNil))))))
          (sSeq
            (sIf
              (mOr (mT (m1 (fun d => some (D.bl (Mn.isNon d))) (mW 6)))
                (mOr (mT (m2 dNe (mLen (mW 6)) (mC (D.int 1))))
                  (mT
                    (m2 dNe (m1 dRepr (m2 dIx (mW 6) (mC (D.int 0))))
                      (m1 dRepr (mDef φ__law_due (mCons (mV 2) (mCons (mV 3) (mCons (mV 4) (mCons (mV 5) mNil))))))))))
              (sSeq (sRet (mC (D.bl false))) sNil) sNil)
            sNil))) [sc, .val .pen, .val (.int (k : Int)), c3, c4, c5, c6] (some r) = .nx [sc, .val .pen, .val (.int (k : Int)), c3, c4', c5', c6'] (some r') ∧ PenI r' (n + 6) := by
  obtain ⟨one, r1, e1, f1, h1⟩ := field h (by omega)
  obtain ⟨two, r2, e2, f2, h2⟩ := field h1 (by omega)
  obtain ⟨three, r3, e3, f3, h3⟩ := field h2 (by omega)
  obtain ⟨T, x, ht, hd, hx, nx, tx⟩ := agree k hk f1 f2 f3
  refine ⟨.val one, .val two, .val three, .val (.lst [T]), r3, ?_, h3⟩
  have s1 := par3 (env := [sc, .val .pen, .val (.int (k : Int)), c3, c4, c5, c6]) (ev_lc (ev_def (ev_lc (ev_v (i := 1) rfl) ev_ln) e1) (ev_lc (ev_def (ev_lc (ev_v (i := 1) rfl) ev_ln) e2) (ev_lc (ev_def (ev_lc (ev_v (i := 1) rfl) ev_ln) e3) ev_ln)))
  have s2 : sSet 6 (mDef φ__law_told (mCons (mV 2) (mCons (mV 3) (mCons (mV 4) (mCons (mV 5) mNil))))) [sc, .val .pen, .val (.int (k : Int)), .val one, .val two, .val three, c6] (some r3) = .nx [sc, .val .pen, .val (.int (k : Int)), .val one, .val two, .val three, .val (.lst [T])] (some r3) := ev_set (i := 6) (ev_def (ev_lc (ev_v rfl) (ev_lc (ev_v rfl) (ev_lc (ev_v rfl) (ev_lc (ev_v rfl) ev_ln)))) (ht _))
  refine ev_seq s1 (ev_seq s2 (ev_seq (ev_if0 (or0 (ev_T (ev_m1 (ev_w rfl) rfl)) (or0 (ev_T (ev_m2 (ev_mLen (ev_w rfl) (len_lst _)) ev_cc (ne_int _ _))) (ev_T (ev_m2 (ev_m1 (ev_m2 (ev_w rfl) ev_cc (rfl : dIx (.lst [T]) (.int 0) = some T)) hx) (ev_m1 (ev_def (ev_lc (ev_v rfl) (ev_lc (ev_v rfl) (ev_lc (ev_v rfl) (ev_lc (ev_v rfl) ev_ln)))) (hd _)) hx) (ne_str tx))))) ev_sn) ev_sn))
end K01

namespace K01
open PySem PySem.Spec PyProof.Rows L2 Mn
theorem loop16 (b : SX) (hb : ∀ {r : PenR} {n k : Nat}, PenI r n → n < 2 ^ 50 → k < 16 → ∀ (sc c3 c4 c5 c6 : Cell), ∃ d3 d4 d5 d6 r', b [sc, .val .pen, .val (.int (k : Int)), c3, c4, c5, c6] (some r) = .nx [sc, .val .pen, .val (.int (k : Int)), d3, d4, d5, d6] (some r') ∧ PenI r' (n + 6)) :
    ∀ (ks : List Nat) (r : PenR) (n : Nat) (sc x c3 c4 c5 c6 : Cell), (∀ k ∈ ks, k < 16) → PenI r n → n + 6 * ks.length < 2 ^ 50 →
      ∃ env r', loopF (gN 2) b (ks.map fun (k : Nat) => D.int (k : Int)) [sc, .val .pen, x, c3, c4, c5, c6] (some r) = .nx env (some r')
  | [], r, n, sc, x, c3, c4, c5, c6, _, _, _ => ⟨_, r, rfl⟩
  | k :: ks, r, n, sc, x, c3, c4, c5, c6, hk, h, hn => by
    rw [List.length_cons] at hn
    obtain ⟨d3, d4, d5, d6, r', e, h'⟩ := hb h (by omega) (hk k (by simp)) sc c3 c4 c5 c6
    obtain ⟨env, r2, e2⟩ := loop16 b hb ks r' (n + 6) sc (.val (.int (k : Int))) d3 d4 d5 d6 (fun j hj => hk j (by simp [hj])) h' (by omega)
    refine ⟨env, r2, ?_⟩
    have g1 : gN 2 (.int (k : Int)) [sc, .val .pen, x, c3, c4, c5, c6] = some [sc, .val .pen, .val (.int (k : Int)), c3, c4, c5, c6] := rfl
    rw [List.map_cons, loopF_nx g1 e]
    exact e2
theorem rng16 : dRng1 (.int 16) = some ((List.range 16).map fun (k : Nat) => D.int (k : Int)) := by rfl
theorem ev_for {env : List Cell} {p p1 : Pn} {m : EX (List D)} {g : GX} {b : SX} {ds : List D} {r : RS} (h1 : m env p = .ok ds p1) (h2 : loopF g b ds env p1 = r) : sFor m g b env p = r := by
  unfold sFor SX.of R.then
  rw [h1]
  exact h2
theorem ev_rng {env : List Cell} {p : Pn} : ((mC (D.int 16)).bind fun d => lift (dRng1 d)) env p = .ok ((List.range 16).map fun (k : Nat) => D.int (k : Int)) p := by
  show lift (dRng1 (.int 16)) env p = _
  rw [rng16]
  rfl
abbrev bodyL : SX := (sSeq
        (sPar3 3 4 5
          (mCons (mDef φ__law_field (mCons (mV 1) mNil))
            (mCons (mDef φ__law_field (mCons (mV 1) mNil)) (mCons (mDef φ__law_field (mCons (mV 1) mNil)) mNil))))
        (sSeq (sSet 6 (mDef φ__law_told (mCons (mV 2) (mCons (mV 3) (mCons (mV 4) (mCons (mV 5) mNil))))))
          (sSeq
            (sIf
              (mOr (mT (m1 (fun d => some (D.bl (Mn.isNon d))) (mW 6)))
                (mOr (mT (m2 dNe (mLen (mW 6)) (mC (D.int 1))))
                  (mT
                    (m2 dNe (m1 dRepr (m2 dIx (mW 6) (mC (D.int 0))))
                      (m1 dRepr (mDef φ__law_due (mCons (mV 2) (mCons (mV 3) (mCons (mV 4) (mCons (mV 5) mNil))))))))))
              (sSeq (sRet (mC (D.bl false))) sNil) sNil)
            sNil)))
theorem law_true (ns : List Int) : ∃ p, φ_law [.scr ns] none = .ok (.bl true) p := by
  obtain ⟨r, e, h⟩ := pen_ok ns
  have s1 : sSet 1 (mDef φ__law_pen (mCons (mV 0) mNil)) [.val (.scr ns), .no, .no, .no, .no, .no, .no] none = .nx [.val (.scr ns), .val .pen, .no, .no, .no, .no, .no] (some r) := ev_set (i := 1) (ev_def (ev_lc (ev_v (i := 0) rfl) ev_ln) e)
  obtain ⟨env, r', e2⟩ := loop16 bodyL (fun {r n k} h hn hk sc c3 c4 c5 c6 => turn h hn hk sc c3 c4 c5 c6) (List.range 16) r 0 (.val (.scr ns)) .no .no .no .no .no (fun k hk => List.mem_range.mp hk) h (by decide)
  refine ⟨some r', ?_⟩
  show (m_law [.val (.scr ns), .no, .no, .no, .no, .no, .no] none).out = _
  unfold m_law
  rw [ev_seq s1 (ev_seq (ev_for ev_rng e2) (sSeq_rt (ev_ret ev_cc)))]
  rfl
theorem law_end (K : PySem.W.Frag) (H : Hp) (a : Addr) (ns : List Int) (hS : SqL K H a (ns.map V.int)) : spI K (Ad K) 1 φ_law [.ref a] H (fun v _ => v = .bl true) fun _ _ _ => False := by
  obtain ⟨p, e⟩ := law_true ns
  refine ⟨⟨H, none⟩, [.scr ns], none, rfl, ⟨Fz.Le.refl _, fun _ _ h => h, rfl, fun _ _ h _ _ => h, fun _ h => h, fun _ _ h => h, fun _ h => .inl h, fun t ht => nomatch ht⟩, .cons (.scr hS) .nil, ?_⟩
  rw [e]
  intro v H' Z' x r
  have r : Rel K (Ad K) Z' (.bl true) v := r
  cases r
  rfl
end K01

open PySem PySem.W PySem.Calls PyProof.Rows
theorem PySem.Challenge.cw_freewalls_k01_errors_as_told_holds : PySem.Challenge.rw_freewalls_k01_errors_as_told.Holds := by
  w_on; o_law
  refine HandSHeadRun.head_any (r := OpenLaw.row PySem.Challenge.rw_freewalls_k01_errors_as_told) (q := view (OpenLaw.row PySem.Challenge.rw_freewalls_k01_errors_as_told).prog [29]) (H := K01.hk) (ob := K01.ob) (M := 12000) (loose := K01.nms) (d := HandSHeadRun.topDef (OpenLaw.row PySem.Challenge.rw_freewalls_k01_errors_as_told).prog 29) (kwd := []) K01.ob_eq
    (by kernel_rfl) (fun s => by kernel_rfl) K01.run (by kernel_rfl) (by kernel_rfl) (by kernel_rfl) (by rfl) (by first | assumption | decide +kernel) (by decide +kernel) ⟨rfl, rfl, rfl, rfl, rfl, by decide +kernel⟩ ?hw ?hc
  case hw => w_witness2
  case hc =>
    refine Mn.walk_ofM (l := PySem.Challenge.rw_freewalls_k01_errors_as_told) (n := 63) (k := 6) (x := "script") rfl (by decide) (by kernel_rfl) ⟨rfl, by decide, by decide⟩ ?F
    intro w mg fa h Y G hmg0
    obtain ⟨⟨K, KX, c⟩, sy⟩ := Y
    have hmg : mg ("law" : PySem.Str) = some (.ref fa) := by
      have e : (HandSHeadRun.topDef (OpenLaw.row PySem.Challenge.rw_freewalls_k01_errors_as_told).prog 29).name = ("law" : PySem.Str) := by kernel_rfl
      rw [← e]
      exact hmg0
    obtain ⟨fdt, hb, hF⟩ := K01.facts (P := (PySem.Challenge.rw_freewalls_k01_errors_as_told).prog) (w := w) KX G hmg c
    exact ⟨K, KX, fdt, [], Mn.spI K (K01.Ad K) 1 K01.φ_law, (fun p hp => nomatch hp), (fun p hp => nomatch hp), (fun p hp => nomatch hp), sy, hb, fun H a ns hl hbits _ hS => K01.law_end K H a ns hS, fun base KB GB _ SB => hF base KB GB SB⟩

