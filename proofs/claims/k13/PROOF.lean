import PyProof.Rows.All
import Wide.All
import OpenK.AllK
import Wide.FinOn
import HandS.ForMost
import HandS.Exc
import HandS.TryMany
import HandS.WordsExc
import KE.DataEq
import HandS.Walk
import HandS.TryOnly
import HandS.Comp
import HandS.Iter
import HandS.CallSlots
import HandS.IsInst
import HandS.TupAny
import HandS.WordsList
import KE.GoesNew
import KE.GoesMore
import KE.GoesEnum
import HandS.TupMul
import HandS.Style
import HandS.ExcField
import HandS.ExcInit
import HandS.Text
import HandS.StrMore
import HandS.Codes
import HandS.HeadHook2
import HandS.HeadEnd
import HandS.Head2
import PySem.Challenge.RW_leastwaits_k13_words
set_option Elab.async false
set_option linter.all false
set_option maxRecDepth 100000
set_option maxHeartbeats 2000000
namespace DL
open PySem L2

/-- data -/
inductive D where
  | non | bl (b : Bool) | int (i : Int) | str (s : Str) | tup (l : List D) | kup (l : List D) | lst (l : List D)
  | dic (l : List (Key × D)) | dit (l : List (List Key × D)) | obj (c : Str) (fs : List (Str × D)) | pen | clo (n : Nat) (fs : List D)

/-- the fixed things of a run: the written part, the module's names, the pen's address -/
structure Cf where
  K : PySem.W.Frag
  mg : Str → Option Value
  p : Addr
  lc : Addr

abbrev noH : Hp := fun _ => none
mutual
/-- v, in H, is the data d, with no object of A in it -/
inductive Rep (c : Cf) (A : Addr → Prop) (H : Hp) : V → D → Prop
  | non : Rep c A H .non .non
  | bl (b : Bool) : Rep c A H (.bl b) (.bl b)
  | int (i : Int) : Rep c A H (.int i) (.int i)
  | str (x : Str) : Rep c A H (.str x) (.str x)
  | tup {a : Addr} {vs : List V} {ds : List D} : H a = some (.tup vs) → ¬ A a → a ≠ c.p → RepL c A H vs ds → Rep c A H (.ref a) (.tup ds)
  | tupK {a : Addr} {vs : List V} {ds : List D} : SqT c.K noH a vs → RepL c A H vs ds → Rep c A H (.ref a) (.kup ds)
  | lst {a : Addr} {vs : List V} {ds : List D} : H a = some (.lst vs) → ¬ A a → a ≠ c.p → RepL c A H vs ds → Rep c A H (.ref a) (.lst ds)
  | dic {a : Addr} {kvs : List (Key × V)} {kds : List (Key × D)} : Rd H a (.dK kvs) → ¬ A a → a ≠ c.p → kvs.map (·.1) = kds.map (·.1) → RepL c A H (kvs.map (·.2)) (kds.map (·.2)) → Rep c A H (.ref a) (.dic kds)
  | dit {a : Addr} {kvs : List (List Key × V)} {kds : List (List Key × D)} : Rd H a (.dT kvs) → ¬ A a → a ≠ c.p → kvs.map (·.1) = kds.map (·.1) → RepL c A H (kvs.map (·.2)) (kds.map (·.2)) → Rep c A H (.ref a) (.dit kds)
  | obj {a C dx : Addr} {n : Str} {fvs : List (Str × V)} {fds : List (Str × D)} : c.mg n = some (.ref C) → H a = some (.ins C dx fvs) → ¬ A a → a ≠ c.p → fvs.map (·.1) = fds.map (·.1) → RepL c A H (fvs.map (·.2)) (fds.map (·.2)) → Rep c A H (.ref a) (.obj n fds)
  | pen : Rep c A H (.ref c.p) .pen
inductive RepL (c : Cf) (A : Addr → Prop) (H : Hp) : List V → List D → Prop
  | nil : RepL c A H [] []
  | cons {v : V} {d : D} {vs : List V} {ds : List D} : Rep c A H v d → RepL c A H vs ds → RepL c A H (v :: vs) (d :: ds)
end

/-- all but the pen is as it was, and the pen is there -/
structure Kp (p : Addr) (H H' : Hp) : Prop where
  k : ∀ b o, b ≠ p → H b = some o → H' b = some o
  t : (∃ o, H p = some o) → ∃ o, H' p = some o
/-- all but the pen and A's -/
def KpA (p : Addr) (A : Addr → Prop) (H H' : Hp) : Prop := ∀ b o, ¬ A b → b ≠ p → H b = some o → H' b = some o
theorem Kp.refl {p : Addr} {H : Hp} : Kp p H H := ⟨fun _ _ _ h => h, fun h => h⟩
theorem Kp.trans {p : Addr} {H H1 H2 : Hp} (a : Kp p H H1) (b : Kp p H1 H2) : Kp p H H2 := ⟨fun c o n h => b.k c o n (a.k c o n h), fun h => b.t (a.t h)⟩
theorem Kp.a {p : Addr} {A : Addr → Prop} {H H' : Hp} (k : Kp p H H') : KpA p A H H' := fun b o _ n h => k.k b o n h
theorem Kp.of {p : Addr} {H H' : Hp} (k : Same H H') : Kp p H H' := ⟨fun b o _ h => k b o h, fun ⟨o, h⟩ => ⟨o, k p o h⟩⟩
theorem same_new {q : Addr} {H : Hp} {o : HO} (h : H q = none) : Same H (upd H q o) := fun a u e => by rw [upd_ne (ne_of_none e h)]; exact e
theorem Kp.tr {p a : Addr} {H H' : Hp} (k : Kp p H H') (h : ∃ o, H a = some o) : ∃ o, H' a = some o := by
  by_cases e : a = p
  · subst e; exact k.t h
  · obtain ⟨o, h⟩ := h; exact ⟨o, k.k a o e h⟩
theorem Kp.free {p q : Addr} {H H' : Hp} (k : Kp p H H') (h : H' q = none) : H q = none := by
  cases e : H q with
  | none => rfl
  | some o => obtain ⟨u, z⟩ := k.tr ⟨o, e⟩; rw [z] at h; cases h
theorem KpA.upd {p q : Addr} {A : Addr → Prop} {H : Hp} {o : HO} (h : A q) : KpA p A H (upd H q o) := fun b u n _ e => by
  rw [upd_ne (fun z => n (by rw [z]; exact h))]; exact e
theorem Rd.keepA {p a : Addr} {A : Addr → Prop} {H H' : Hp} {u : HO} (k : KpA p A H H') (n : ¬ A a) (m : a ≠ p) (h : Rd H a u) : Rd H' a u := by
  rcases h with h | ⟨o, h⟩
  · exact .inl (k a _ n m h)
  · exact .inr ⟨o, k a _ n m h⟩

mutual
theorem Rep.keepA {c : Cf} {A : Addr → Prop} {H H' : Hp} (k : KpA c.p A H H') : ∀ {v : V} {d : D}, Rep c A H v d → Rep c A H' v d
  | _, _, .non => .non
  | _, _, .bl b => .bl b
  | _, _, .int i => .int i
  | _, _, .str x => .str x
  | _, _, .tup h n m r => .tup (k _ _ n m h) n m (RepL.keepA k r)
  | _, _, .tupK h r => .tupK h (RepL.keepA k r)
  | _, _, .lst h n m r => .lst (k _ _ n m h) n m (RepL.keepA k r)
  | _, _, .dic h n m e r => .dic (Rd.keepA k n m h) n m e (RepL.keepA k r)
  | _, _, .dit h n m e r => .dit (Rd.keepA k n m h) n m e (RepL.keepA k r)
  | _, _, .obj g h n m e r => .obj g (k _ _ n m h) n m e (RepL.keepA k r)
  | _, _, .pen => .pen
theorem RepL.keepA {c : Cf} {A : Addr → Prop} {H H' : Hp} (k : KpA c.p A H H') : ∀ {vs : List V} {ds : List D}, RepL c A H vs ds → RepL c A H' vs ds
  | _, _, .nil => .nil
  | _, _, .cons h r => .cons (Rep.keepA k h) (RepL.keepA k r)
end
mutual
/-- A may grow by what is not tracked, and shrink -/
theorem Rep.to {c : Cf} {A A' : Addr → Prop} {H : Hp} (k : ∀ a, A' a → A a ∨ H a = none) : ∀ {v : V} {d : D}, Rep c A H v d → Rep c A' H v d
  | _, _, .non => .non
  | _, _, .bl b => .bl b
  | _, _, .int i => .int i
  | _, _, .str x => .str x
  | _, _, .tup h n m r => .tup h (fun z => (k _ z).elim n fun e => by rw [e] at h; cases h) m (RepL.to k r)
  | _, _, .tupK h r => .tupK h (RepL.to k r)
  | _, _, .lst h n m r => .lst h (fun z => (k _ z).elim n fun e => by rw [e] at h; cases h) m (RepL.to k r)
  | _, _, .dic h n m e r => .dic h (fun z => (k _ z).elim n fun e => by rcases h with h | ⟨_, h⟩ <;> (rw [e] at h; cases h)) m e (RepL.to k r)
  | _, _, .dit h n m e r => .dit h (fun z => (k _ z).elim n fun e => by rcases h with h | ⟨_, h⟩ <;> (rw [e] at h; cases h)) m e (RepL.to k r)
  | _, _, .obj g h n m e r => .obj g h (fun z => (k _ z).elim n fun e => by rw [e] at h; cases h) m e (RepL.to k r)
  | _, _, .pen => .pen
theorem RepL.to {c : Cf} {A A' : Addr → Prop} {H : Hp} (k : ∀ a, A' a → A a ∨ H a = none) : ∀ {vs : List V} {ds : List D}, RepL c A H vs ds → RepL c A' H vs ds
  | _, _, .nil => .nil
  | _, _, .cons h r => .cons (Rep.to k h) (RepL.to k r)
end

/-! ### the world: the pen's state -/
structure Wd where
  cells : List Int
  at_ : Int
  dg : Int
  ct : Int
  fo : Int
  at0 : 0 ≤ at_
  dg0 : 0 ≤ dg
  ct0 : 0 ≤ ct
  fo0 : 0 ≤ fo
  fo1 : fo < 2 ^ 31
  cl : cells.length ≤ 63
/-- the pen's dict -/
def penKvs (lc : Addr) (w : Wd) : List (Key × V) := [(.inr "cells", .ref lc), (.inr "at", .int w.at_), (.inr "digits", .int w.dg), (.inr "count", .int w.ct), (.inr "fold", .int w.fo)]
def wlim : Int := 2 ^ 40
structure Wd.Ok (w : Wd) : Prop where
  at0 : 0 ≤ w.at_
  dg0 : 0 ≤ w.dg
  ct0 : 0 ≤ w.ct
  fo0 : 0 ≤ w.fo
  fo1 : w.fo < 2 ^ 31
theorem Wd.isOk (w : Wd) : w.Ok := ⟨w.at0, w.dg0, w.ct0, w.fo0, w.fo1⟩
/-- the pen stands at p, or none does -/
def PenAt (p lc : Addr) (A : Addr → Prop) (H : Hp) (w : Wd) : Prop := w.Ok ∧ w.cells.length ≤ 63 ∧ H p = some (.dK (penKvs lc w)) ∧ H lc = some (.lst (w.cells.map V.int)) ∧ ¬ A lc ∧ ¬ A p ∧ lc ≠ p

abbrev Slot := Option (D × Bool)
abbrev Env := List Slot
/-- what an expression comes to -/
inductive Res where
  | ok (d : D) (w : Wd)
  | exc (n : Str) (fs : List (Str × D)) (w : Wd)
  | bad
/-- what a statement comes to -/
inductive SR where
  | nx (r : Env) (w : Wd)
  | rt (d : D) (w : Wd)
  | bk (r : Env) (w : Wd)
  | ct (r : Env) (w : Wd)
  | exc (n : Str) (fs : List (Str × D)) (r : Env) (w : Wd)
  | bad
abbrev EM := Env → Wd → Res
abbrev SM := Env → Wd → SR

/-- what is fixed through a call: the pen, what the callers own, the heap at the entry -/
structure Bs where
  p : Addr
  lc : Addr
  A0 : Addr → Prop
  H0 : Hp
abbrev Bs.cf (B : Bs) (K : PySem.W.Frag) (mg : Str → Option Value) : Cf := ⟨K, mg, B.p, B.lc⟩
/-- an owned object at a: what it holds avoids A -/
def OwnR (c : Cf) (A : Addr → Prop) (H : Hp) (a : Addr) : D → Prop
  | .lst ds => ∃ vs, H a = some (.lst vs) ∧ RepL c A H vs ds
  | .dic kds => ∃ kvs, H a = some (.dK kvs) ∧ kvs.map (·.1) = kds.map (·.1) ∧ RepL c A H (kvs.map (·.2)) (kds.map (·.2))
  | .dit kds => ∃ kvs, H a = some (.dT kvs) ∧ kvs.map (·.1) = kds.map (·.1) ∧ RepL c A H (kvs.map (·.2)) (kds.map (·.2))
  | .obj n fds => ∃ C dx fvs, c.mg n = some (.ref C) ∧ H a = some (.ins C dx fvs) ∧ fvs.map (·.1) = fds.map (·.1) ∧ RepL c A H (fvs.map (·.2)) (fds.map (·.2))
  | _ => False
theorem OwnR.keepA {c : Cf} {A : Addr → Prop} {H H' : Hp} {a : Addr} {d : D} (k : KpA c.p A H H') (e : ∀ o, H a = some o → H' a = some o) (h : OwnR c A H a d) : OwnR c A H' a d := by
  cases d <;> first | exact h.elim | skip
  · obtain ⟨vs, h1, h2⟩ := h; exact ⟨vs, e _ h1, h2.keepA k⟩
  · obtain ⟨vs, h1, h0, h2⟩ := h; exact ⟨vs, e _ h1, h0, h2.keepA k⟩
  · obtain ⟨vs, h1, h0, h2⟩ := h; exact ⟨vs, e _ h1, h0, h2.keepA k⟩
  · obtain ⟨C, dx, vs, g, h1, h0, h2⟩ := h; exact ⟨C, dx, vs, g, e _ h1, h0, h2.keepA k⟩
theorem OwnR.to {c : Cf} {A A' : Addr → Prop} {H : Hp} {a : Addr} {d : D} (k : ∀ a, A' a → A a ∨ H a = none) (h : OwnR c A H a d) : OwnR c A' H a d := by
  cases d <;> first | exact h.elim | skip
  · obtain ⟨vs, h1, h2⟩ := h; exact ⟨vs, h1, h2.to k⟩
  · obtain ⟨vs, h1, h0, h2⟩ := h; exact ⟨vs, h1, h0, h2.to k⟩
  · obtain ⟨vs, h1, h0, h2⟩ := h; exact ⟨vs, h1, h0, h2.to k⟩
  · obtain ⟨C, dx, vs, g, h1, h0, h2⟩ := h; exact ⟨C, dx, vs, g, h1, h0, h2.to k⟩
/-- an owned object is tracked -/
theorem OwnR.some {c : Cf} {A : Addr → Prop} {H : Hp} {a : Addr} {d : D} (h : OwnR c A H a d) : ∃ o, H a = some o := by
  cases d <;> first | exact h.elim | skip
  · obtain ⟨vs, h1, h2⟩ := h; exact ⟨_, h1⟩
  · obtain ⟨vs, h1, h0, h2⟩ := h; exact ⟨_, h1⟩
  · obtain ⟨vs, h1, h0, h2⟩ := h; exact ⟨_, h1⟩
  · obtain ⟨C, dx, vs, g, h1, h0, h2⟩ := h; exact ⟨_, h1⟩
/-- let go: it is plain data -/
theorem OwnR.rep {c : Cf} {A : Addr → Prop} {H : Hp} {a : Addr} {d : D} (n : ¬ A a) (m : a ≠ c.p) (h : OwnR c A H a d) : Rep c A H (.ref a) d := by
  cases d <;> first | exact h.elim | skip
  · obtain ⟨vs, h1, h2⟩ := h; exact .lst h1 n m h2
  · obtain ⟨vs, h1, h0, h2⟩ := h; exact .dic (.inl h1) n m h0 h2
  · obtain ⟨vs, h1, h0, h2⟩ := h; exact .dit (.inl h1) n m h0 h2
  · obtain ⟨C, dx, vs, g, h1, h0, h2⟩ := h; exact .obj g h1 n m h0 h2

/-- the slots σ in the heap H are the environment r; A: all that is owned, here or by callers -/
structure StOk (K : PySem.W.Frag) (mg : Str → Option Value) (B : Bs) (A : Addr → Prop) (σ : L2.St) (H : Hp) (r : Env) : Prop where
  kp : Kp B.p B.H0 H
  tp : ∃ o, H B.p = some o
  tr : ∀ a, A a → ∃ o, H a = some o
  a0 : ∀ a, B.A0 a → A a
  t0 : ∀ a, B.A0 a → ∃ o, B.H0 a = some o
  ax : ∀ a, A a → B.A0 a ∨ B.H0 a = none
  np : ¬ A B.p
  pl : ∀ (i : Nat) (d : D), r[i]? = some (some (d, false)) → ∃ v, σ[i]? = some (some v) ∧ Rep (B.cf K mg) A H v d
  ow : ∀ (i : Nat) (d : D), r[i]? = some (some (d, true)) → ∃ a, σ[i]? = some (some (.ref a)) ∧ A a ∧ B.H0 a = none ∧ OwnR (B.cf K mg) A H a d
  ne : ∀ (i j : Nat) (d e : D) (a : Addr), r[i]? = some (some (d, true)) → r[j]? = some (some (e, true)) → σ[i]? = some (some (.ref a)) → σ[j]? = some (some (.ref a)) → i = j
  ln : r.length = σ.length
theorem StOk.keep {K : PySem.W.Frag} {mg : Str → Option Value} {B : Bs} {A : Addr → Prop} {σ : L2.St} {H H' : Hp} {r : Env} (k : Kp B.p H H') (h : StOk K mg B A σ H r) : StOk K mg B A σ H' r where
  kp := h.kp.trans k
  tp := k.tr h.tp
  tr := fun a q => k.tr (h.tr a q)
  a0 := h.a0
  t0 := h.t0
  ax := h.ax
  np := h.np
  pl := fun i d e => let ⟨v, h1, h2⟩ := h.pl i d e; ⟨v, h1, h2.keepA (Kp.a k)⟩
  ow := fun i d e => let ⟨a, h1, h2, h3, h4⟩ := h.ow i d e; ⟨a, h1, h2, h3, h4.keepA (Kp.a k) fun o q => k.k a o (fun z => h.np (z ▸ h2)) q⟩
  ne := h.ne
  ln := h.ln
theorem StOk.fresh {K : PySem.W.Frag} {mg : Str → Option Value} {B : Bs} {A : Addr → Prop} {σ : L2.St} {H : Hp} {r : Env} {q : Addr} (h : StOk K mg B A σ H r) (n : H q = none) : ¬ A q ∧ q ≠ B.p :=
  ⟨fun z => (by obtain ⟨o, e⟩ := h.tr q z; rw [n] at e; cases e), fun z => (by obtain ⟨o, e⟩ := h.tp; rw [← z, n] at e; cases e)⟩
theorem PenAt.keep {p lc : Addr} {A : Addr → Prop} {H H' : Hp} {w : Wd} (k : Same H H') (h : PenAt p lc A H w) : PenAt p lc A H' w := by
  obtain ⟨o, l, h1, h2, h3⟩ := h; exact ⟨o, l, k _ _ h1, k _ _ h2, h3⟩

/-! ### what an expression comes to, over the layer -/
def Res.bind : Res → (D → Wd → Res) → Res
  | .ok d w, k => k d w
  | .exc n fs w, _ => .exc n fs w
  | .bad, _ => .bad
/-- an error of the class named n, with its fields -/
def ErrR (c : Cf) (A : Addr → Prop) (n : Str) (fs : List (Str × D)) (cls : Value) (dd : Option Addr) (H : Hp) : Prop :=
  ∃ C, cls = .ref C ∧ c.mg n = some (.ref C) ∧ match dd with
    | none => fs = []
    | some x => ∃ fvs, H x = some (.xd fvs) ∧ x ≠ c.p ∧ ¬ A x ∧ fvs.map (·.1) = fs.map (·.1) ∧ RepL c A H (fvs.map (·.2)) (fs.map (·.2))
abbrev RK := Cf → (Addr → Prop) → Hp → Hp → V → D → Prop
/-- plain data | data or an owned object, looked at | a new object that nobody has -/
def rE : RK := fun c A _ H' v d => Rep c A H' v d
def rO : RK := fun c A _ H' v d => Rep c A H' v d ∨ ∃ a, v = .ref a ∧ A a ∧ OwnR c A H' a d
def rF : RK := fun c A H H' v d => ∃ a, v = .ref a ∧ H a = none ∧ OwnR c (fun b => A b ∨ b = a) H' a d
class RKm (R : RK) : Prop where
  back : ∀ {c A H H1 H' v d}, Kp c.p H H1 → R c A H1 H' v d → R c A H H' v d
instance : RKm rE := ⟨fun _ h => h⟩
instance : RKm rO := ⟨fun _ h => h⟩
instance : RKm rF := ⟨fun k ⟨a, h1, h2, h3⟩ => ⟨a, h1, k.free h2, h3⟩⟩
def Post (c : Cf) (A : Addr → Prop) (σ : L2.St) (H : Hp) (R : RK) (W : WX) (Q : VK) : Res → Prop
  | .ok d w => ∀ v H', Kp c.p H H' → PenAt c.p c.lc A H' w → R c A H H' v d → Q v H'
  | .exc n fs w => ∀ cls dd H', Kp c.p H H' → PenAt c.p c.lc A H' w → ErrR c A n fs cls dd H' → W cls dd σ H'
  | .bad => False
theorem Post.at {c : Cf} {A : Addr → Prop} {σ : L2.St} {H H1 : Hp} {R : RK} [RKm R] {W : WX} {Q : VK} {x : Res} (k : Kp c.p H H1) (h : Post c A σ H R W Q x) : Post c A σ H1 R W Q x := by
  cases x with
  | ok d w => exact fun v H' k' p r => h v H' (k.trans k') p (RKm.back k r)
  | exc n fs w => exact fun cls dd H' k' p r => h cls dd H' (k.trans k') p r
  | bad => exact h
theorem Post.bind {c : Cf} {A : Addr → Prop} {σ : L2.St} {H : Hp} {R R1 : RK} [RKm R] {W : WX} {Q Q1 : VK} {x : Res} {k : D → Wd → Res} (h : Post c A σ H R W Q (x.bind k))
    (hk : ∀ d w v H1, Kp c.p H H1 → PenAt c.p c.lc A H1 w → R1 c A H H1 v d → Post c A σ H1 R W Q (k d w) → Q1 v H1) : Post c A σ H R1 W Q1 x := by
  cases x with
  | ok d w => exact fun v H' k' p r => hk d w v H' k' p r (Post.at k' h)
  | exc n fs w => exact h
  | bad => exact h
/-- the reading of an expression that comes to f -/
def tV (K : PySem.W.Frag) (mg : Str → Option Value) (R : RK) (W : WX) (f : EM) : TE := fun σ H Q =>
  ∃ (B : Bs) (A : Addr → Prop) (r : Env) (w : Wd), StOk K mg B A σ H r ∧ PenAt B.p B.lc A H w ∧ Post (B.cf K mg) A σ H R W Q (f r w)
abbrev VE (X : Cx) (R : RK) (W : WX) (e : Expr) (f : EM) : Prop := PE X e (tV X.K X.mg R W f)
theorem weak {X : Cx} {e : Expr} {t t' : TE} (h : PE X e t) (k : ∀ σ H Q, t' σ H Q → t σ H Q) : PE X e t' := ⟨fun pins s σ H Q I q => h.run pins s σ H Q I (k σ H Q q)⟩
theorem ve_o {X : Cx} {W : WX} {e : Expr} {f : EM} (h : VE X rE W e f) : VE X rO W e f := weak h fun σ H Q ⟨B, A, r, w, hs, hp, q⟩ => ⟨B, A, r, w, hs, hp, by
  cases z : f r w with
  | ok d w' => rw [z] at q; exact fun v H' k p r => q v H' k p (.inl r)
  | exc n fs w' => rw [z] at q; exact q
  | bad => rw [z] at q; exact q⟩
/-- a new object is plain data -/
theorem ve_f {X : Cx} {W : WX} {e : Expr} {f : EM} (h : VE X rF W e f) : VE X rE W e f := weak h fun σ H Q ⟨B, A, r, w, hs, hp, q⟩ => ⟨B, A, r, w, hs, hp, by
  cases z : f r w with
  | ok d w' => rw [z] at q; exact fun v H' k p ⟨a, e, n, o⟩ => by subst e; exact q _ H' k p ((o.to fun b z => .inl (.inl z)).rep (hs.fresh n).1 (hs.fresh n).2)
  | exc n fs w' => rw [z] at q; exact q
  | bad => rw [z] at q; exact q⟩
end DL

set_option Elab.async false
set_option linter.all false
set_option maxRecDepth 100000
set_option maxHeartbeats 2000000
namespace DL
open PySem PyProof.Rows L2
section
variable {X : Cx} {W : WX} {R : RK} {a b e : Expr} {fa fb fc : EM} {pos : Pos}

/-! ### names, constants -/
def dVar (i : Nat) : EM := fun r w => match r[i]? with
  | some (some (d, false)) => .ok d w
  | _ => .bad
def dObs (i : Nat) : EM := fun r w => match r[i]? with
  | some (some (d, _)) => .ok d w
  | _ => .bad
def dC (d : D) : EM := fun _ w => .ok d w
theorem ve_var (i : Nat) {x : Str} (hN : X.N[i]? = some x := by rfl) (hv : Vis X.env.scope x := by first | exact Or.inl rfl | exact Or.inr (Or.inl rfl) | exact Or.inr (Or.inr rfl)) (hd : (x == ("__debug__" : Str)) = false := by decide)
    (hcd : (x == ("__classdict__" : Str)) = false := by decide) : VE X rE W (.Name x pos) (dVar i) := weak (pe_var hN hv hd hcd) fun σ H Q ⟨B, A, r, w, hs, hp, q⟩ => by
  unfold dVar at q
  split at q
  · rename_i d h
    obtain ⟨v, h1, h2⟩ := hs.pl i d h
    exact ⟨v, h1, q v H Kp.refl hp h2⟩
  · exact q.elim
theorem vo_var (i : Nat) {x : Str} (hN : X.N[i]? = some x := by rfl) (hv : Vis X.env.scope x := by first | exact Or.inl rfl | exact Or.inr (Or.inl rfl) | exact Or.inr (Or.inr rfl)) (hd : (x == ("__debug__" : Str)) = false := by decide)
    (hcd : (x == ("__classdict__" : Str)) = false := by decide) : VE X rO W (.Name x pos) (dObs i) := weak (pe_var hN hv hd hcd) fun σ H Q ⟨B, A, r, w, hs, hp, q⟩ => by
  unfold dObs at q
  split at q
  · rename_i d o h
    cases o with
    | false =>
      obtain ⟨v, h1, h2⟩ := hs.pl i d h
      exact ⟨v, h1, q v H Kp.refl hp (.inl h2)⟩
    | true =>
      obtain ⟨a, h1, hA, _, h2⟩ := hs.ow i d h
      exact ⟨_, h1, q _ H Kp.refl hp (.inr ⟨a, rfl, hA, h2⟩)⟩
  · exact q.elim
theorem ve_int {i j} : VE X rE W (.Constant (.int i) j pos) (dC (.int i)) := weak pe_int fun σ H Q ⟨B, A, r, w, hs, hp, q⟩ => q _ H Kp.refl hp (.int i)
theorem ve_bl {i j} : VE X rE W (.Constant (.bool i) j pos) (dC (.bl i)) := weak pe_bl fun σ H Q ⟨B, A, r, w, hs, hp, q⟩ => q _ H Kp.refl hp (.bl i)
theorem ve_non {j} : VE X rE W (.Constant .none j pos) (dC .non) := weak pe_non fun σ H Q ⟨B, A, r, w, hs, hp, q⟩ => q _ H Kp.refl hp .non
theorem ve_str {i j} : VE X rE W (.Constant (.str i) j pos) (dC (.str i)) := weak pe_str fun σ H Q ⟨B, A, r, w, hs, hp, q⟩ => q _ H Kp.refl hp (.str i)
/-- a constant of the module: an int or a text, a tuple of such -/
theorem ve_glob {x : Str} {v : V} {u : Value} {d : D} (hg : Gl X x) (hm : X.mg x = some u) (r : RelV v u) (hd : ∀ (B : Bs) A H, Rep (B.cf X.K X.mg) A H v d) (hdb : (x == ("__debug__" : Str)) = false := by decide) : VE X rE W (.Name x pos) (dC d) :=
  weak (pe_glob hg hm r hdb) fun σ H Q ⟨B, A, r, w, hs, hp, q⟩ => q _ H Kp.refl hp (hd _ _ _)

/-! ### what stands at a value -/
section
variable {c : Cf} {A : Addr → Prop} {H H' : Hp} {v : V}
theorem rO.lst {ds : List D} (h : rO c A H' H v (.lst ds)) : ∃ a vs, v = .ref a ∧ H a = some (.lst vs) ∧ RepL c A H vs ds := by
  rcases h with h | ⟨a, rfl, _, vs, h1, h2⟩
  · cases h with
    | lst h n m r => exact ⟨_, _, rfl, h, r⟩
  · exact ⟨a, vs, rfl, h1, h2⟩
theorem rO.tup {ds : List D} (h : rO c A H' H v (.tup ds)) : ∃ a vs, v = .ref a ∧ H a = some (.tup vs) ∧ RepL c A H vs ds := by
  rcases h with h | ⟨a, rfl, _, h1⟩
  · cases h with
    | tup h n m r => exact ⟨_, _, rfl, h, r⟩
  · exact h1.elim
theorem rO.kup {ds : List D} (h : rO c A H' H v (.kup ds)) : ∃ a vs, v = .ref a ∧ (∀ H', SqT c.K H' a vs) ∧ RepL c A H vs ds := by
  rcases h with h | ⟨a, rfl, _, h1⟩
  · cases h with
    | tupK h r =>
      rcases h with (h | ⟨_, h⟩) | h
      · cases h
      · cases h
      · exact ⟨_, _, rfl, fun _ => .inr h, r⟩
  · exact h1.elim
/-- a tuple, made or written -/
theorem rO.tupq {ds : List D} {d : D} (h : rO c A H' H v d) (e : d = .tup ds ∨ d = .kup ds) : ∃ a vs, v = .ref a ∧ SqT c.K H a vs ∧ RepL c A H vs ds := by
  rcases e with rfl | rfl
  · obtain ⟨a, vs, e, h1, h2⟩ := h.tup; exact ⟨a, vs, e, SqT.of h1, h2⟩
  · obtain ⟨a, vs, e, h1, h2⟩ := h.kup; exact ⟨a, vs, e, h1 H, h2⟩
theorem rO.int {i : Int} (h : rO c A H' H v (.int i)) : v = .int i := by
  rcases h with h | ⟨a, rfl, _, h1⟩
  · cases h; rfl
  · exact h1.elim
theorem rO.bl {i : Bool} (h : rO c A H' H v (.bl i)) : v = .bl i := by
  rcases h with h | ⟨a, rfl, _, h1⟩
  · cases h; rfl
  · exact h1.elim
theorem rO.str {i : Str} (h : rO c A H' H v (.str i)) : v = .str i := by
  rcases h with h | ⟨a, rfl, _, h1⟩
  · cases h; rfl
  · exact h1.elim
theorem rO.non (h : rO c A H' H v .non) : v = .non := by
  rcases h with h | ⟨a, rfl, _, h1⟩
  · cases h; rfl
  · exact h1.elim
theorem rO.keep {H0 H0' : Hp} {d : D} (n : ¬ A c.p) (k : Kp c.p H H') (h : rO c A H0 H v d) : rO c A H0' H' v d := by
  rcases h with h | ⟨a, e, hA, h1⟩
  · exact .inl (h.keepA k.a)
  · exact .inr ⟨a, e, hA, h1.keepA k.a fun o q => k.k a o (fun z => n (z ▸ hA)) q⟩
end

/-! ### operators by values -/
/-- where a new object may stand -/
structure Fre (c : Cf) (A : Addr → Prop) (H : Hp) : Prop where
  n : ∀ q, H q = none → ¬ A q ∧ q ≠ c.p
def r2D (K : PySem.W.Frag) (mg : Str → Option Value) (R : RK) (g : D → D → Option D) : R2 := fun x y H Q => ∃ (B : Bs) (A : Addr → Prop) (dx dy d : D), Fre (B.cf K mg) A H ∧ rO (B.cf K mg) A H H x dx ∧ rO (B.cf K mg) A H H y dy ∧ g dx dy = some d ∧ ∀ v H', Same H H' → R (B.cf K mg) A H H' v d → Q v H'
def r1D (K : PySem.W.Frag) (mg : Str → Option Value) (R : RK) (g : D → Option D) : V → Hp → VK → Prop := fun x H Q => ∃ (B : Bs) (A : Addr → Prop) (dx d : D), Fre (B.cf K mg) A H ∧ rO (B.cf K mg) A H H x dx ∧ g dx = some d ∧ ∀ v H', Same H H' → R (B.cf K mg) A H H' v d → Q v H'
abbrev OpD (X : Cx) (R : RK) (f : Value → Value → Sem Value) (g : D → D → Option D) : Prop := OpR X f (r2D X.K X.mg R g)
abbrev UnD (X : Cx) (R : RK) (f : Value → Sem Value) (g : D → Option D) : Prop := UnR X f (r1D X.K X.mg R g)
def Res.of (o : Option D) (w : Wd) : Res := match o with
  | some d => .ok d w
  | none => .bad
def dBin (g : D → D → Option D) (fa fb : EM) : EM := fun r w => (fa r w).bind fun x w1 => (fb r w1).bind fun y w2 => Res.of (g x y) w2
def dUn (g : D → Option D) (fa : EM) : EM := fun r w => (fa r w).bind fun x w1 => Res.of (g x) w1
theorem StOk.fre {K : PySem.W.Frag} {mg : Str → Option Value} {B : Bs} {A : Addr → Prop} {σ : L2.St} {H : Hp} {r : Env} (h : StOk K mg B A σ H r) : Fre (B.cf K mg) A H := ⟨fun q n => h.fresh n⟩

theorem ve_bin {op : Operator} [RKm R] {g : D → D → Option D} (ho : OpD X R (binaryOp op) g) (ha : VE X rO W a fa) (hb : VE X rO W b fb) : VE X R W (.BinOp a op b pos) (dBin g fa fb) := weak (pe_op ho ha hb) fun σ H Q ⟨B, A, r, w, hs, hp, q⟩ =>
  ⟨B, A, r, w, hs, hp, q.bind fun x w1 v H1 k1 p1 r1 q1 => ⟨B, A, r, w1, hs.keep k1, p1, q1.bind fun y w2 v2 H2 k2 p2 r2 q2 => by
    unfold Res.of at q2
    split at q2
    · rename_i d e
      exact ⟨B, A, x, y, d, (hs.keep (k1.trans k2)).fre, rO.keep hs.np k2 r1, r2, e, fun v' H' sm rr => q2 v' H' (.of sm) (p2.keep sm) rr⟩
    · exact q2.elim⟩⟩
theorem ve_cmp {op : CmpOp} [RKm R] {g : D → D → Option D} (ho : OpD X R (compareOp op) g) (ha : VE X rO W a fa) (hb : VE X rO W b fb) (hm : behindInMarks op b = false := by rfl) : VE X R W (.Compare a [op] [b] pos) (dBin g fa fb) := weak (pe_cmpR ho ha hb hm) fun σ H Q ⟨B, A, r, w, hs, hp, q⟩ =>
  ⟨B, A, r, w, hs, hp, q.bind fun x w1 v H1 k1 p1 r1 q1 => ⟨B, A, r, w1, hs.keep k1, p1, q1.bind fun y w2 v2 H2 k2 p2 r2 q2 => by
    unfold Res.of at q2
    split at q2
    · rename_i d e
      exact ⟨B, A, x, y, d, (hs.keep (k1.trans k2)).fre, rO.keep hs.np k2 r1, r2, e, fun v' H' sm rr => q2 v' H' (.of sm) (p2.keep sm) rr⟩
    · exact q2.elim⟩⟩
theorem ve_un {op : UnaryOp} [RKm R] {g : D → Option D} (ho : UnD X R (unaryOp op) g) (ha : VE X rO W a fa) : VE X R W (.UnaryOp op a pos) (dUn g fa) := weak (pe_un ho ha) fun σ H Q ⟨B, A, r, w, hs, hp, q⟩ =>
  ⟨B, A, r, w, hs, hp, q.bind fun x w1 v H1 k1 p1 r1 q1 => by
    unfold Res.of at q1
    split at q1
    · rename_i d e
      exact ⟨B, A, x, d, (hs.keep k1).fre, r1, e, fun v' H' sm rr => q1 v' H' (.of sm) (p1.keep sm) rr⟩
    · exact q1.elim⟩
/-- a < b < c -/
def dChain (g h : D → D → Option D) (fa fb fc : EM) : EM := fun r w => (fa r w).bind fun x w1 => (fb r w1).bind fun y w2 => match g x y with
  | some (.bl true) => (fc r w2).bind fun z w3 => Res.of (h y z) w3
  | some (.bl false) => .ok (.bl false) w2
  | _ => .bad
theorem ve_chain {op op' : CmpOp} {g h : D → D → Option D} (ho : OpD X rE (compareOp op) g) (ho' : OpD X rE (compareOp op') h) (ha : VE X rO W a fa) (hb : VE X rO W b fb) {c : Expr} (hc : VE X rO W c fc) (hm : lastMarks [op, op'] [b, c] = false := by rfl) :
    VE X rE W (.Compare a [op, op'] [b, c] pos) (dChain g h fa fb fc) := weak (pe_chain ho ho' ha hb hc hm) fun σ H Q ⟨B, A, r, w, hs, hp, q⟩ =>
  ⟨B, A, r, w, hs, hp, q.bind fun x w1 v H1 k1 p1 r1 q1 => ⟨B, A, r, w1, hs.keep k1, p1, q1.bind fun y w2 v2 H2 k2 p2 r2 q2 => by
    have hs2 := hs.keep (k1.trans k2)
    split at q2
    · rename_i e
      refine ⟨B, A, x, y, .bl true, hs2.fre, rO.keep hs.np k2 r1, r2, e, fun v' H' sm rr => ?_⟩
      cases rr
      refine ⟨true, rfl, ?_⟩
      rw [if_pos rfl]
      refine ⟨B, A, r, w2, hs2.keep (.of sm), p2.keep sm, Post.bind (Post.at (Kp.of sm) q2) fun z w3 v3 H3 k3 p3 r3 q3 => ?_⟩
      unfold Res.of at q3
      split at q3
      · rename_i d e
        exact ⟨B, A, y, z, d, (hs2.keep ((Kp.of sm).trans k3)).fre, rO.keep (H := H2) hs.np ((Kp.of sm).trans k3) r2, r3, e, fun v' H' sm rr => q3 v' H' (.of sm) (p3.keep sm) rr⟩
      · exact q3.elim
    · rename_i e
      refine ⟨B, A, x, y, .bl false, hs2.fre, rO.keep hs.np k2 r1, r2, e, fun v' H' sm rr => ?_⟩
      cases rr
      refine ⟨false, rfl, ?_⟩
      rw [if_neg Bool.false_ne_true]
      exact q2 _ H' (.of sm) (p2.keep sm) (.bl false)
    · exact q2.elim⟩⟩

/-! ### the operators -/
def addD : D → D → Option D
  | .int i, .int j => some (.int (i + j))
  | .str x, .str y => if x.length + y.length ≤ sizeLine then some (.str (x ++ y)) else none
  | _, _ => none
def subD : D → D → Option D
  | .int i, .int j => some (.int (i - j))
  | _, _ => none
instance {i j : Int} : Decidable (IntMulOk i j) := inferInstanceAs (Decidable (¬ _))
abbrev CDivG (_ j : Int) : Prop := j ≠ 0 ∧ j.natAbs.log2 < 9000
instance {i j : Int} : Decidable (CPow i j) := inferInstanceAs (Decidable (_ ∧ _))
def mulD : D → D → Option D
  | .int i, .int j => if IntMulOk i j then some (.int (i * j)) else none
  | _, _ => none
def fdivD : D → D → Option D
  | .int i, .int j => if CDivG i j then some (.int (i.fdiv j)) else none
  | _, _ => none
def modD : D → D → Option D
  | .int i, .int j => if j ≠ 0 then some (.int (i.fmod j)) else none
  | _, _ => none
def powD : D → D → Option D
  | .int i, .int j => if CPow i j then some (.int (i ^ j.toNat)) else none
  | _, _ => none
def ltD : D → D → Option D
  | .int i, .int j => some (.bl (decide (i < j)))
  | .str x, .str y => some (.bl (decide (x.cps.toList < y.cps.toList)))
  | _, _ => none
def leD : D → D → Option D
  | .int i, .int j => some (.bl (decide (i ≤ j)))
  | _, _ => none
def gtD : D → D → Option D
  | .int i, .int j => some (.bl (decide (j < i)))
  | _, _ => none
def geD : D → D → Option D
  | .int i, .int j => some (.bl (decide (j ≤ i)))
  | _, _ => none
def negD : D → Option D
  | .int i => some (.int (-i))
  | _ => none
theorem op_mulG : OpR X (binaryOp .Mult) (rI IntMulOk fun i j => .int (i * j)) := opI fun _ _ _ _ _ _ _ hc q => mul_int q hc
theorem op_fdivG : OpR X (binaryOp .FloorDiv) (rI CDivG fun i j => .int (i.fdiv j)) := opI fun _ _ _ _ _ _ _ hc q => floordiv_int hc.1 q (.inl (PyProof.noPylong_of_log2 hc.2))
theorem od_add : OpD X rE (binaryOp .Add) addD := fun pins s σ H x y v u Q I rx ry ⟨B, A, dx, dy, d, fr, h1, h2, e, q⟩ => by
  unfold addD at e
  split at e
  · cases e
    exact op_add pins s σ H x y v u Q I rx ry ⟨_, _, h1.int, h2.int, q _ H (Same.refl H) (.int _)⟩
  · split at e
    · cases e
      exact op_add_str pins s σ H x y v u Q I rx ry ⟨_, _, h1.str, h2.str, by assumption, q _ H (Same.refl H) (.str _)⟩
    · cases e
  · cases e
theorem od_sub : OpD X rE (binaryOp .Sub) subD := fun pins s σ H x y v u Q I rx ry ⟨B, A, dx, dy, d, fr, h1, h2, e, q⟩ => by
  unfold subD at e
  split at e
  · cases e
    exact op_sub pins s σ H x y v u Q I rx ry ⟨_, _, h1.int, h2.int, q _ H (Same.refl H) (.int _)⟩
  · cases e
theorem od_mul : OpD X rE (binaryOp .Mult) mulD := fun pins s σ H x y v u Q I rx ry ⟨B, A, dx, dy, d, fr, h1, h2, e, q⟩ => by
  unfold mulD at e
  split at e
  · split at e
    · cases e
      exact op_mulG pins s σ H x y v u Q I rx ry ⟨_, _, h1.int, h2.int, by assumption, q _ H (Same.refl H) (.int _)⟩
    · cases e
  · cases e
theorem od_fdiv : OpD X rE (binaryOp .FloorDiv) fdivD := fun pins s σ H x y v u Q I rx ry ⟨B, A, dx, dy, d, fr, h1, h2, e, q⟩ => by
  unfold fdivD at e
  split at e
  · split at e
    · cases e
      exact op_fdivG pins s σ H x y v u Q I rx ry ⟨_, _, h1.int, h2.int, by assumption, q _ H (Same.refl H) (.int _)⟩
    · cases e
  · cases e
theorem od_mod : OpD X rE (binaryOp .Mod) modD := fun pins s σ H x y v u Q I rx ry ⟨B, A, dx, dy, d, fr, h1, h2, e, q⟩ => by
  unfold modD at e
  split at e
  · split at e
    · cases e
      exact op_modN pins s σ H x y v u Q I rx ry ⟨_, _, h1.int, h2.int, by assumption, q _ H (Same.refl H) (.int _)⟩
    · cases e
  · cases e
theorem od_pow : OpD X rE (binaryOp .Pow) powD := fun pins s σ H x y v u Q I rx ry ⟨B, A, dx, dy, d, fr, h1, h2, e, q⟩ => by
  unfold powD at e
  split at e
  · split at e
    · cases e
      exact op_pow pins s σ H x y v u Q I rx ry ⟨_, _, h1.int, h2.int, by assumption, q _ H (Same.refl H) (.int _)⟩
    · cases e
  · cases e
theorem od_lt : OpD X rE (compareOp .Lt) ltD := fun pins s σ H x y v u Q I rx ry ⟨B, A, dx, dy, d, fr, h1, h2, e, q⟩ => by
  unfold ltD at e
  split at e
  · cases e
    exact op_lt pins s σ H x y v u Q I rx ry ⟨_, _, h1.int, h2.int, q _ H (Same.refl H) (.bl _)⟩
  · cases e
    exact op_lt_str pins s σ H x y v u Q I rx ry ⟨_, _, h1.str, h2.str, q _ H (Same.refl H) (.bl _)⟩
  · cases e
theorem od_le : OpD X rE (compareOp .LtE) leD := fun pins s σ H x y v u Q I rx ry ⟨B, A, dx, dy, d, fr, h1, h2, e, q⟩ => by
  unfold leD at e
  split at e
  · cases e
    exact op_le pins s σ H x y v u Q I rx ry ⟨_, _, h1.int, h2.int, q _ H (Same.refl H) (.bl _)⟩
  · cases e
theorem od_gt : OpD X rE (compareOp .Gt) gtD := fun pins s σ H x y v u Q I rx ry ⟨B, A, dx, dy, d, fr, h1, h2, e, q⟩ => by
  unfold gtD at e
  split at e
  · cases e
    exact op_gt pins s σ H x y v u Q I rx ry ⟨_, _, h1.int, h2.int, q _ H (Same.refl H) (.bl _)⟩
  · cases e
theorem od_ge : OpD X rE (compareOp .GtE) geD := fun pins s σ H x y v u Q I rx ry ⟨B, A, dx, dy, d, fr, h1, h2, e, q⟩ => by
  unfold geD at e
  split at e
  · cases e
    exact op_ge pins s σ H x y v u Q I rx ry ⟨_, _, h1.int, h2.int, q _ H (Same.refl H) (.bl _)⟩
  · cases e
theorem ud_neg : UnD X rE (unaryOp .USub) negD := fun pins s σ H x v Q I rx ⟨B, A, dx, d, fr, h1, e, q⟩ => by
  unfold negD at e
  split at e
  · cases e
    exact un_neg pins s σ H x v Q I rx ⟨_, h1.int, q _ H (Same.refl H) (.int _)⟩
  · cases e

/-! ### tests -/
def PostT (c : Cf) (A : Addr → Prop) (σ : L2.St) (H : Hp) (W : WX) (Q : Bool → Hp → Prop) : Res → Prop
  | .ok (.bl b) w => ∀ H', Kp c.p H H' → PenAt c.p c.lc A H' w → Q b H'
  | .ok _ _ => False
  | .exc n fs w => ∀ cls dd H', Kp c.p H H' → PenAt c.p c.lc A H' w → ErrR c A n fs cls dd H' → W cls dd σ H'
  | .bad => False
theorem PostT.at {c : Cf} {A : Addr → Prop} {σ : L2.St} {H H1 : Hp} {Q : Bool → Hp → Prop} {x : Res} (k : Kp c.p H H1) (h : PostT c A σ H W Q x) : PostT c A σ H1 W Q x := by
  cases x with
  | ok d w =>
    cases d <;> first | exact h.elim | skip
    exact fun H' k' p => h H' (k.trans k') p
  | exc n fs w => exact fun cls dd H' k' p r => h cls dd H' (k.trans k') p r
  | bad => exact h
def tVT (K : PySem.W.Frag) (mg : Str → Option Value) (W : WX) (f : EM) : TT := fun σ H Q =>
  ∃ (B : Bs) (A : Addr → Prop) (r : Env) (w : Wd), StOk K mg B A σ H r ∧ PenAt B.p B.lc A H w ∧ PostT (B.cf K mg) A σ H W Q (f r w)
abbrev VT (X : Cx) (W : WX) (e : Expr) (f : EM) : Prop := PT X e (tVT X.K X.mg W f)
abbrev VW (X : Cx) (W : WX) (e : Expr) (f : EM) : Prop := PW X e (tVT X.K X.mg W f)
theorem weakT {t t' : TT} (h : PT X e t) (k : ∀ σ H Q, t' σ H Q → t σ H Q) : PT X e t' := ⟨fun pins s σ H Q I q => h.run pins s σ H Q I (k σ H Q q)⟩
theorem weakW {t t' : TT} (h : PW X e t) (k : ∀ σ H Q, t' σ H Q → t σ H Q) : PW X e t' := ⟨fun wh pins s σ H Q I q => h.run wh pins s σ H Q I (k σ H Q q)⟩
theorem vt_val (h : VE X rO W e fa) (he : ∀ whole, isTrue e X.env whole = (do let v ← whole; standAt e.pos; holding [v] (truthy v)) := by intro _; rfl) : VT X W e fa := weakT (pt_val h he) fun σ H Q ⟨B, A, r, w, hs, hp, q⟩ => ⟨B, A, r, w, hs, hp, by
  cases z : fa r w with
  | ok d w' =>
    rw [z] at q
    cases d <;> first | exact q.elim | skip
    exact fun v H' k p r => ⟨_, r.bl, q H' k p⟩
  | exc n fs w' => rw [z] at q; exact q
  | bad => rw [z] at q; exact q⟩
def dNot (fa : EM) : EM := fun r w => (fa r w).bind fun x w1 => match x with
  | .bl b => .ok (.bl !b) w1
  | _ => .bad
def dAnd (fa fb : EM) : EM := fun r w => (fa r w).bind fun x w1 => match x with
  | .bl true => fb r w1
  | .bl false => .ok (.bl false) w1
  | _ => .bad
def dOr (fa fb : EM) : EM := fun r w => (fa r w).bind fun x w1 => match x with
  | .bl true => .ok (.bl true) w1
  | .bl false => fb r w1
  | _ => .bad
def dIf (fc fa fb : EM) : EM := fun r w => (fc r w).bind fun x w1 => match x with
  | .bl true => fa r w1
  | .bl false => fb r w1
  | _ => .bad
theorem PostT.bind {c : Cf} {A : Addr → Prop} {σ : L2.St} {H : Hp} {Q Q1 : Bool → Hp → Prop} {x : Res} {k : D → Wd → Res} (h : PostT c A σ H W Q (x.bind k)) (hb : ∀ d w, k d w ≠ .bad → ∃ b, d = .bl b)
    (hk : ∀ b w H1, Kp c.p H H1 → PenAt c.p c.lc A H1 w → PostT c A σ H1 W Q (k (.bl b) w) → Q1 b H1) : PostT c A σ H W Q1 x := by
  cases x with
  | ok d w =>
    have h' : PostT c A σ H W Q (k d w) := h
    obtain ⟨b, rfl⟩ := hb d w fun z => by rw [z] at h'; exact h'
    exact fun H' k' p => hk b w H' k' p (PostT.at k' h')
  | exc n fs w => exact h
  | bad => exact h
theorem vt_not (h : VT X W a fa) : VT X W (.UnaryOp .Not a pos) (dNot fa) := weakT (pt_not h) fun σ H Q ⟨B, A, r, w, hs, hp, q⟩ => ⟨B, A, r, w, hs, hp, PostT.bind q (fun d w z => by
  cases d <;> first | exact ⟨_, rfl⟩ | exact absurd rfl z) fun b w1 H1 k1 p1 q1 => q1 H1 .refl p1⟩
theorem vw_and {rest : List Expr} (h : VT X W a fa) (h2 : VW X W (.BoolOp .And (b :: rest) pos) fb) : VW X W (.BoolOp .And (a :: b :: rest) pos) (dAnd fa fb) := weakW (pw_and h h2) fun σ H Q ⟨B, A, r, w, hs, hp, q⟩ => ⟨B, A, r, w, hs, hp, PostT.bind q (fun d w z => by
  cases d <;> first | exact ⟨_, rfl⟩ | exact absurd rfl z) fun b w1 H1 k1 p1 q1 => by
    cases b with
    | true => rw [if_pos rfl]; exact ⟨B, A, r, w1, hs.keep k1, p1, q1⟩
    | false => rw [if_neg Bool.false_ne_true]; exact q1 H1 .refl p1⟩
theorem vw_or {rest : List Expr} (h : VT X W a fa) (h2 : VW X W (.BoolOp .Or (b :: rest) pos) fb) : VW X W (.BoolOp .Or (a :: b :: rest) pos) (dOr fa fb) := weakW (pw_or h h2) fun σ H Q ⟨B, A, r, w, hs, hp, q⟩ => ⟨B, A, r, w, hs, hp, PostT.bind q (fun d w z => by
  cases d <;> first | exact ⟨_, rfl⟩ | exact absurd rfl z) fun b w1 H1 k1 p1 q1 => by
    cases b with
    | true => rw [if_pos rfl]; exact q1 H1 .refl p1
    | false => rw [if_neg Bool.false_ne_true]; exact ⟨B, A, r, w1, hs.keep k1, p1, q1⟩⟩
theorem vw_and1 (h : VT X W a fa) : VW X W (.BoolOp .And [a] pos) fa := pw_and1 h
theorem vw_or1 (h : VT X W a fa) : VW X W (.BoolOp .Or [a] pos) fa := pw_or1 h
theorem vt_w (h : VW X W e fa) : VT X W e fa := h.pt
/-! .. as values -/
theorem ve_not (h : VE X rO W a fa) : VE X rE W (.UnaryOp .Not a pos) (dNot fa) := weak (pe_not h) fun σ H Q ⟨B, A, r, w, hs, hp, q⟩ => ⟨B, A, r, w, hs, hp, q.bind fun x w1 v H1 k1 p1 r1 q1 => by
  cases x <;> first | exact q1.elim | skip
  exact ⟨_, r1.bl, q1 _ H1 .refl p1 (.bl _)⟩⟩
theorem ve_and [RKm R] {rest : List Expr} (hR : ∀ c A H H' b, R c A H H' (.bl b) (.bl b)) (h : VE X rO W a fa) (h2 : VE X R W (.BoolOp .And (b :: rest) pos) fb) : VE X R W (.BoolOp .And (a :: b :: rest) pos) (dAnd fa fb) := weak (pe_and h h2) fun σ H Q ⟨B, A, r, w, hs, hp, q⟩ => ⟨B, A, r, w, hs, hp, q.bind fun x w1 v H1 k1 p1 r1 q1 => by
  cases x <;> first | exact q1.elim | skip
  rename_i b
  refine ⟨b, r1.bl, ?_⟩
  cases b with
  | true => rw [if_pos rfl]; exact ⟨B, A, r, w1, hs.keep k1, p1, q1⟩
  | false => rw [if_neg Bool.false_ne_true]; exact q1 _ H1 .refl p1 (hR _ _ _ _ _)⟩
theorem ve_or [RKm R] {rest : List Expr} (hR : ∀ c A H H' b, R c A H H' (.bl b) (.bl b)) (h : VE X rO W a fa) (h2 : VE X R W (.BoolOp .Or (b :: rest) pos) fb) : VE X R W (.BoolOp .Or (a :: b :: rest) pos) (dOr fa fb) := weak (pe_or h h2) fun σ H Q ⟨B, A, r, w, hs, hp, q⟩ => ⟨B, A, r, w, hs, hp, q.bind fun x w1 v H1 k1 p1 r1 q1 => by
  cases x <;> first | exact q1.elim | skip
  rename_i b
  refine ⟨b, r1.bl, ?_⟩
  cases b with
  | true => rw [if_pos rfl]; exact q1 _ H1 .refl p1 (hR _ _ _ _ _)
  | false => rw [if_neg Bool.false_ne_true]; exact ⟨B, A, r, w1, hs.keep k1, p1, q1⟩⟩
theorem ve_one {op} (h : VE X R W a fa) : VE X R W (.BoolOp op [a] pos) fa := pe_one h
theorem rE_bl : ∀ c A H H' b, rE c A H H' (.bl b) (.bl b) := fun _ _ _ _ b => .bl b
theorem ve_if [RKm R] {c : Expr} (hc : VT X W c fc) (ha : VE X R W a fa) (hb : VE X R W b fb) : VE X R W (.IfExp c a b pos) (dIf fc fa fb) := weak (pe_ifExp hc ha hb) fun σ H Q ⟨B, A, r, w, hs, hp, q⟩ => ⟨B, A, r, w, hs, hp, by
  unfold dIf at q
  cases z : fc r w with
  | ok d w1 =>
    rw [z] at q
    simp only [Res.bind] at q
    cases d <;> first | exact q.elim | skip
    rename_i b
    cases b with
    | true => exact fun H1 k1 p1 => iteT ⟨B, A, r, w1, hs.keep k1, p1, Post.at k1 q⟩
    | false => exact fun H1 k1 p1 => iteF ⟨B, A, r, w1, hs.keep k1, p1, Post.at k1 q⟩
  | exc n fs w1 => rw [z] at q; exact q
  | bad => rw [z] at q; exact q⟩
end
end DL

set_option Elab.async false
set_option linter.all false
set_option maxRecDepth 100000
set_option maxHeartbeats 2000000
namespace DL
open PySem L2

/-! ### the environment's steps -/
/-- the slots that S names are let go -/
def rel (S : Nat → Bool) (r : Env) : Env := r.mapIdx fun i x => match x with
  | some (d, o) => some (d, o && !S i)
  | none => none
def OwnBy (S : Nat → Bool) (σ : L2.St) (r : Env) (a : Addr) : Prop := ∃ (i : Nat) (d : D), S i = true ∧ r[i]? = some (some (d, true)) ∧ σ[i]? = some (some (.ref a))
theorem rel_at {S : Nat → Bool} {r : Env} {i : Nat} {d : D} {o : Bool} (h : (rel S r)[i]? = some (some (d, o))) : ∃ o', r[i]? = some (some (d, o')) ∧ o = (o' && !S i) := by
  unfold rel at h
  rw [List.getElem?_mapIdx] at h
  cases e : r[i]? with
  | none => rw [e] at h; cases h
  | some x =>
    rw [e] at h
    cases x with
    | none => cases h
    | some x =>
      obtain ⟨d', o'⟩ := x
      simp only [Option.map_some, Option.some.injEq, Prod.mk.injEq] at h
      exact ⟨o', by rw [h.1], h.2.symm⟩
theorem and_f {b : Bool} (h : false = (true && !b)) : b = true := by cases b <;> first | rfl | cases h
theorem and_t {o b : Bool} (h : true = (o && !b)) : o = true ∧ b = false := by cases o <;> cases b <;> first | exact ⟨rfl, rfl⟩ | cases h
section
variable {K : PySem.W.Frag} {mg : Str → Option Value} {B : Bs} {A : Addr → Prop} {σ : L2.St} {H H' : Hp} {r : Env}
theorem StOk.rel (h : StOk K mg B A σ H r) (S : Nat → Bool) : StOk K mg B (fun a => A a ∧ ¬ OwnBy S σ r a) σ H (rel S r) where
  kp := h.kp
  tp := h.tp
  tr := fun a q => h.tr a q.1
  a0 := fun a q => ⟨h.a0 a q, fun ⟨i, d, _, h1, h2⟩ => by
    obtain ⟨b, e, _, e0, _⟩ := h.ow i d h1
    rw [h2] at e; cases e
    obtain ⟨o, e⟩ := h.t0 a q
    rw [e0] at e; cases e⟩
  t0 := h.t0
  ax := fun a q => h.ax a q.1
  np := fun q => h.np q.1
  pl := fun i d e => by
    obtain ⟨o, e1, e2⟩ := rel_at e
    cases o with
    | false =>
      obtain ⟨v, h1, h2⟩ := h.pl i d e1
      exact ⟨v, h1, h2.to fun a q => .inl q.1⟩
    | true =>
      obtain ⟨a, h1, hA, h0, h2⟩ := h.ow i d e1
      have hS : S i = true := and_f e2
      exact ⟨_, h1, (h2.to fun a q => .inl q.1).rep (fun q => q.2 ⟨i, d, hS, e1, h1⟩) fun z => h.np (by have z' : a = B.p := z; rw [← z']; exact hA)⟩
  ow := fun i d e => by
    obtain ⟨o, e1, e2⟩ := rel_at e
    obtain ⟨ho, hS⟩ := and_t e2
    subst ho
    obtain ⟨a, h1, hA, h0, h2⟩ := h.ow i d e1
    refine ⟨a, h1, ⟨hA, fun ⟨j, d', sj, j1, j2⟩ => ?_⟩, h0, h2.to fun a q => .inl q.1⟩
    have : i = j := h.ne i j d d' a e1 j1 h1 j2
    subst this
    rw [hS] at sj; cases sj
  ne := fun i j d e a h1 h2 s1 s2 => by
    obtain ⟨o, e1, q1⟩ := rel_at h1
    obtain ⟨o2, e2, q2⟩ := rel_at h2
    obtain ⟨ho, _⟩ := and_t q1
    obtain ⟨ho2, _⟩ := and_t q2
    subst ho ho2
    exact h.ne i j d e a e1 e2 s1 s2
  ln := by rw [← h.ln]; exact List.length_mapIdx
theorem PenAt.less {p lc : Addr} {A A' : Addr → Prop} {H : Hp} {w : Wd} (k : ∀ a, A' a → A a ∨ H a = none) (h : PenAt p lc A H w) : PenAt p lc A' H w := by
  obtain ⟨o, l, h1, h2, h3, h4, h5⟩ := h
  exact ⟨o, l, h1, h2, (fun z => (k _ z).elim h3 fun e => (by rw [h2] at e; cases e)), (fun z => (k _ z).elim h4 fun e => (by rw [h1] at e; cases e)), h5⟩
/-- A may be less, down to what the slots own -/
theorem StOk.lessA {A' : Addr → Prop} (h : StOk K mg B A σ H r) (k : ∀ a, A' a → A a) (a0 : ∀ a, B.A0 a → A' a) (o : ∀ (i : Nat) (d : D) (a : Addr), r[i]? = some (some (d, true)) → σ[i]? = some (some (.ref a)) → A' a) : StOk K mg B A' σ H r where
  kp := h.kp
  tp := h.tp
  tr := fun a q => h.tr a (k a q)
  a0 := a0
  t0 := h.t0
  ax := fun a q => h.ax a (k a q)
  np := fun q => h.np (k _ q)
  pl := fun i d e => let ⟨v, h1, h2⟩ := h.pl i d e; ⟨v, h1, h2.to fun a q => .inl (k a q)⟩
  ow := fun i d e => let ⟨a, h1, _, h3, h4⟩ := h.ow i d e; ⟨a, h1, o i d a e h1, h3, h4.to fun a q => .inl (k a q)⟩
  ne := h.ne
  ln := h.ln
theorem set_at {α : Type} {l : List α} {i j : Nat} {x y : α} (h : (l.set i x)[j]? = some y) : (j = i ∧ y = x) ∨ (j ≠ i ∧ l[j]? = some y) := by
  rw [List.getElem?_set] at h
  by_cases e : i = j
  · subst e
    rw [if_pos rfl] at h
    split at h
    · exact .inl ⟨rfl, (Option.some.inj h).symm⟩
    · cases h
  · rw [if_neg e] at h
    exact .inr ⟨Ne.symm e, h⟩
/-- plain data comes into a slot -/
theorem StOk.set (h : StOk K mg B A σ H r) {i : Nat} {v : V} {d : D} (hv : Rep (B.cf K mg) A H v d) : StOk K mg B A (σ.set i (some v)) H (r.set i (some (d, false))) where
  kp := h.kp
  tp := h.tp
  tr := h.tr
  a0 := h.a0
  t0 := h.t0
  ax := h.ax
  np := h.np
  pl := fun j e q => by
    rcases set_at q with ⟨rfl, z⟩ | ⟨n, z⟩
    · cases z
      have hl : j < σ.length := by rw [← h.ln]; have := (List.getElem?_eq_some_iff.mp q).1; simpa using this
      exact ⟨v, by rw [List.getElem?_set_self hl], hv⟩
    · obtain ⟨u, h1, h2⟩ := h.pl j e z
      exact ⟨u, by rw [List.getElem?_set_ne (Ne.symm n)]; exact h1, h2⟩
  ow := fun j e q => by
    rcases set_at q with ⟨rfl, z⟩ | ⟨n, z⟩
    · cases z
    · obtain ⟨a, h1, h2⟩ := h.ow j e z
      exact ⟨a, by rw [List.getElem?_set_ne (Ne.symm n)]; exact h1, h2⟩
  ne := fun j k d1 d2 a q1 q2 s1 s2 => by
    rcases set_at q1 with ⟨rfl, z⟩ | ⟨n, z⟩
    · cases z
    · rcases set_at q2 with ⟨rfl, z2⟩ | ⟨n2, z2⟩
      · cases z2
      · rw [List.getElem?_set_ne (Ne.symm n)] at s1
        rw [List.getElem?_set_ne (Ne.symm n2)] at s2
        exact h.ne j k d1 d2 a z z2 s1 s2
  ln := by rw [List.length_set, List.length_set]; exact h.ln
/-- a new object comes into a slot, owned -/
theorem StOk.setO {H0 : Hp} (h : StOk K mg B A σ H0 r) (k : Kp B.p H0 H) {i : Nat} {a : Addr} {d : D} (hn : H0 a = none) (hv : OwnR (B.cf K mg) (fun b => A b ∨ b = a) H a d) : StOk K mg B (fun b => A b ∨ b = a) (σ.set i (some (.ref a))) H (r.set i (some (d, true))) := by
  have hna := h.fresh hn
  have h' := h.keep k
  have up : ∀ b, (A b ∨ b = a) → A b ∨ H0 b = none := fun b q => q.elim .inl fun e => .inr (by rw [e]; exact hn)
  have b0 : B.H0 a = none := by
    cases e : B.H0 a with
    | none => rfl
    | some o => have := h.kp.k a o hna.2 e; rw [hn] at this; cases this
  refine ⟨h'.kp, h'.tp, fun b q => q.elim (h'.tr b) fun e => by rw [e]; exact hv.some, fun b q => .inl (h.a0 b q), h.t0, fun b q => q.elim (h.ax b) fun e => .inr (by rw [e]; exact b0), fun q => q.elim h.np fun e => hna.2 e.symm, fun j e q => ?_, fun j e q => ?_, fun j m d1 d2 b q1 q2 s1 s2 => ?_, by rw [List.length_set, List.length_set]; exact h.ln⟩
  · rcases set_at q with ⟨rfl, z⟩ | ⟨n, z⟩
    · cases z
    · obtain ⟨u, h1, h2⟩ := h.pl j e z
      exact ⟨u, by rw [List.getElem?_set_ne (Ne.symm n)]; exact h1, (h2.to up).keepA (Kp.a k)⟩
  · rcases set_at q with ⟨rfl, z⟩ | ⟨n, z⟩
    · cases z
      have hl : j < σ.length := by rw [← h.ln]; have := (List.getElem?_eq_some_iff.mp q).1; simpa using this
      exact ⟨a, by rw [List.getElem?_set_self hl], .inr rfl, b0, hv⟩
    · obtain ⟨b, h1, h2, h3, h4⟩ := h.ow j e z
      exact ⟨b, by rw [List.getElem?_set_ne (Ne.symm n)]; exact h1, .inl h2, h3, (h4.to up).keepA (Kp.a k) fun o q => k.k b o (fun z => h.np (z ▸ h2)) q⟩
  · rcases set_at q1 with ⟨rfl, z⟩ | ⟨n, z⟩
    · rcases set_at q2 with ⟨rfl, z2⟩ | ⟨n2, z2⟩
      · rfl
      · rw [List.getElem?_set_ne (Ne.symm n2)] at s2
        have hl : j < σ.length := by rw [← h.ln]; have := (List.getElem?_eq_some_iff.mp q1).1; simpa using this
        rw [List.getElem?_set_self hl] at s1
        cases s1
        obtain ⟨b', h1, h2, h3, h4⟩ := h.ow m d2 z2
        rw [s2] at h1; cases h1
        exact absurd h2 hna.1
    · rcases set_at q2 with ⟨rfl, z2⟩ | ⟨n2, z2⟩
      · rw [List.getElem?_set_ne (Ne.symm n)] at s1
        have hl : m < σ.length := by rw [← h.ln]; have := (List.getElem?_eq_some_iff.mp q2).1; simpa using this
        rw [List.getElem?_set_self hl] at s2
        cases s2
        obtain ⟨b', h1, h2, h3, h4⟩ := h.ow j d1 z
        rw [s1] at h1; cases h1
        exact absurd h2 hna.1
      · rw [List.getElem?_set_ne (Ne.symm n)] at s1
        rw [List.getElem?_set_ne (Ne.symm n2)] at s2
        exact h.ne j m d1 d2 b z z2 s1 s2
/-- the owned object in slot i is written -/
theorem StOk.write (h : StOk K mg B A σ H r) {i : Nat} {a : Addr} {d d' : D} {o : HO} (hi : r[i]? = some (some (d, true))) (ha : σ[i]? = some (some (.ref a))) (hv : OwnR (B.cf K mg) A (upd H a o) a d') : StOk K mg B A σ (upd H a o) (r.set i (some (d', true))) := by
  obtain ⟨a', e, hA, h0, _⟩ := h.ow i d hi
  rw [ha] at e; cases e
  have k : KpA B.p A H (upd H a o) := KpA.upd hA
  have nap : a ≠ B.p := fun z => h.np (z ▸ hA)
  refine ⟨⟨fun b u nb e => ?_, fun ⟨u, e⟩ => ?_⟩, ?_, fun b q => ?_, h.a0, h.t0, h.ax, h.np, fun j e q => ?_, fun j e q => ?_, fun j m d1 d2 b q1 q2 s1 s2 => ?_, by rw [List.length_set]; exact h.ln⟩
  · rw [upd_ne (fun z => by rw [z, h0] at e; cases e)]
    exact h.kp.k b u nb e
  · rw [upd_ne (Ne.symm nap)]
    exact h.tp
  · rw [upd_ne (Ne.symm nap)]
    exact h.tp
  · by_cases z : b = a
    · rw [z, upd_same]; exact ⟨_, rfl⟩
    · rw [upd_ne z]; exact h.tr b q
  · rcases set_at q with ⟨rfl, z⟩ | ⟨n, z⟩
    · cases z
    · obtain ⟨u, h1, h2⟩ := h.pl j e z
      exact ⟨u, h1, h2.keepA k⟩
  · rcases set_at q with ⟨rfl, z⟩ | ⟨n, z⟩
    · cases z
      exact ⟨a, ha, hA, h0, hv⟩
    · obtain ⟨b, h1, h2, h3, h4⟩ := h.ow j e z
      have nb : b ≠ a := fun z' => n (h.ne j i e d a z hi (z' ▸ h1) ha)
      exact ⟨b, h1, h2, h3, h4.keepA k fun o' q' => by rw [upd_ne nb]; exact q'⟩
  · have f : ∀ {j d1}, (r.set i (some (d', true)))[j]? = some (some (d1, true)) → ∃ d2, r[j]? = some (some (d2, true)) := fun {j d1} q => by
      rcases set_at q with ⟨rfl, z⟩ | ⟨n, z⟩
      · exact ⟨d, hi⟩
      · exact ⟨d1, z⟩
    obtain ⟨e1, f1⟩ := f q1
    obtain ⟨e2, f2⟩ := f q2
    exact h.ne j m e1 e2 b f1 f2 s1 s2
theorem PenAt.write {p lc a : Addr} {A : Addr → Prop} {H : Hp} {o : HO} {w : Wd} (hA : A a) (h : PenAt p lc A H w) : PenAt p lc A (upd H a o) w := by
  obtain ⟨o, l, h1, h2, h3, h4, h5⟩ := h
  exact ⟨o, l, by rw [upd_ne (fun z => h4 (by rw [z]; exact hA))]; exact h1, by rw [upd_ne (fun z => h3 (by rw [z]; exact hA))]; exact h2, h3, h4, h5⟩
end

/-! ### statements -/
def PostS (K : PySem.W.Frag) (mg : Str → Option Value) (B : Bs) (W : WX) (D : Ends) : SR → Prop
  | .nx r w => ∀ σ' H' A', StOk K mg B A' σ' H' r → PenAt B.p B.lc A' H' w → D.nx σ' H'
  | .bk r w => ∀ σ' H' A', StOk K mg B A' σ' H' r → PenAt B.p B.lc A' H' w → D.bk σ' H'
  | .ct r w => ∀ σ' H' A', StOk K mg B A' σ' H' r → PenAt B.p B.lc A' H' w → D.ct σ' H'
  | .rt d w => ∀ v H', Kp B.p B.H0 H' → PenAt B.p B.lc B.A0 H' w → Rep (B.cf K mg) B.A0 H' v d → D.rt v H'
  | .exc n fs r w => ∀ cls dd σ' H' A', StOk K mg B A' σ' H' r → PenAt B.p B.lc A' H' w → ErrR (B.cf K mg) A' n fs cls dd H' → W cls dd σ' H'
  | .bad => False
def tVS (K : PySem.W.Frag) (mg : Str → Option Value) (W : WX) (f : SM) : TS := fun D σ H =>
  ∃ (B : Bs) (A : Addr → Prop) (r : Env) (w : Wd), StOk K mg B A σ H r ∧ PenAt B.p B.lc A H w ∧ PostS K mg B W D (f r w)
abbrev VS (X : Cx) (W : WX) (st : Stmt) (f : SM) : Prop := PS X st (tVS X.K X.mg W f)
abbrev VSs (X : Cx) (W : WX) (sts : List Stmt) (f : SM) : Prop := PSs X sts (tVS X.K X.mg W f)
theorem weakS {X : Cx} {e : Stmt} {t t' : TS} (h : PS X e t) (k : ∀ D σ H, t' D σ H → t D σ H) : PS X e t' := ⟨fun pins s σ H D I q => h.run pins s σ H D I (k D σ H q)⟩
theorem weakSs {X : Cx} {e : List Stmt} {t t' : TS} (h : PSs X e t) (k : ∀ D σ H, t' D σ H → t D σ H) : PSs X e t' := ⟨fun pins s σ H D I q => h.run pins s σ H D I (k D σ H q)⟩
def sNext : SM := fun r w => .nx r w
def SR.seq : SR → SM → SR
  | .nx r w, k => k r w
  | .bk r w, _ => .bk r w
  | .ct r w, _ => .ct r w
  | .rt d w, _ => .rt d w
  | .exc n fs r w, _ => .exc n fs r w
  | .bad, _ => .bad
def sSeq (f g : SM) : SM := fun r w => (f r w).seq g
section
variable {X : Cx} {W : WX} {a b e : Expr} {st : Stmt} {sts : List Stmt} {fa fb fc fe : EM} {f g : SM} {pos : Pos}
theorem vs_nil : VSs X W [] sNext := weakSs pss_nil fun D σ H ⟨B, A, r, w, hs, hp, q⟩ => q σ H A hs hp
theorem vs_cons (h1 : VS X W st f) (h2 : VSs X W sts g) : VSs X W (st :: sts) (sSeq f g) := weakSs (pss_cons h1 h2) fun D σ H ⟨B, A, r, w, hs, hp, q⟩ => ⟨B, A, r, w, hs, hp, by
  have q : PostS X.K X.mg B W D ((f r w).seq g) := q
  cases z : f r w with
  | nx r' w' => rw [z] at q; exact fun σ' H' A' hs' hp' => ⟨B, A', r', w', hs', hp', q⟩
  | bk r' w' => rw [z] at q; exact q
  | ct r' w' => rw [z] at q; exact q
  | rt d w' => rw [z] at q; exact q
  | exc n fs r' w' => rw [z] at q; exact q
  | bad => rw [z] at q; exact q⟩
theorem vs_one (h1 : VS X W st f) : VSs X W [st] f := pss_one h1
theorem vs_pass : VS X W (.Pass pos) sNext := weakS ps_pass fun D σ H ⟨B, A, r, w, hs, hp, q⟩ => q σ H A hs hp
theorem vs_break : VS X W (.Break pos) (fun r w => .bk r w) := weakS ps_break fun D σ H ⟨B, A, r, w, hs, hp, q⟩ => q σ H A hs hp
theorem vs_continue : VS X W (.Continue pos) (fun r w => .ct r w) := weakS ps_continue fun D σ H ⟨B, A, r, w, hs, hp, q⟩ => q σ H A hs hp

/-- an expression's end in a statement -/
def Res.en (x : Res) (r : Env) (k : D → Wd → SR) : SR := match x with
  | .ok d w => k d w
  | .exc n fs w => .exc n fs r w
  | .bad => .bad
theorem PostS.en {K : PySem.W.Frag} {mg : Str → Option Value} {B : Bs} {A : Addr → Prop} {Z : Ends} {σ : L2.St} {H : Hp} {r : Env} {x : Res} {k : D → Wd → SR} {R : RK} {Q : VK} (hs : StOk K mg B A σ H r) (h : PostS K mg B W Z (x.en r k))
    (hk : ∀ d w v H1, Kp B.p H H1 → PenAt B.p B.lc A H1 w → R (B.cf K mg) A H H1 v d → PostS K mg B W Z (k d w) → Q v H1) : Post (B.cf K mg) A σ H R W Q x := by
  cases x with
  | ok d w => exact fun v H' k' p r => hk d w v H' k' p r h
  | exc n fs w => exact fun cls dd H' k' p e => h cls dd σ H' A (hs.keep k') p e
  | bad => exact h
abbrev all_ : Nat → Bool := fun _ => true
abbrev these (l : List Nat) : Nat → Bool := fun i => l.contains i
/-- x = e; the slots of caps are let go -/
def sSet (i : Nat) (caps : List Nat) (fe : EM) : SM := fun r w => (fe (rel (these caps) r) w).en (rel (these caps) r) fun d w' => .nx ((rel (these caps) r).set i (some (d, false))) w'
theorem vs_set {i : Nat} {x : Str} {pos' : Pos} (caps : List Nat) (hN : X.N.Nodup) (he : VE X rE W e fe) (hi : X.N[i]? = some x := by rfl) (hx : Loc X.env.scope x := by first | exact Or.inl rfl | exact Or.inr rfl) (hf : X.fn x = true ∨ X.env.scope.names.lookup x = some .local := by first | exact .inl rfl | exact .inr rfl)
    (hs : swapsWith e (some (.Name x pos')) pos.line X.env = pure false := by rfl) : VS X W (.Assign [.Name x pos'] e pos) (sSet i caps fe) := weakS (ps_asg he (pg_name hN hi hx hf) hs) fun D σ H ⟨B, A, r, w, hs, hp, q⟩ => by
  have hs1 := hs.rel (these caps)
  exact ⟨B, _, _, w, hs1, hp.less fun a z => .inl z.1, PostS.en hs1 q fun d w' v H1 k p rv q => q _ H1 _ ((hs1.keep k).set rv) p⟩
/-- the pen's place as it was ahead -/
theorem PenAt.again {p lc : Addr} {A A' : Addr → Prop} {H H' : Hp} {w w' : Wd} (h : PenAt p lc A H w) (h' : PenAt p lc A' H' w') : PenAt p lc A H' w' := by
  obtain ⟨_, _, _, _, h3, h4, _⟩ := h
  obtain ⟨o, l, h1, h2, _, _, h5⟩ := h'
  exact ⟨o, l, h1, h2, h3, h4, h5⟩
/-- plain data without objects -/
def D.flat : D → Bool
  | .non => true | .bl _ => true | .int _ => true | .str _ => true | _ => false
theorem Rep.flat {c : Cf} {A A' : Addr → Prop} {H H' : Hp} {v : V} {d : D} (h : Rep c A H v d) (f : d.flat = true) : Rep c A' H' v d := by
  cases h <;> first | cases f | skip
  · exact .non
  · exact .bl _
  · exact .int _
  · exact .str _
/-- x = e, e flat -/
def sSetF (i : Nat) (fe : EM) : SM := fun r w => (fe (rel all_ r) w).en (rel all_ r) fun d w' => if d.flat = true then .nx (r.set i (some (d, false))) w' else .bad
theorem vs_setF {i : Nat} {x : Str} {pos' : Pos} (hN : X.N.Nodup) (he : VE X rE W e fe) (hi : X.N[i]? = some x := by rfl) (hx : Loc X.env.scope x := by first | exact Or.inl rfl | exact Or.inr rfl) (hf : X.fn x = true ∨ X.env.scope.names.lookup x = some .local := by first | exact .inl rfl | exact .inr rfl)
    (hs : swapsWith e (some (.Name x pos')) pos.line X.env = pure false := by rfl) : VS X W (.Assign [.Name x pos'] e pos) (sSetF i fe) := weakS (ps_asg he (pg_name hN hi hx hf) hs) fun D σ H ⟨B, A, r, w, hs, hp, q⟩ => by
  have hs1 := hs.rel all_
  refine ⟨B, _, _, w, hs1, hp.less fun a z => .inl z.1, PostS.en hs1 q fun d w' v H1 k p rv q => ?_⟩
  split at q
  · rename_i hf
    exact q _ H1 A ((hs.keep k).set (rv.flat hf)) (hp.again p)
  · exact q.elim

/-- x = e, e a new object: x owns it -/
def sSetO (i : Nat) (caps : List Nat) (fe : EM) : SM := fun r w => (fe (rel (these caps) r) w).en (rel (these caps) r) fun d w' => .nx ((rel (these caps) r).set i (some (d, true))) w'
theorem PenAt.more {p lc a : Addr} {A : Addr → Prop} {H H0 : Hp} {w : Wd} (h : PenAt p lc A H w) (n : H0 a = none) (k : Kp p H0 H) (h0 : ∃ w, PenAt p lc A H0 w) : PenAt p lc (fun b => A b ∨ b = a) H w := by
  obtain ⟨o, l, h1, h2, h3, h4, h5⟩ := h
  obtain ⟨w0, _, _, g1, g2, _⟩ := h0
  exact ⟨o, l, h1, h2, fun z => z.elim h3 fun e => (by rw [← e, g2] at n; cases n), fun z => z.elim h4 fun e => (by rw [← e, g1] at n; cases n), h5⟩
theorem vs_setO {i : Nat} {x : Str} {pos' : Pos} (caps : List Nat) (hN : X.N.Nodup) (he : VE X rF W e fe) (hi : X.N[i]? = some x := by rfl) (hx : Loc X.env.scope x := by first | exact Or.inl rfl | exact Or.inr rfl) (hf : X.fn x = true ∨ X.env.scope.names.lookup x = some .local := by first | exact .inl rfl | exact .inr rfl)
    (hs : swapsWith e (some (.Name x pos')) pos.line X.env = pure false := by rfl) : VS X W (.Assign [.Name x pos'] e pos) (sSetO i caps fe) := weakS (ps_asg he (pg_name hN hi hx hf) hs) fun D σ H ⟨B, A, r, w, hs, hp, q⟩ => by
  have hs1 := hs.rel (these caps)
  have hp1 : PenAt B.p B.lc (fun a => A a ∧ ¬ OwnBy (these caps) σ r a) H w := hp.less fun a z => .inl z.1
  refine ⟨B, _, _, w, hs1, hp1, PostS.en hs1 q fun d w' v H1 k p rv q => ?_⟩
  obtain ⟨a, rfl, hn, ho⟩ := rv
  exact q _ H1 _ (hs1.setO k hn ho) (p.more hn k ⟨w, hp1⟩)
/-- e; -/
def sDrop (fe : EM) : SM := fun r w => (fe (rel all_ r) w).en (rel all_ r) fun _ w' => .nx r w'
theorem vs_drop (he : VE X rO W e fe) (hs : swapsWith e none pos.line X.env = pure false := by rfl) : VS X W (.Expr e pos) (sDrop fe) := weakS (ps_expr he hs) fun D σ H ⟨B, A, r, w, hs, hp, q⟩ => by
  have hs1 := hs.rel all_
  exact ⟨B, _, _, w, hs1, hp.less fun a z => .inl z.1, PostS.en hs1 q fun d w' v H1 k p rv q => q _ H1 _ (hs.keep k) (hp.again p)⟩
/-- return e -/
def sRet (fe : EM) : SM := fun r w => (fe (rel all_ r) w).en (rel all_ r) fun d w' => .rt d w'
theorem StOk.rel_a0 {K : PySem.W.Frag} {mg : Str → Option Value} {B : Bs} {A : Addr → Prop} {σ : L2.St} {H : Hp} {r : Env} (h : StOk K mg B A σ H r) : ∀ a, B.A0 a → A a ∨ H a = none := fun a q => .inl (h.a0 a q)
theorem vs_ret (he : VE X rE W e fe) : VS X W (.Return (some e) pos) (sRet fe) := weakS (ps_ret he) fun D σ H ⟨B, A, r, w, hs, hp, q⟩ => by
  have hs1 := hs.rel all_
  exact ⟨B, _, _, w, hs1, hp.less fun a z => .inl z.1, PostS.en hs1 q fun d w' v H1 k p rv q => q _ H1 ((hs1.keep k).kp) (p.less fun a z => .inl (hs1.a0 a z)) (rv.to fun a z => .inl (hs1.a0 a z))⟩
theorem vs_retN : VS X W (.Return none pos) (fun _ w => .rt .non w) := weakS ps_retN fun D σ H ⟨B, A, r, w, hs, hp, q⟩ => q _ H hs.kp (hp.less fun a z => .inl (hs.a0 a z)) .non
/-- if -/
def sIf (fc : EM) (f g : SM) : SM := fun r w => (fc (rel all_ r) w).en (rel all_ r) fun d w' => match d with
  | .bl true => f r w'
  | .bl false => g r w'
  | _ => .bad
theorem vs_if {c : Expr} {ss ts : List Stmt} (hc : VT X W c fc) (ha : VSs X W ss f) (hb : VSs X W ts g) : VS X W (.If c ss ts pos) (sIf fc f g) := weakS (ps_if hc ha hb) fun D σ H ⟨B, A, r, w, hs, hp, q⟩ => by
  have hs1 := hs.rel all_
  refine ⟨B, _, _, w, hs1, hp.less fun a z => .inl z.1, ?_⟩
  have q : PostS X.K X.mg B W D ((fc (rel all_ r) w).en (rel all_ r) fun d w' => match d with
    | .bl true => f r w'
    | .bl false => g r w'
    | _ => .bad) := q
  cases z : fc (rel all_ r) w with
  | ok d w' =>
    rw [z] at q
    simp only [Res.en] at q
    cases d <;> first | exact q.elim | skip
    rename_i b
    cases b with
    | true => exact fun H1 k p => iteT ⟨B, A, r, w', hs.keep k, hp.again p, q⟩
    | false => exact fun H1 k p => iteF ⟨B, A, r, w', hs.keep k, hp.again p, q⟩
  | exc n fs w' => rw [z] at q; exact fun cls dd H' k' p e => q cls dd σ H' _ (hs1.keep k') p e
  | bad => rw [z] at q; exact q

end
/-! ### loops: the base is laid anew -/
def Own (σ : L2.St) (r : Env) (a : Addr) : Prop := ∃ (i : Nat) (d : D), r[i]? = some (some (d, true)) ∧ σ[i]? = some (some (.ref a))
open Classical in
noncomputable def Bs.re (B : Bs) (A : Addr → Prop) (σ : L2.St) (H : Hp) (r : Env) : Bs := ⟨B.p, B.lc, fun a => A a ∧ ¬ Own σ r a, fun a => if Own σ r a then none else H a⟩
section
variable {K : PySem.W.Frag} {mg : Str → Option Value} {B : Bs} {A A' : Addr → Prop} {σ σ' : L2.St} {H H' : Hp} {r r' : Env} {Z : Ends} {W : WX} {a : Addr}
theorem re_own (h : Own σ r a) : (B.re A σ H r).H0 a = none := if_pos h
theorem re_not (h : ¬ Own σ r a) : (B.re A σ H r).H0 a = H a := if_neg h
theorem re_some {o : HO} (h : (B.re A σ H r).H0 a = some o) : H a = some o ∧ ¬ Own σ r a := by
  by_cases z : Own σ r a
  · rw [re_own z] at h; cases h
  · rw [re_not z] at h; exact ⟨h, z⟩
theorem StOk.own_a (h : StOk K mg B A σ H r) {a : Addr} (o : Own σ r a) : A a ∧ B.H0 a = none := by
  obtain ⟨i, d, h1, h2⟩ := o
  obtain ⟨b, e, hA, h0, _⟩ := h.ow i d h1
  rw [h2] at e; cases e
  exact ⟨hA, h0⟩
theorem StOk.re (h : StOk K mg B A σ H r) : StOk K mg (B.re A σ H r) A σ H r where
  kp := ⟨fun b o n e => (re_some e).1, fun _ => h.tp⟩
  tp := h.tp
  tr := h.tr
  a0 := fun a q => q.1
  t0 := fun a q => by
    obtain ⟨o, e⟩ := h.tr a q.1
    exact ⟨o, (re_not q.2).trans e⟩
  ax := fun a q => by
    by_cases z : Own σ r a
    · exact .inr (re_own z)
    · exact .inl ⟨q, z⟩
  np := h.np
  pl := h.pl
  ow := fun i d e => let ⟨a, h1, h2, h3, h4⟩ := h.ow i d e; ⟨a, h1, h2, re_own ⟨i, d, e, h1⟩, h4⟩
  ne := h.ne
  ln := h.ln
theorem StOk.re_kp (h : StOk K mg B A σ H r) (k : Kp B.p (B.re A σ H r).H0 H') (tp : ∃ o, H' B.p = some o) : Kp B.p B.H0 H' := by
  refine ⟨fun b o n e => ?_, fun _ => tp⟩
  refine k.k b o n ?_
  refine (re_not fun z => ?_).trans (h.kp.k b o n e)
  rw [(h.own_a z).2] at e; cases e
theorem StOk.re_none (h : StOk K mg B A σ H r) {a : Addr} (e : (B.re A σ H r).H0 a = none) : B.H0 a = none := by
  by_cases z : Own σ r a
  · exact (h.own_a z).2
  · rw [re_not z] at e; exact h.kp.free e
theorem StOk.un (h : StOk K mg B A σ H r) (h' : StOk K mg (B.re A σ H r) A' σ' H' r') : StOk K mg B A' σ' H' r' where
  kp := h.re_kp h'.kp h'.tp
  tp := h'.tp
  tr := h'.tr
  a0 := fun a q => h'.a0 a ⟨h.a0 a q, fun z => by
    obtain ⟨o, e⟩ := h.t0 a q
    rw [(h.own_a z).2] at e; cases e⟩
  t0 := h.t0
  ax := fun a q => (h'.ax a q).elim (fun z => h.ax a z.1) fun z => .inr (h.re_none z)
  np := h'.np
  pl := h'.pl
  ow := fun i d e => let ⟨a, h1, h2, h3, h4⟩ := h'.ow i d e; ⟨a, h1, h2, h.re_none h3, h4⟩
  ne := h'.ne
  ln := h'.ln
theorem StOk.re_a0 (h : StOk K mg B A σ H r) : ∀ a, B.A0 a → (B.re A σ H r).A0 a := fun a q => ⟨h.a0 a q, fun z => by
    obtain ⟨o, e⟩ := h.t0 a q
    rw [(h.own_a z).2] at e; cases e⟩
theorem PostS.re {x : SR} (h : StOk K mg B A σ H r) (hp : ∃ w, PenAt B.p B.lc A H w) (q : PostS K mg B W Z x) : PostS K mg (B.re A σ H r) W Z x := by
  cases x with
  | nx r' w' => exact fun σ' H' A' hs' hp' => q σ' H' A' (h.un hs') hp'
  | bk r' w' => exact fun σ' H' A' hs' hp' => q σ' H' A' (h.un hs') hp'
  | ct r' w' => exact fun σ' H' A' hs' hp' => q σ' H' A' (h.un hs') hp'
  | rt d w' => exact fun v H' k p rv => q v H' (h.re_kp k (k.t ⟨_, (re_not (fun z => h.np (h.own_a z).1)).trans h.tp.choose_spec⟩)) (p.less fun a z => .inl (h.re_a0 a z)) (rv.to fun a z => .inl (h.re_a0 a z))
  | exc n fs r' w' => exact fun cls dd σ' H' A' hs' hp' e => q cls dd σ' H' A' (h.un hs') hp' e
  | bad => exact q
end
end DL

set_option Elab.async false
set_option linter.all false
set_option maxRecDepth 100000
set_option maxHeartbeats 2000000
namespace DL
open PySem L2

/-! ### what is walked -/
inductive ResI where
  | ok (l : List D) (w : Wd)
  | exc (n : Str) (fs : List (Str × D)) (w : Wd)
  | bad
abbrev IM := Env → Wd → ResI
def Res.toI (x : Res) (k : D → Option (List D)) : ResI := match x with
  | .ok d w => match k d with
    | some l => .ok l w
    | none => .bad
  | .exc n fs w => .exc n fs w
  | .bad => .bad
/-- how a walk's heap may change: true: all but the pen and A's (a loop); false: all but the pen (a comprehension) -/
def Ks (s : Bool) (p : Addr) (A : Addr → Prop) (H H' : Hp) : Prop := if s = true then KpA p A H H' else Kp p H H'
theorem Ks.a {s : Bool} {p : Addr} {A : Addr → Prop} {H H' : Hp} (k : Ks s p A H H') : KpA p A H H' := by
  cases s with
  | true => exact k
  | false => exact Kp.a (show Kp p H H' from k)
/-- J walks ds, from H on -/
structure Walks (s : Bool) (c : Cf) (A : Addr → Prop) (H : Hp) (J : It) (ds : List D) : Prop where
  ex : ∃ G Y, Walk J ds.length G Y ∧ (∀ H1, Ks s c.p A H H1 → G H1) ∧
    ∀ i H1 x H2, i < ds.length → Ks s c.p A H H1 → Y i H1 x H2 → Same H1 H2 ∧ ∃ d, ds[i]? = some d ∧ ∀ A' : Addr → Prop, (∀ a, A' a → A a ∨ H a = none) → Fre c A' H1 → Rep c A' H2 x d
def PostI (s : Bool) (c : Cf) (A : Addr → Prop) (σ : L2.St) (H : Hp) (W : WX) (R : It → Hp → Prop) : ResI → Prop
  | .ok ds w => ∀ J H', Kp c.p H H' → PenAt c.p c.lc A H' w → Walks s c A H' J ds → R J H'
  | .exc n fs w => ∀ cls dd H', Kp c.p H H' → PenAt c.p c.lc A H' w → ErrR c A n fs cls dd H' → W cls dd σ H'
  | .bad => False
def tVI (K : PySem.W.Frag) (mg : Str → Option Value) (s : Bool) (W : WX) (f : IM) : TI := fun σ H R =>
  ∃ (B : Bs) (A : Addr → Prop) (r : Env) (w : Wd), StOk K mg B A σ H r ∧ PenAt B.p B.lc A H w ∧ PostI s (B.cf K mg) A σ H W R (f r w)
abbrev VI (X : Cx) (s : Bool) (W : WX) (tg e : Expr) (f : IM) : Prop := PI X tg e (tVI X.K X.mg s W f)
theorem weakI {X : Cx} {tg e : Expr} {t t' : TI} (h : PI X tg e t) (k : ∀ σ H R, t' σ H R → t σ H R) : PI X tg e t' := ⟨fun pins s σ H R I q => h.run pins s σ H R I (k σ H R q)⟩
theorem PI.or {X : Cx} {tg e : Expr} {t t' : TI} (h : PI X tg e t) (h' : PI X tg e t') : PI X tg e (fun σ H R => t σ H R ∨ t' σ H R) := ⟨fun pins s σ H R I q => q.elim (h.run pins s σ H R I) (h'.run pins s σ H R I)⟩
section
variable {X : Cx} {W : WX} {tg e a b : Expr} {fe fa fb : EM} {pos : Pos}
theorem RepL.at {c : Cf} {A : Addr → Prop} {H : Hp} : ∀ {vs : List V} {ds : List D} {i : Nat} {v : V}, RepL c A H vs ds → vs[i]? = some v → ∃ d, ds[i]? = some d ∧ Rep c A H v d
  | _, _, _, _, .nil, h => by simp at h
  | _, _, 0, _, .cons h _, e => by simp at e; subst e; exact ⟨_, rfl, h⟩
  | _, _, i + 1, _, .cons _ r, e => by
    obtain ⟨d, h1, h2⟩ := RepL.at (i := i) r (by simpa using e)
    exact ⟨d, by simpa using h1, h2⟩
theorem RepL.len {c : Cf} {A : Addr → Prop} {H : Hp} : ∀ {vs : List V} {ds : List D}, RepL c A H vs ds → vs.length = ds.length
  | _, _, .nil => rfl
  | _, _, .cons _ r => by rw [List.length_cons, List.length_cons, RepL.len r]
/-- an item stays while the loop runs -/
theorem Rep.on {c : Cf} {A A' : Addr → Prop} {H H1 : Hp} {v : V} {d : D} (h : Rep c A H v d) (k : KpA c.p A H H1) (up : ∀ a, A' a → A a ∨ H a = none) : Rep c A' H1 v d :=
  ((h.to (A' := fun a => A a ∨ A' a) fun a q => q.elim .inl (up a)).keepA fun b o n => k b o fun z => n (.inl z)).to fun a q => .inl (.inr q)
/-- what a for takes from data -/
def itemsD : D → Option (List D)
  | .lst l => some l
  | .tup l => some l
  | .kup l => some l
  | _ => none
/-- the loop's list: what s asks of it -/
theorem walks_list {s : Bool} {c : Cf} {A : Addr → Prop} {H : Hp} {a : Addr} {vs : List V} {ds : List D} (h : ∀ H1, Ks s c.p A H H1 → SqL c.K H1 a vs) (r : RepL c A H vs ds) : Walks s c A H (Itl c.K a) ds := by
  refine ⟨fun H => SqL c.K H a vs, YAt vs, by rw [← r.len]; exact walk_list, h, fun i H1 x H2 hi k ⟨e, y⟩ => ?_⟩
  subst e
  obtain ⟨d, h1, h2⟩ := r.at y
  exact ⟨Same.refl _, d, h1, fun A' up fr => h2.on k.a up⟩
theorem walks_tup {s : Bool} {c : Cf} {A : Addr → Prop} {H : Hp} {a : Addr} {vs : List V} {ds : List D} (h : ∀ H1, Ks s c.p A H H1 → SqT c.K H1 a vs) (r : RepL c A H vs ds) : Walks s c A H (Itt c.K a) ds := by
  refine ⟨fun H => SqT c.K H a vs, YAt vs, by rw [← r.len]; exact walk_tup, h, fun i H1 x H2 hi k ⟨e, y⟩ => ?_⟩
  subst e
  obtain ⟨d, h1, h2⟩ := r.at y
  exact ⟨Same.refl _, d, h1, fun A' up fr => h2.on k.a up⟩
/-- what a value holds while the walk goes on -/
def RSt (s : Bool) (R : RK) : Prop := (s = true ∧ R = rE) ∨ (s = false ∧ R = rO)
theorem stay_l {s : Bool} {c : Cf} {A : Addr → Prop} {H H0 : Hp} {v : V} {ds : List D} {R : RK} (hR : RSt s R) (np : ¬ A c.p) (h : R c A H0 H v (.lst ds)) : ∃ a vs, v = .ref a ∧ (∀ H1, Ks s c.p A H H1 → SqL c.K H1 a vs) ∧ RepL c A H vs ds := by
  rcases hR with ⟨rfl, rfl⟩ | ⟨rfl, rfl⟩
  · cases h with
    | lst h n m r => exact ⟨_, _, rfl, fun H1 k => SqL.of (k _ _ n m h), r⟩
  · rcases h with h | ⟨a, rfl, hA, vs, h1, h2⟩
    · cases h with
      | lst h n m r => exact ⟨_, _, rfl, fun H1 k => SqL.of (Kp.a (A := A) (show Kp c.p H H1 from k) _ _ n m h), r⟩
    · exact ⟨a, vs, rfl, fun H1 k => .inl (.inl (Kp.k (show Kp c.p H H1 from k) a _ (fun z => np (by rw [← z]; exact hA)) h1)), h2⟩
theorem stay_t {s : Bool} {c : Cf} {A : Addr → Prop} {H H0 : Hp} {v : V} {d : D} {ds : List D} {R : RK} (hR : RSt s R) (h : R c A H0 H v d) (e : d = .tup ds ∨ d = .kup ds) : ∃ a vs, v = .ref a ∧ (∀ H1, Ks s c.p A H H1 → SqT c.K H1 a vs) ∧ RepL c A H vs ds := by
  have key : ∀ {v}, Rep c A H v d → ∃ a vs, v = .ref a ∧ (∀ H1, Ks s c.p A H H1 → SqT c.K H1 a vs) ∧ RepL c A H vs ds := fun {v} h => by
    rcases e with rfl | rfl
    · cases h with
      | tup h n m r => exact ⟨_, _, rfl, fun H1 k => SqT.of (k.a _ _ n m h), r⟩
    · obtain ⟨a, vs, e, h1, h2⟩ := rO.kup (H' := H) (.inl h)
      exact ⟨a, vs, e, fun H1 _ => h1 H1, h2⟩
  rcases hR with ⟨rfl, rfl⟩ | ⟨rfl, rfl⟩
  · exact key h
  · rcases h with h | ⟨a, rfl, hA, h1⟩
    · exact key h
    · rcases e with rfl | rfl <;> exact h1.elim
def iSeq (fe : EM) : IM := fun r w => (fe r w).toI itemsD
/-- for x in e, e a list or a tuple -/
theorem vi_seq {s : Bool} {R : RK} (hR : RSt s R) (he : VE X R W e fe) : VI X s W tg e (iSeq fe) := weakI (PI.or (pi_list he) (pi_tup he)) fun σ H R0 ⟨B, A, r, w, hs, hp, q⟩ => by
  have q : PostI s (B.cf X.K X.mg) A σ H W R0 ((fe r w).toI itemsD) := q
  cases z : fe r w with
  | ok d w' =>
    rw [z] at q
    unfold Res.toI itemsD at q
    cases d <;> first | exact q.elim | skip
    · refine .inr ⟨B, A, r, w, hs, hp, ?_⟩
      rw [z]
      intro v H1 k p rv
      obtain ⟨a, vs, rfl, h1, h2⟩ := stay_t hR rv (.inl rfl)
      exact ⟨a, rfl, ⟨vs, h1 H1 (by unfold Ks; split <;> first | exact fun _ _ _ _ h => h | exact .refl)⟩, q _ H1 k p (walks_tup h1 h2)⟩
    · refine .inr ⟨B, A, r, w, hs, hp, ?_⟩
      rw [z]
      intro v H1 k p rv
      obtain ⟨a, vs, rfl, h1, h2⟩ := stay_t hR rv (.inr rfl)
      exact ⟨a, rfl, ⟨vs, h1 H1 (by unfold Ks; split <;> first | exact fun _ _ _ _ h => h | exact .refl)⟩, q _ H1 k p (walks_tup h1 h2)⟩
    · refine .inl ⟨B, A, r, w, hs, hp, ?_⟩
      rw [z]
      intro v H1 k p rv
      obtain ⟨a, vs, rfl, h1, h2⟩ := stay_l hR hs.np rv
      exact ⟨a, rfl, ⟨vs, h1 H1 (by unfold Ks; split <;> first | exact fun _ _ _ _ h => h | exact .refl)⟩, q _ H1 k p (walks_list h1 h2)⟩
  | exc n fs w' => rw [z] at q; exact .inl ⟨B, A, r, w, hs, hp, by rw [z]; exact q⟩
  | bad => rw [z] at q; exact q.elim
theorem st_e : RSt true rE := .inl ⟨rfl, rfl⟩
theorem st_o : RSt false rO := .inr ⟨rfl, rfl⟩


/-! ### targets -/
/-- what a target makes of the environment -/
abbrev GM := D → Env → Option Env
abbrev GMs := List D → Env → Option Env
def tVG (K : PySem.W.Frag) (mg : Str → Option Value) (S : List Nat) (g : GM) : TG := fun v σ H Q =>
  ∃ (B : Bs) (A : Addr → Prop) (r r' : Env) (d : D), StOk K mg B A σ H r ∧ Rep (B.cf K mg) A H v d ∧ g d r = some r' ∧ ∀ σ' : L2.St, StOk K mg B A σ' H r' → (∀ j, j ∉ S → σ'[j]? = σ[j]?) ∧ σ'.length = σ.length → Q σ' H
def tVGs (K : PySem.W.Frag) (mg : Str → Option Value) (S : List Nat) (g : GMs) : TGs := fun vs σ H Q =>
  ∃ (B : Bs) (A : Addr → Prop) (r r' : Env) (ds : List D), StOk K mg B A σ H r ∧ RepL (B.cf K mg) A H vs ds ∧ g ds r = some r' ∧ ∀ σ' : L2.St, StOk K mg B A σ' H r' → (∀ j, j ∉ S → σ'[j]? = σ[j]?) ∧ σ'.length = σ.length → Q σ' H
abbrev VG (X : Cx) (tg : Expr) (S : List Nat) (g : GM) : Prop := PG X tg (tVG X.K X.mg S g)
abbrev VGs (X : Cx) (tgs : List Expr) (S : List Nat) (g : GMs) : Prop := PGs X tgs (tVGs X.K X.mg S g)
theorem weakG {X : Cx} {tg : Expr} {t t' : TG} (h : PG X tg t) (k : ∀ v σ H Q, t' v σ H Q → t v σ H Q) : PG X tg t' := ⟨fun pins s σ H v u Q I r q => h.run pins s σ H v u Q I r (k v σ H Q q)⟩
theorem weakGs {X : Cx} {tg : List Expr} {t t' : TGs} (h : PGs X tg t) (k : ∀ v σ H Q, t' v σ H Q → t v σ H Q) : PGs X tg t' := ⟨fun pins s σ H v u Q I r q => h.run pins s σ H v u Q I r (k v σ H Q q)⟩
theorem PG.or {X : Cx} {tg : Expr} {t t' : TG} (h : PG X tg t) (h' : PG X tg t') : PG X tg (fun v σ H Q => t v σ H Q ∨ t' v σ H Q) := ⟨fun pins s σ H v u Q I r q => q.elim (h.run pins s σ H v u Q I r) (h'.run pins s σ H v u Q I r)⟩
def gN (i : Nat) : GM := fun d r => some (r.set i (some (d, false)))
theorem vg_name (i : Nat) {x : Str} (hN : X.N.Nodup) (hi : X.N[i]? = some x := by rfl) (hx : Loc X.env.scope x := by first | exact Or.inl rfl | exact Or.inr rfl) (hf : X.fn x = true ∨ X.env.scope.names.lookup x = some .local := by first | exact .inl rfl | exact .inr rfl) : VG X (.Name x pos) [i] (gN i) :=
  weakG (pg_name hN hi hx hf) fun v σ H Q ⟨B, A, r, r', d, hs, rv, e, q⟩ => by
    cases e
    exact q _ (hs.set rv) ⟨fun j hj => List.getElem?_set_ne (fun z => hj (by rw [z]; exact List.mem_singleton.mpr rfl)), List.length_set⟩
def gNo : GMs := fun ds r => match ds with
  | [] => some r
  | _ => none
def gCo (g : GM) (gs : GMs) : GMs := fun ds r => match ds with
  | d :: ds => (g d r).bind fun r' => gs ds r'
  | [] => none
theorem vgs_nil : VGs X [] [] gNo := weakGs pgs_nil fun vs σ H Q ⟨B, A, r, r', ds, hs, rv, e, q⟩ => by
  cases rv with
  | nil => cases e; exact ⟨rfl, q σ hs ⟨fun _ _ => rfl, rfl⟩⟩
  | cons _ _ => cases e
theorem vgs_cons {t : Expr} {ts : List Expr} {S S' : List Nat} {g : GM} {gs : GMs} (h1 : VG X t S g) (h2 : VGs X ts S' gs) (hs : (assignEach (t :: ts) X.env).map (·.2) = assign t X.env :: (assignEach ts X.env).map (·.2) := by rfl) : VGs X (t :: ts) (S ++ S') (gCo g gs) :=
  weakGs (pgs_cons h1 h2 hs) fun vs σ H Q ⟨B, A, r, r', ds, hs, rv, e, q⟩ => by
    cases rv with
    | nil => cases e
    | @cons v d vs ds hv hr =>
      have e : (g d r).bind (fun r' => gs ds r') = some r' := e
      cases e1 : g d r with
      | none => rw [e1] at e; cases e
      | some r1 =>
        rw [e1] at e
        exact ⟨v, vs, rfl, B, A, r, r1, d, hs, hv, e1, fun σ1 h1 k1 => ⟨B, A, r1, r', ds, h1, hr, e, fun σ2 h2 k2 => q σ2 h2 ⟨fun j hj => (k2.1 j fun z => hj (List.mem_append_right _ z)).trans (k1.1 j fun z => hj (List.mem_append_left _ z)), k2.2.trans k1.2⟩⟩⟩
def gTupD (n : Nat) (gs : GMs) : GM := fun d r => match d with
  | .tup l => if l.length = n then gs l r else none
  | .kup l => if l.length = n then gs l r else none
  | .lst l => if l.length = n then gs l r else none
  | _ => none
theorem vg_tup {es : List Expr} {k : Nat} {S : List Nat} {gs : GMs} {n : Nat} (hc : X.calm = true) (h : VGs X es S gs)
    (hn : (assignEach es X.env).length = n := by rfl) (hst : (assignEach es X.env).findIdx? (·.1) = none := by rfl) : VG X (.Tuple es k pos) S (gTupD n gs) :=
  weakG (PG.or (pg_tup hc h hn hst) (pg_lst hc h hn hst)) fun v σ H Q ⟨B, A, r, r', d, hs, rv, e, q⟩ => by
    unfold gTupD at e
    split at e
    · split at e
      · rename_i hl
        obtain ⟨a, vs, rfl, h1, h2⟩ := rO.tupq (H' := H) (.inl rv) (.inl rfl)
        exact .inl ⟨a, vs, rfl, h1, by rw [h2.len]; exact hl, B, A, r, r', _, hs, h2, e, q⟩
      · cases e
    · split at e
      · rename_i hl
        obtain ⟨a, vs, rfl, h1, h2⟩ := rO.tupq (H' := H) (.inl rv) (.inr rfl)
        exact .inl ⟨a, vs, rfl, h1, by rw [h2.len]; exact hl, B, A, r, r', _, hs, h2, e, q⟩
      · cases e
    · split at e
      · rename_i hl
        obtain ⟨a, vs, rfl, h1, h2⟩ := rO.lst (H' := H) (.inl rv)
        exact .inr ⟨a, vs, rfl, SqL.of h1, by rw [h2.len]; exact hl, B, A, r, r', _, hs, h2, e, q⟩
      · cases e
    · cases e
/-- target = e -/
def sTo (caps : List Nat) (g : GM) (fe : EM) : SM := fun r w => (fe (rel (these caps) r) w).en (rel (these caps) r) fun d w' => match g d (rel (these caps) r) with
  | some r' => .nx r' w'
  | none => .bad
theorem vs_to {tg : Expr} {S : List Nat} {g : GM} (caps : List Nat) (he : VE X rE W e fe) (hg : VG X tg S g) (hs : swapsWithSole [tg] e pos.line X.env = pure false := by rfl) (hw : swappedStores [tg] e X.env = pure none := by rfl) (h1 : (assignEach [tg] X.env).map (·.2) = [assign tg X.env] := by rfl) : VS X W (.Assign [tg] e pos) (sTo caps g fe) := weakS (ps_asg he hg hs hw h1) fun D σ H ⟨B, A, r, w, hs, hp, q⟩ => by
  have hs1 := hs.rel (these caps)
  refine ⟨B, _, _, w, hs1, hp.less fun a z => .inl z.1, PostS.en hs1 q fun d w' v H1 k p rv q => ?_⟩
  split at q
  · rename_i r' e1
    exact ⟨B, _, _, r', d, hs1.keep k, rv, e1, fun σ' hs' _ => q σ' H1 _ hs' p⟩
  · exact q.elim

/-! ### for -/
/-- for: the items, the target, the body -/
def forL (g : GM) (f : SM) : List D → SM
  | [], r, w => .nx r w
  | d :: ds, r, w => match g d r with
    | none => .bad
    | some r1 => match f r1 w with
      | .nx r2 w2 => forL g f ds r2 w2
      | .ct r2 w2 => forL g f ds r2 w2
      | .bk r2 w2 => .nx r2 w2
      | .rt d w2 => .rt d w2
      | .exc n fs r2 w2 => .exc n fs r2 w2
      | .bad => .bad
def ResI.en (x : ResI) (r : Env) (k : List D → Wd → SR) : SR := match x with
  | .ok l w => k l w
  | .exc n fs w => .exc n fs r w
  | .bad => .bad
def sFor (caps : List Nat) (fi : IM) (g : GM) (f : SM) : SM := fun r w => (fi (rel (these caps) r) w).en (rel (these caps) r) fun l w' => forL g f l (rel (these caps) r) w'
theorem for_core {S : List Nat} {g : GM} {f : SM} {B : Bs} {A1 : Addr → Prop} {σ : L2.St} {H1 : Hp} {r : Env} {w' : Wd} {ds : List D} {J : It} {Z : Ends} (hs2 : StOk X.K X.mg B A1 σ H1 r) (p : PenAt B.p B.lc A1 H1 w') (wk : Walks true (B.cf X.K X.mg) A1 H1 J ds) (q : PostS X.K X.mg B W Z (forL g f ds r w')) :
    ∃ V : Nat → Nat → L2.St → Hp → Prop, (∃ m, V 0 m σ H1) ∧ ∀ i m σ H, V i m σ H →
      (J.stop i H ∧ Z.nx σ H) ∨ (J.go i H ∧ ∃ N : L2.St → Hp → Prop, (∀ σ' H', N σ' H' → ∃ m', m' < m ∧ V (i + 1) m' σ' H') ∧ ∀ x H', J.yld i H x H' → tVG X.K X.mg S g x σ H' fun σ2 H2 => tVS X.K X.mg W f { Z with nx := N, ct := N, bk := Z.nx } σ2 H2) := by
  obtain ⟨G, Y, wk, hG, hY⟩ := wk
  have q2 := PostS.re hs2 ⟨_, p⟩ q
  refine for_it wk (fun i σ' H' => ∃ A' r' w', StOk X.K X.mg (B.re A1 σ H1 r) A' σ' H' r' ∧ PenAt B.p B.lc A' H' w' ∧ PostS X.K X.mg (B.re A1 σ H1 r) W Z (forL g f (ds.drop i) r' w'))
    ⟨A1, _, w', hs2.re, p, q2⟩ (fun i σ' H' hi ⟨A', r', w', h1, h2, h3⟩ => hG H' ?_) ?_ ?_
  · exact fun b o nA nb e => h1.kp.k b o nb ((re_not fun z => nA (hs2.own_a z).1).trans e)
  · rintro i x σ' H' H'' hi ⟨A', r', w', h1, h2, h3⟩ y
    have kA : KpA B.p A1 H1 H' := fun b o nA nb e => h1.kp.k b o nb ((re_not fun z => nA (hs2.own_a z).1).trans e)
    obtain ⟨sm, d, hd, hr⟩ := hY i H' x H'' hi kA y
    have up : ∀ a, A' a → A1 a ∨ H1 a = none := fun a z => by
      rcases h1.ax a z with z | z
      · exact .inl z.1
      · by_cases o : Own σ r a
        · exact .inl (hs2.own_a o).1
        · exact .inr ((re_not o).symm.trans z)
    have rv := hr A' up h1.fre
    rw [List.drop_eq_getElem_cons hi] at h3
    have ed : ds[i] = d := by
      have := (List.getElem?_eq_some_iff.mp hd).2
      exact this
    rw [ed] at h3
    unfold forL at h3
    split at h3
    · exact h3.elim
    · rename_i r1 e1
      refine ⟨B.re A1 σ H1 r, A', r', r1, d, h1.keep (.of sm), rv, e1, fun σ2 hs3 _ => ?_⟩
      refine ⟨B.re A1 σ H1 r, A', r1, w', hs3, h2.keep sm, ?_⟩
      cases e2 : f r1 w' with
      | nx r2 w2 => rw [e2] at h3; exact fun σ3 H3 A3 hs4 hp4 => ⟨A3, r2, w2, hs4, hp4, h3⟩
      | ct r2 w2 => rw [e2] at h3; exact fun σ3 H3 A3 hs4 hp4 => ⟨A3, r2, w2, hs4, hp4, h3⟩
      | bk r2 w2 => rw [e2] at h3; exact h3
      | rt d2 w2 => rw [e2] at h3; exact h3
      | exc n fs r2 w2 => rw [e2] at h3; exact h3
      | bad => rw [e2] at h3; exact h3
  · rintro σ' H' ⟨A', r', w', h1, h2, h3⟩
    rw [List.drop_length] at h3
    have h3' := h3 σ' H' A' h1 h2
    exact h3'
theorem vs_for {tg iter : Expr} {fi : IM} {S : List Nat} {g : GM} {f : SM} {body : List Stmt} (caps : List Nat) (hp : PassesOwn (model X.prog X.w) X.A X.env X.xe) (hc : X.calm = true) (hi : VI X true W tg iter fi) (hg : VG X tg S g) (hb : VSs X W body f) (hs : ∀ x, foldedSetIterable iter X.env x = pure x := by intro _; rfl) :
    VS X W (.For tg iter body [] pos) (sFor caps fi g f) := weakS (ps_for hp hc hi hg hb hs) fun D σ H ⟨B, A, r, w, hs, hp, q⟩ => by
  have hs1 := hs.rel (these caps)
  refine ⟨B, _, _, w, hs1, hp.less fun a z => .inl z.1, ?_⟩
  have q : PostS X.K X.mg B W D ((fi (rel (these caps) r) w).en (rel (these caps) r) fun l w' => forL g f l (rel (these caps) r) w') := q
  cases z : fi (rel (these caps) r) w with
  | bad => rw [z] at q; exact q
  | exc n fs w' => rw [z] at q; exact fun cls dd H' k' p e => q cls dd σ H' _ (hs1.keep k') p e
  | ok ds w' =>
    rw [z] at q
    exact fun J H1 k p wk => for_core (hs1.keep k) p wk q
end
end DL

set_option Elab.async false
set_option linter.all false
set_option maxRecDepth 100000
set_option maxHeartbeats 2000000
namespace DL
open PySem L2

abbrev Wno : WX := fun _ _ _ _ => False
section
variable {K : PySem.W.Frag} {mg : Str → Option Value} {B : Bs} {A : Addr → Prop} {σ : L2.St} {H H1 : Hp} {r : Env}
/-- beside a new object that is being filled -/
theorem StOk.side {a : Addr} (h : StOk K mg B A σ H1 r) (n : H1 a = none) (k : Kp B.p H1 H) (t : ∃ o, H a = some o) : StOk K mg B (fun b => A b ∨ b = a) σ H r := by
  have hna := h.fresh n
  have h' := h.keep k
  have up : ∀ b, (A b ∨ b = a) → A b ∨ H1 b = none := fun b q => q.elim .inl fun e => .inr (by rw [e]; exact n)
  have b0 : B.H0 a = none := h.kp.free n
  refine ⟨h'.kp, h'.tp, fun b q => q.elim (h'.tr b) fun e => by rw [e]; exact t, fun b q => .inl (h.a0 b q), h.t0, fun b q => q.elim (h.ax b) fun e => .inr (by rw [e]; exact b0), fun q => q.elim h.np fun e => hna.2 e.symm, fun j e q => ?_, fun j e q => ?_, h.ne, h.ln⟩
  · obtain ⟨u, h1, h2⟩ := h.pl j e q
    exact ⟨u, h1, (h2.to up).keepA (Kp.a k)⟩
  · obtain ⟨b, h1, h2, h3, h4⟩ := h.ow j e q
    exact ⟨b, h1, .inl h2, h3, (h4.to up).keepA (Kp.a k) fun o q => k.k b o (fun z => h.np (z ▸ h2)) q⟩
def wipeE (vs : List Nat) (r : Env) : Env := vs.foldr (fun v r => r.set v none) r
theorem StOk.wipe (h : StOk K mg B A σ H r) : ∀ vs : List Nat, StOk K mg B A (L2.wipe σ vs) H (wipeE vs r)
  | [] => h
  | v :: vs => by
    have ih := StOk.wipe h vs
    show StOk K mg B A ((L2.wipe σ vs).set v none) H ((wipeE vs r).set v none)
    generalize L2.wipe σ vs = σ1 at ih
    generalize wipeE vs r = r1 at ih
    have f : ∀ {j : Nat} {x}, (r1.set v none)[j]? = some (some x) → r1[j]? = some (some x) ∧ v ≠ j := fun {j x} e => by
      rcases set_at e with ⟨_, z⟩ | ⟨n, z⟩
      · cases z
      · exact ⟨z, Ne.symm n⟩
    refine ⟨ih.kp, ih.tp, ih.tr, ih.a0, ih.t0, ih.ax, ih.np, fun i d e => ?_, fun i d e => ?_, fun i j d e a h1 h2 s1 s2 => ?_, by rw [List.length_set, List.length_set]; exact ih.ln⟩
    · obtain ⟨u, h1, h2⟩ := ih.pl i d (f e).1
      exact ⟨u, by rw [List.getElem?_set_ne (f e).2]; exact h1, h2⟩
    · obtain ⟨u, h1, h2⟩ := ih.ow i d (f e).1
      exact ⟨u, by rw [List.getElem?_set_ne (f e).2]; exact h1, h2⟩
    · rw [List.getElem?_set_ne (f h1).2] at s1
      rw [List.getElem?_set_ne (f h2).2] at s2
      exact ih.ne i j d e a (f h1).1 (f h2).1 s1 s2
end
theorem wipe_agree : ∀ (vs : List Nat) {σ σ' : L2.St}, σ'.length = σ.length → (∀ j, j ∉ vs → σ'[j]? = σ[j]?) → wipe σ' vs = wipe σ vs := fun vs σ σ' hl h => by
  have key : ∀ (vs : List Nat) (σ : L2.St) (j : Nat), (wipe σ vs)[j]? = if j ∈ vs then (σ[j]?.map fun _ => none) else σ[j]? := by
    intro vs
    induction vs with
    | nil => intro σ j; simp [wipe]
    | cons v vs ih =>
      intro σ j
      show ((wipe σ vs).set v none)[j]? = _
      rw [List.getElem?_set]
      by_cases e : v = j
      · subst e
        rw [if_pos rfl, if_pos List.mem_cons_self, wipe_length]
        by_cases hv : v < σ.length
        · rw [if_pos hv, List.getElem?_eq_getElem hv]; rfl
        · rw [if_neg hv, List.getElem?_eq_none (by omega)]; rfl
      · rw [if_neg e, ih]
        have : (j ∈ v :: vs) ↔ j ∈ vs := by simp [Ne.symm e]
        by_cases hj : j ∈ vs
        · rw [if_pos hj, if_pos (this.mpr hj)]
        · rw [if_neg hj, if_neg (fun z => hj (this.mp z))]
  apply List.ext_getElem?
  intro j
  rw [key, key]
  by_cases hj : j ∈ vs
  · rw [if_pos hj, if_pos hj]
    by_cases h1 : j < σ.length
    · rw [List.getElem?_eq_getElem h1, List.getElem?_eq_getElem (by omega)]; rfl
    · rw [List.getElem?_eq_none (by omega), List.getElem?_eq_none (by omega)]
  · rw [if_neg hj, if_neg hj]; exact h j hj
theorem wipe_wipe (vs : List Nat) (σ : L2.St) : wipe (wipe σ vs) vs = wipe σ vs := by
  refine wipe_agree vs (wipe_length σ vs) fun j hj => ?_
  have : ∀ (l : List Nat), j ∉ l → (wipe σ l)[j]? = σ[j]? := by
    intro l
    induction l with
    | nil => intro _; rfl
    | cons v l ih =>
      intro h
      show ((wipe σ l).set v none)[j]? = _
      rw [List.getElem?_set_ne (fun e => h (by rw [e]; exact List.mem_cons_self))]
      exact ih fun z => h (List.mem_cons_of_mem _ z)
  exact this vs hj
theorem RepL.snoc {c : Cf} {A : Addr → Prop} {H : Hp} {v : V} {d : D} : ∀ {vs : List V} {ds : List D}, RepL c A H vs ds → Rep c A H v d → RepL c A H (vs ++ [v]) (ds ++ [d])
  | _, _, .nil, h => .cons h .nil
  | _, _, .cons h r, q => .cons h (RepL.snoc r q)
/-- [e for g in .. if t] over the items -/
def lcL (vs : List Nat) (g : GM) (ft fe : EM) (r : Env) : List D → Wd → List D → Res
  | [], w, acc => .ok (.lst acc) w
  | d :: ds, w, acc => match g d (wipeE vs r) with
    | none => .bad
    | some r1 => match ft r1 w with
      | .ok (.bl true) w1 => match fe r1 w1 with
        | .ok y w2 => if acc.length < sizeLine then lcL vs g ft fe r ds w2 (acc ++ [y]) else .bad
        | _ => .bad
      | .ok (.bl false) w1 => lcL vs g ft fe r ds w1 acc
      | _ => .bad
def ResI.toR (x : ResI) (k : List D → Wd → Res) : Res := match x with
  | .ok l w => k l w
  | .exc n fs w => .exc n fs w
  | .bad => .bad
def dComp (vs : List Nat) (fi : IM) (g : GM) (ft fe : EM) : EM := fun r w => (fi r w).toR fun l w' => lcL vs g ft fe r l w' []
def dYes : EM := fun _ w => .ok (.bl true) w
abbrev VTs (X : Cx) (W : WX) (ifs : List Expr) (f : EM) : Prop := PTs X ifs (tVT X.K X.mg W f)
section
variable {X : Cx} {W : WX} {tg elt iter : Expr} {ifs : List Expr} {ft fe : EM} {fi : IM} {g : GM} {S : List Nat} {pos : Pos}
theorem vts_nil : VTs X W [] dYes := ⟨fun pins s σ H Q I ⟨B, A, r, w, hs, hp, q⟩ => pts_nil.run pins s σ H Q I (q H .refl hp)⟩
theorem vts_one {c : Expr} (h : VT X W c ft) : VTs X W [c] ft := pts_one h
theorem lc_core2 {vs : List Nat} {B : Bs} {A : Addr → Prop} {σ : L2.St} {H H1 : Hp} {r : Env} {w' : Wd} {ds : List D} {J : It} {Q : VK} {L : Addr} (hsub : ∀ j ∈ S, j ∈ vs) (hs : StOk X.K X.mg B A σ H1 r) (p : PenAt B.p B.lc A H1 w') (k0 : Kp B.p H H1) (wk : Walks false (B.cf X.K X.mg) A H1 J ds) (hn : H1 L = none)
    (q : Post (B.cf X.K X.mg) A σ H1 rF W Q (lcL vs g ft fe r ds w' [])) :
    ∃ V : Nat → Nat → Hp → Prop, (∃ m, V 0 m (upd H1 L (.lst []))) ∧ ∀ i m H, V i m H → (J.stop i H ∧ Q (.ref L) H) ∨ (J.go i H ∧ ∃ Nx : Hp → Prop, (∀ H', Nx H' → ∃ m', m' < m ∧ V (i + 1) m' H') ∧ ∀ x H', J.yld i H x H' →
      tVG X.K X.mg S g x (wipe σ vs) H' fun σ2 H2 => wipe σ2 vs = wipe σ vs ∧ tVT X.K X.mg Wno ft σ2 H2 fun b H3 => if b = true then tV X.K X.mg rE Wno fe σ2 H3 fun y H4 => ∃ acc, H4 L = some (.lst acc) ∧ acc.length < sizeLine ∧ Nx (upd H4 L (.lst (acc ++ [y]))) else Nx H3) := by
  obtain ⟨G, Y, wk, hG, hY⟩ := wk
  have fr := hs.fresh hn
  have kpL : ∀ {H2 : Hp} {o : HO}, Kp B.p H1 H2 → Kp B.p H1 (upd H2 L o) := fun {H2 o} k => ⟨fun b u nb e => by rw [upd_ne (ne_of_none e hn)]; exact k.k b u nb e, fun t => by rw [upd_ne (Ne.symm fr.2)]; exact k.t t⟩
  have penL : ∀ {H2 : Hp} {o : HO} {w2 : Wd}, PenAt B.p B.lc (fun b => A b ∨ b = L) H2 w2 → PenAt B.p B.lc (fun b => A b ∨ b = L) (upd H2 L o) w2 := fun {H2 o w2} h => h.write (.inr rfl)
  refine lc_it wk (fun i H2 => ∃ w2 acc avs, Kp B.p H1 H2 ∧ PenAt B.p B.lc (fun b => A b ∨ b = L) H2 w2 ∧ H2 L = some (.lst avs) ∧ RepL (B.cf X.K X.mg) (fun b => A b ∨ b = L) H2 avs acc ∧ Post (B.cf X.K X.mg) A σ H1 rF W Q (lcL vs g ft fe r (ds.drop i) w2 acc))
    ⟨w', [], [], kpL .refl, penL (p.more hn .refl ⟨_, p⟩), upd_same, .nil, q⟩ (fun i H2 hi ⟨w2, acc, avs, k, _⟩ => hG H2 k) ?_ ?_
  · rintro i x H2 H3 hi ⟨w2, acc, avs, k, pn, hL, hr, q2⟩ y
    obtain ⟨sm, d, hd, hrep⟩ := hY i H2 x H3 hi k y
    have hs2 : StOk X.K X.mg B (fun b => A b ∨ b = L) σ H2 r := hs.side hn k ⟨_, hL⟩
    have rv := hrep (fun b => A b ∨ b = L) (fun b z => z.elim .inl fun e => .inr (by rw [e]; exact hn)) hs2.fre
    rw [List.drop_eq_getElem_cons hi] at q2
    have ed : ds[i] = d := (List.getElem?_eq_some_iff.mp hd).2
    rw [ed] at q2
    unfold lcL at q2
    split at q2
    · exact q2.elim
    · rename_i r1 e1
      refine ⟨B, _, wipeE vs r, r1, d, (hs2.keep (.of sm)).wipe vs, rv, e1, fun σ2 hs3 ag => ⟨?_, ?_⟩⟩
      · exact (wipe_agree vs ag.2 fun j hj => ag.1 j fun z => hj (hsub j z)).trans (wipe_wipe vs σ)
      · refine ⟨B, _, r1, w2, hs3, pn.keep sm, ?_⟩
        have kH3 : Kp B.p H1 H3 := k.trans (.of sm)
        cases e2 : ft r1 w2 with
        | bad => rw [e2] at q2; exact q2.elim
        | exc n fs w3 => rw [e2] at q2; exact q2.elim
        | ok t w3 =>
          rw [e2] at q2
          cases t <;> first | exact q2.elim | skip
          rename_i b
          cases b with
          | false => exact fun H4 k4 p4 => iteF ⟨w3, acc, avs, kH3.trans k4, p4, k4.k _ _ fr.2 (sm _ _ hL), (hr.keepA (H' := H4) (Kp.a ((Kp.of sm).trans k4))), q2⟩
          | true =>
            refine fun H4 k4 p4 => iteT ⟨B, _, r1, w3, hs3.keep k4, p4, ?_⟩
            simp only at q2
            cases e3 : fe r1 w3 with
            | bad => rw [e3] at q2; exact q2.elim
            | exc n fs w4 => rw [e3] at q2; exact q2.elim
            | ok y w4 =>
              rw [e3] at q2
              simp only at q2
              split at q2
              · rename_i hlt
                intro v H5 k5 p5 rv5
                have hL5 : H5 L = some (.lst avs) := k5.k _ _ fr.2 (k4.k _ _ fr.2 (sm _ _ hL))
                have ru : RepL (B.cf X.K X.mg) (fun b => A b ∨ b = L) H5 avs acc := hr.keepA (Kp.a (((Kp.of sm).trans k4).trans k5))
                refine ⟨avs, hL5, by rw [ru.len]; exact hlt, w4, acc ++ [y], avs ++ [v], kpL ((kH3.trans k4).trans k5), penL p5, upd_same, (ru.snoc rv5).keepA (KpA.upd (.inr rfl)), q2⟩
              · exact q2.elim
  · rintro H2 ⟨w2, acc, avs, k, pn, hL, hr, q2⟩
    rw [List.drop_length] at q2
    exact q2 _ H2 k (pn.less fun a z => .inl (.inl z)) ⟨L, rfl, hn, avs, hL, hr⟩

theorem tlc_of {vs : List Nat} {R : RK} (hsub : ∀ j ∈ S, j ∈ vs) (hR : R = rF) {σ : L2.St} {H : Hp} {Q : VK} (h : tV X.K X.mg R W (dComp vs fi g ft fe) σ H Q) : tLc (tVI X.K X.mg false W fi) (tVG X.K X.mg S g) (tVT X.K X.mg Wno ft) (tV X.K X.mg rE Wno fe) vs σ H Q := by
  subst hR
  obtain ⟨B, A, r, w, hs, hp, q⟩ := h
  refine ⟨B, A, r, w, hs, hp, ?_⟩
  have q : Post (B.cf X.K X.mg) A σ H rF W Q ((fi r w).toR fun l w' => lcL vs g ft fe r l w' []) := q
  cases z : fi r w with
  | bad => rw [z] at q; exact q
  | exc n fs w' => rw [z] at q; exact fun cls dd H' k p e => q cls dd H' k p e
  | ok ds w' =>
    rw [z] at q
    exact fun J H1 k p wk L hn => lc_core2 hsub (hs.keep k) p k wk hn (Post.at k q)
/-- [elt for tg in iter if ..], a new list -/
theorem vf_comp {scope : Scope} {own : List (Str × Nat)} (hc : X.calm = true) (hN : X.N.Nodup) (hi : VI X false W tg iter fi) (ok : BlkOk X.N X.env.scope scope own)
    (hg : ∀ (s : Shared) (H : Hp) (C : Addr) (cl : List (Str × Addr)) (fp : List Addr), VG (X.blk s H scope (compEnvC scope cl C X.env) fp) tg S g) (ht : ∀ (s : Shared) (H : Hp) (C : Addr) (cl : List (Str × Addr)) (fp : List Addr), VTs (X.blk s H scope (compEnvC scope cl C X.env) fp) Wno ifs ft)
    (he : ∀ (s : Shared) (H : Hp) (C : Addr) (cl : List (Str × Addr)) (fp : List Addr), VE (X.blk s H scope (compEnvC scope cl C X.env) fp) rE Wno elt fe) (hsub : ∀ j ∈ S, j ∈ own.map (·.2) := by decide) (hs : ∀ x, foldedSetIterable iter X.env x = pure x := by intro _; rfl) :
    VE X rF W (.ListComp elt [⟨tg, iter, ifs, 0⟩] scope pos) (dComp (own.map (·.2)) fi g ft fe) := weak (pe_lc hc hN hi ok hg ht he hs) fun σ H Q h => tlc_of hsub rfl h
/-- y = [..] -/
theorem vs_setC {i : Nat} {y : Str} {py spos : Pos} {scope : Scope} {own : List (Str × Nat)} (caps : List Nat) (hc : X.calm = true) (hN : X.N.Nodup) (hyl : X.env.scope.names.lookup y = some .local) (hsw : swapsWith (.ListComp elt [⟨tg, iter, ifs, 0⟩] scope pos) (some (.Name y py)) spos.line X.env = pure true)
    (hi : VI X false W tg iter fi) (ok : BlkOk X.N X.env.scope scope own)
    (hg : ∀ (s : Shared) (H : Hp) (C : Addr) (cl : List (Str × Addr)) (fp : List Addr), VG (X.blk s H scope (compEnvC scope cl C X.env) fp) tg S g) (ht : ∀ (s : Shared) (H : Hp) (C : Addr) (cl : List (Str × Addr)) (fp : List Addr), VTs (X.blk s H scope (compEnvC scope cl C X.env) fp) Wno ifs ft)
    (he : ∀ (s : Shared) (H : Hp) (C : Addr) (cl : List (Str × Addr)) (fp : List Addr), VE (X.blk s H scope (compEnvC scope cl C X.env) fp) rE Wno elt fe) (hy : X.N[i]? = some y := by rfl) (hsub : ∀ j ∈ S, j ∈ own.map (·.2) := by decide) (hs : ∀ x, foldedSetIterable iter X.env x = pure x := by intro _; rfl) :
    VS X W (.Assign [.Name y py] (.ListComp elt [⟨tg, iter, ifs, 0⟩] scope pos) spos) (sSetO i caps (dComp (own.map (·.2)) fi g ft fe)) := weakS (ps_setLc hc hN hy hyl hsw hi ok hg ht he hs) fun D σ H ⟨B, A, r, w, hs, hp, q⟩ => by
  have hs1 := hs.rel (these caps)
  have hp1 : PenAt B.p B.lc (fun a => A a ∧ ¬ OwnBy (these caps) σ r a) H w := hp.less fun a z => .inl z.1
  refine tlc_of (R := rF) hsub rfl ⟨B, _, _, w, hs1, hp1, PostS.en hs1 q fun d w' v H1 k p rv q => ?_⟩
  obtain ⟨a, rfl, hn, ho⟩ := rv
  exact q _ H1 _ (hs1.setO k hn ho) (p.more hn k ⟨w, hp1⟩)
end
end DL

set_option Elab.async false
set_option linter.all false
set_option maxRecDepth 100000
set_option maxHeartbeats 2000000
namespace DL
open PySem PySem.Spec PyProof.Rows L2

/-! ### argument lists, displays -/
def RL (R : RK) (c : Cf) (A : Addr → Prop) (H' : Hp) (vs : List V) (ds : List D) : Prop := Paired (fun v d => R c A H' H' v d) vs ds
class RKs (R : RK) : Prop where
  keep : ∀ {c : Cf} {A : Addr → Prop} {H H' H0 H1 : Hp} {v d}, ¬ A c.p → Kp c.p H H' → R c A H0 H v d → R c A H1 H' v d
instance : RKs rE := ⟨fun _ k h => h.keepA k.a⟩
instance : RKs rO := ⟨fun n k h => rO.keep n k h⟩
theorem RL.e {c : Cf} {A : Addr → Prop} {H : Hp} : ∀ {vs : List V} {ds : List D}, RL rE c A H vs ds → RepL c A H vs ds
  | _, _, .nil => .nil
  | _, _, .cons h r => .cons h (RL.e r)
theorem RL.of {c : Cf} {A : Addr → Prop} {H : Hp} : ∀ {vs : List V} {ds : List D}, RepL c A H vs ds → RL rE c A H vs ds
  | _, _, .nil => .nil
  | _, _, .cons h r => .cons h (RL.of r)
def PostA (R : RK) (c : Cf) (A : Addr → Prop) (σ : L2.St) (H : Hp) (W : WX) (Q : List V → Hp → Prop) : ResI → Prop
  | .ok ds w => ∀ vs H', Kp c.p H H' → PenAt c.p c.lc A H' w → RL R c A H' vs ds → Q vs H'
  | .exc n fs w => ∀ cls dd H', Kp c.p H H' → PenAt c.p c.lc A H' w → ErrR c A n fs cls dd H' → W cls dd σ H'
  | .bad => False
theorem PostA.at {R : RK} {c : Cf} {A : Addr → Prop} {σ : L2.St} {H H1 : Hp} {W : WX} {Q : List V → Hp → Prop} {x : ResI} (k : Kp c.p H H1) (h : PostA R c A σ H W Q x) : PostA R c A σ H1 W Q x := by
  cases x with
  | ok d w => exact fun v H' k' p r => h v H' (k.trans k') p r
  | exc n fs w => exact fun cls dd H' k' p r => h cls dd H' (k.trans k') p r
  | bad => exact h
def tVA (K : PySem.W.Frag) (mg : Str → Option Value) (R : RK) (W : WX) (f : IM) : TA := fun σ H Q =>
  ∃ (B : Bs) (A : Addr → Prop) (r : Env) (w : Wd), StOk K mg B A σ H r ∧ PenAt B.p B.lc A H w ∧ PostA R (B.cf K mg) A σ H W Q (f r w)
abbrev VA (X : Cx) (R : RK) (W : WX) (es : List Expr) (f : IM) : Prop := PA X es (tVA X.K X.mg R W f)
theorem weakA {X : Cx} {es : List Expr} {t t' : TA} (h : PA X es t) (k : ∀ σ H Q, t' σ H Q → t σ H Q) : PA X es t' := ⟨fun pos pins s σ H Q I q => h.run pos pins s σ H Q I (k σ H Q q)⟩
def aNil : IM := fun _ w => .ok [] w
def ResI.mapA (x : ResI) (k : List D → List D) : ResI := match x with
  | .ok l w => .ok (k l) w
  | .exc n fs w => .exc n fs w
  | .bad => .bad
def aCons (fe : EM) (fa : IM) : IM := fun r w => match fe r w with
  | .ok d w1 => (fa r w1).mapA (d :: ·)
  | .exc n fs w1 => .exc n fs w1
  | .bad => .bad
section
variable {X : Cx} {W : WX} {R : RK} {e a b : Expr} {es : List Expr} {fe : EM} {fa : IM} {pos : Pos}
theorem va_nil : VA X R W [] aNil := weakA pa_nil fun σ H Q ⟨B, A, r, w, hs, hp, q⟩ => q [] H .refl hp .nil
theorem va_cons [RKs R] (he : VE X R W e fe) (ha : VA X R W es fa) (hs : starEach (e :: es) X.env = (false, eval e X.env) :: starEach es X.env := by rfl) : VA X R W (e :: es) (aCons fe fa) := weakA (pa_cons he ha hs) fun σ H Q ⟨B, A, r, w, hs, hp, q⟩ => by
  refine ⟨B, A, r, w, hs, hp, ?_⟩
  unfold aCons at q
  cases z : fe r w with
  | bad => rw [z] at q; exact q
  | exc n fs w1 => rw [z] at q; exact q
  | ok d w1 =>
    rw [z] at q
    intro v H1 k1 p1 r1
    refine ⟨B, A, r, w1, hs.keep k1, p1, ?_⟩
    have q : PostA R (B.cf X.K X.mg) A σ H W Q ((fa r w1).mapA (d :: ·)) := q
    cases z2 : fa r w1 with
    | bad => rw [z2] at q; exact q
    | exc n fs w2 => rw [z2] at q; exact fun cls dd H' k p e => q cls dd H' (k1.trans k) p e
    | ok ds w2 => rw [z2] at q; exact fun vs H2 k2 p2 r2 => q _ H2 (k1.trans k2) p2 (.cons (RKs.keep hs.np k2 r1) r2)
def dTup (fa : IM) : EM := fun r w => (fa r w).toR fun l w' => if l.length ≤ sizeLine then .ok (.tup l) w' else .bad
def dLst (fa : IM) : EM := fun r w => (fa r w).toR fun l w' => if l.length ≤ sizeLine then .ok (.lst l) w' else .bad
theorem ve_tup {k : Nat} (ha : VA X rE W es fa) : VE X rE W (.Tuple es k pos) (dTup fa) := weak (pe_tup ha) fun σ H Q ⟨B, A, r, w, hs, hp, q⟩ => by
  refine ⟨B, A, r, w, hs, hp, ?_⟩
  have q : Post (B.cf X.K X.mg) A σ H rE W Q ((fa r w).toR fun l w' => if l.length ≤ sizeLine then .ok (.tup l) w' else .bad) := q
  cases z : fa r w with
  | bad => rw [z] at q; exact q
  | exc n fs w1 => rw [z] at q; exact q
  | ok ds w1 =>
    rw [z] at q
    unfold ResI.toR at q
    simp only at q
    split at q
    · rename_i hl
      intro vs H1 k1 p1 r1
      have r2 := r1.e
      refine ⟨by rw [r2.len]; exact hl, fun t ht => ?_⟩
      have hf := (hs.keep k1).fresh ht
      exact q _ _ (k1.trans (.of (same_new ht))) (p1.keep (same_new ht)) (.tup upd_same hf.1 hf.2 (r2.keepA (Kp.a (.of (same_new ht)))))
    · exact q.elim
theorem vf_lst (ha : VA X rE W es fa) : VE X rF W (.List es pos) (dLst fa) := weak (pe_lst ha) fun σ H Q ⟨B, A, r, w, hs, hp, q⟩ => by
  refine ⟨B, A, r, w, hs, hp, ?_⟩
  have q : Post (B.cf X.K X.mg) A σ H rF W Q ((fa r w).toR fun l w' => if l.length ≤ sizeLine then .ok (.lst l) w' else .bad) := q
  cases z : fa r w with
  | bad => rw [z] at q; exact q
  | exc n fs w1 => rw [z] at q; exact q
  | ok ds w1 =>
    rw [z] at q
    unfold ResI.toR at q
    simp only at q
    split at q
    · rename_i hl
      intro vs H1 k1 p1 r1
      have r2 := r1.e
      refine ⟨by rw [r2.len]; exact hl, fun t ht => ?_⟩
      exact q _ _ (k1.trans (.of (same_new ht))) (p1.keep (same_new ht)) ⟨t, rfl, k1.free ht, vs, upd_same, (r2.to fun b z => z.elim .inl fun e => .inr (by rw [e]; exact ht)).keepA (Kp.a (.of (same_new ht)))⟩
    · exact q.elim

/-! ### defs -/
/-- the promise of a def that comes to F -/
def spV (K : PySem.W.Frag) (mg : Str → Option Value) (n : Nat) (F : List D → Wd → Res) : Sp := fun vs H Q E => ∃ (p lc : Addr) (A : Addr → Prop) (w : Wd) (ds : List D),
  (∀ a, A a → ∃ o, H a = some o) ∧ PenAt p lc A H w ∧ RepL ⟨K, mg, p, lc⟩ A H vs ds ∧ ds.length = n ∧ Post ⟨K, mg, p, lc⟩ A [] H rE (fun cls d _ H => E cls d H) Q (F ds w)
def startE (n : Nat) (ds : List D) : Env := ds.map (fun d => some (d, false)) ++ List.replicate (n - ds.length) none
def SR.res : SR → Res
  | .rt d w => .ok d w
  | .nx _ w => .ok .non w
  | .exc n fs _ w => .exc n fs w
  | _ => .bad
def runD (n : Nat) (f : SM) : List D → Wd → Res := fun ds w => (f (startE n ds) w).res
theorem start_ok {K : PySem.W.Frag} {mg : Str → Option Value} {p lc : Addr} {A : Addr → Prop} {H : Hp} {w : Wd} {vs : List V} {ds : List D} {N : List Str} (tr : ∀ a, A a → ∃ o, H a = some o) (pn : PenAt p lc A H w) (r : RepL ⟨K, mg, p, lc⟩ A H vs ds) : StOk K mg ⟨p, lc, A, H⟩ A (L2.start N vs) H (startE N.length ds) := by
  have hl := r.len
  obtain ⟨o, l, h1, h2, h3, h4, h5⟩ := pn
  have no : ∀ {i : Nat} {d : D} {b : Bool}, (startE N.length ds)[i]? = some (some (d, b)) → b = false ∧ ds[i]? = some d := fun {i d b} e => by
    unfold startE at e
    rw [List.getElem?_append] at e
    split at e
    · rw [List.getElem?_map] at e
      cases z : ds[i]? with
      | none => rw [z] at e; cases e
      | some d' => rw [z] at e; simp at e; exact ⟨e.2, by rw [e.1]⟩
    · have := List.mem_of_getElem? e
      rw [List.mem_replicate] at this
      cases this.2
  refine ⟨.refl, ⟨_, h1⟩, tr, fun a q => q, tr, fun a q => .inl q, h4, fun i d e => ?_, fun i d e => ?_, fun i j d d2 a e => ?_, ?_⟩
  · obtain ⟨_, e⟩ := no e
    have hi : i < ds.length := (List.getElem?_eq_some_iff.mp e).1
    obtain ⟨v, hv⟩ : ∃ v, vs[i]? = some v := ⟨vs[i]'(by omega), List.getElem?_eq_getElem (by omega)⟩
    obtain ⟨d', h6, h7⟩ := r.at hv
    rw [e] at h6; cases h6
    refine ⟨v, ?_, h7⟩
    unfold L2.start
    rw [List.getElem?_append_left (by simpa using by omega), List.getElem?_map, hv]; rfl
  · exact absurd (no e).1 (by decide)
  · exact absurd (no e).1 (by decide)
  · unfold L2.start startE
    simp [hl]
/-- a def: its body comes to f -/
theorem fun_v {P : Program} {w : World} {K : PySem.W.Frag} {mg : Str → Option Value} {base : Heap} {x qual : Str} {st : Stmt} {f : Addr} {fd : FuncData} {N ps : List Str} {k : Nat} {g : SM} (F : Fun K x qual st f fd) (S : FnScope N ps (defScope st))
    (hb : ∀ (cdv : Value) (A : Around) (outer : List PySem.Env) (s : Shared) (H : Hp) (E : XK), Room k (A.deeper (envOfC qual (defScope st) s.heap.objs.size f cdv)) →
      VSs (cxOf (L2.CX P w) P w K mg base N qual (defScope st) f cdv A outer s H E) (fun cls d _ H => E cls d H) (defBody st) g) : FnOk P w K mg base (L2.CX P w) (k + 1) f fd ps (spV K mg ps.length (runD N.length g)) := by
  refine F.okX S (fun vs H Q E h => ?_) (fun cdv A outer s H vs Q E hr h => ⟨_, hb cdv A outer s H E hr, ?_⟩)
  · obtain ⟨p, lc, A, w, ds, _, _, r, e, _⟩ := h
    rw [r.len, e]
  · obtain ⟨p, lc, A, w, ds, tr, pn, r, e, q⟩ := h
    refine ⟨⟨p, lc, A, H⟩, A, _, w, start_ok tr pn r, pn, ?_⟩
    unfold runD at q
    cases z : g (startE N.length ds) w with
    | rt d w' => rw [z] at q; exact fun v H' k p r => q v H' k p r
    | nx r' w' => rw [z] at q; exact fun σ' H' A' hs hp => q .non H' hs.kp (hp.less fun a z => .inl (hs.a0 a z)) .non
    | exc n fs r' w' => rw [z] at q; exact fun cls dd σ' H' A' hs hp er => q cls dd H' hs.kp (hp.less fun a z => .inl (hs.a0 a z)) (by
        obtain ⟨C, e1, e2, e3⟩ := er
        refine ⟨C, e1, e2, ?_⟩
        cases dd with
        | none => exact e3
        | some x =>
          obtain ⟨fvs, f1, f2, f3, f4, f5⟩ := e3
          exact ⟨fvs, f1, f2, fun z => f3 (hs.a0 _ z), f4, f5.to fun a z => .inl (hs.a0 a z)⟩)
    | bk r' w' => rw [z] at q; exact q.elim
    | ct r' w' => rw [z] at q; exact q.elim
    | bad => rw [z] at q; exact q.elim
def dCall (F : List D → Wd → Res) (fa : IM) : EM := fun r w => (fa r w).toR F
theorem call_of {F : List D → Wd → Res} {n : Nat} {B : Bs} {A : Addr → Prop} {σ : L2.St} {H : Hp} {r : Env} {w : Wd} {vs : List V} {ds : List D} {Q : VK} (hs : StOk X.K X.mg B A σ H r) (hp : PenAt B.p B.lc A H w) (ra : RepL (B.cf X.K X.mg) A H vs ds) (hn : ds.length = n)
    (q : Post (B.cf X.K X.mg) A σ H rE W Q (F ds w)) : spV X.K X.mg n F vs H Q (fun cls d H' => W cls d σ H') := by
  refine ⟨B.p, B.lc, A, w, ds, hs.tr, hp, ra, hn, ?_⟩
  cases z : F ds w with
  | ok d w' => rw [z] at q; exact q
  | exc m fs w' => rw [z] at q; exact q
  | bad => rw [z] at q; exact q
theorem passesAt {σ : L2.St} (tk : Takes X W) : PassesAt (L2.CX X.prog X.w) X σ (fun cls d H' => W cls d σ H') := passAt tk σ
/-- f(..) -/
theorem ve_call {F : List D → Wd → Res} {n k : Nat} {f : Addr} {fd : FuncData} {ps : List Str} {x : Str} {p : Pos} (tk : Takes X W) (G : FnOk X.prog X.w X.K X.mg X.base (L2.CX X.prog X.w) k f fd ps (spV X.K X.mg n F)) (hr : Room k X.A) (hm : X.mg x = some (.ref f)) (hk : PySem.W.keepIn X.K (.ref f) = true) (hb : Binds X.K fd ps [])
    (ha : VA X rE W (e :: es) fa) (hl : ∀ r w l w', fa r w = .ok l w' → l.length = n) (hg : Gl X x := by rfl) (hdb : (x == ("__debug__" : Str)) = false := by decide) (he : starEach (e :: es) X.env = (false, eval e X.env) :: starEach es X.env := by rfl) (hpl : (backTo pos (starEach es X.env)).any (·.1) = false := by rfl) :
    VE X rE W (.Call (.Name x p) (e :: es) [] pos) (dCall F fa) := weak (pe_callSD G hr hg hm hk hb .nil (fun σ => passesAt tk) ha hdb he hpl) fun σ H Q ⟨B, A, r, w, hs, hp, q⟩ => by
  refine ⟨B, A, r, w, hs, hp, ?_⟩
  have q : Post (B.cf X.K X.mg) A σ H rE W Q ((fa r w).toR F) := q
  cases z : fa r w with
  | bad => rw [z] at q; exact q
  | exc m fs w1 => rw [z] at q; exact q
  | ok ds w1 =>
    rw [z] at q
    intro vs H1 k1 p1 r1
    have := call_of (hs.keep k1) p1 r1.e (hl r w ds w1 z) (Post.at k1 q)
    simpa using this
end
end DL

set_option Elab.async false
set_option linter.all false
set_option maxRecDepth 100000
set_option maxHeartbeats 2000000
namespace DL
open PySem PySem.SeqAt PySem.Spec PyProof.Rows L2

/-! ### plain data: None, truth values, numbers, texts, lists and tuples of such -/
mutual
def D.py : D → PyData
  | .bl b => .bool b
  | .int i => .int i
  | .str s => .str s
  | .tup l => .tuple (D.pys l)
  | .kup l => .tuple (D.pys l)
  | .lst l => .list (D.pys l)
  | _ => .none
def D.pys : List D → List PyData
  | [] => []
  | d :: l => d.py :: D.pys l
end
mutual
def D.pl : D → Bool
  | .non => true
  | .bl _ => true
  | .int _ => true
  | .str _ => true
  | .tup l => D.pls l
  | .kup l => D.pls l
  | .lst l => D.pls l
  | _ => false
def D.pls : List D → Bool
  | [] => true
  | d :: l => d.pl && D.pls l
end
mutual
theorem py_plain : ∀ d : D, d.pl = true → d.py.plain = true
  | .non, _ => rfl
  | .bl _, _ => rfl
  | .int _, _ => rfl
  | .str _, _ => rfl
  | .tup l, h => pys_plain l h
  | .kup l, h => pys_plain l h
  | .lst l, h => pys_plain l h
  | .dic _, h => by cases h
  | .dit _, h => by cases h
  | .obj _ _, h => by cases h
  | .pen, h => by cases h
  | .clo _ _, h => by cases h
theorem pys_plain : ∀ l : List D, D.pls l = true → PyData.plainAll (D.pys l) = true
  | [], _ => rfl
  | d :: l, h => by
    have h' : d.pl = true ∧ D.pls l = true := by simpa [D.pls] using h
    simp [D.pys, PyData.plainAll, py_plain d h'.1, pys_plain l h'.2]
end
mutual
theorem Rep.dp {c : Cf} {A : Addr → Prop} {H : Hp} : ∀ {v : V} {d : D}, Rep c A H v d → d.pl = true → Dp c.K H v d.py
  | _, _, .non, _ => .non
  | _, _, .bl b, _ => .bl b
  | _, _, .int i, _ => .int i
  | _, _, .str x, _ => .str x
  | _, _, .tup h n m r, p => .tup (.inl (.inl h)) (RepL.dp r p)
  | _, _, .tupK h r, p => .tup (by
      rcases h with (h | ⟨_, h⟩) | h
      · cases h
      · cases h
      · exact .inr h) (RepL.dp r p)
  | _, _, .lst h n m r, p => .lst (SqL.of h) (RepL.dp r p)
  | _, _, .dic h n m e r, p => by cases p
  | _, _, .dit h n m e r, p => by cases p
  | _, _, .obj g h n m e r, p => by cases p
  | _, _, .pen, p => by cases p
theorem RepL.dp {c : Cf} {A : Addr → Prop} {H : Hp} : ∀ {vs : List V} {ds : List D}, RepL c A H vs ds → D.pls ds = true → DpAll c.K H vs (D.pys ds)
  | _, _, .nil, _ => .nil
  | _, _, .cons (d := d) (ds := ds) h r, p => by
    have p' : d.pl = true ∧ D.pls ds = true := by simpa [D.pls] using p
    exact .cons (Rep.dp h p'.1) (RepL.dp r p'.2)
end
theorem rO.dp {c : Cf} {A : Addr → Prop} {H H0 : Hp} {v : V} {d : D} (h : rO c A H0 H v d) (p : d.pl = true) : Dp c.K H v d.py := by
  rcases h with h | ⟨a, rfl, hA, h⟩
  · exact h.dp p
  · cases d <;> first | exact h.elim | cases p | skip
    obtain ⟨vs, h1, h2⟩ := h
    exact .lst (.inl (.inl h1)) (h2.dp p)
def eqOk (a b : D) : Bool := a.pl && b.pl && decide (min a.py.depth b.py.depth ≤ 64)
def eqD (a b : D) : Option D := if eqOk a b = true then some (.bl (PyData.eqv a.py b.py)) else none
def neD (a b : D) : Option D := if eqOk a b = true then some (.bl (!PyData.eqv a.py b.py)) else none
theorem eqOk_of {a b : D} (h : eqOk a b = true) : a.pl = true ∧ b.pl = true ∧ min a.py.depth b.py.depth ≤ 64 := by
  unfold eqOk at h
  simpa [and_assoc] using h
section
variable {X : Cx}
theorem od_eq (hu : X.A.units + 64 < cLine) : OpD X rE (compareOp .Eq) eqD := fun pins s σ H x y v u Q I rx ry ⟨B, A, dx, dy, d, fr, h1, h2, e, q⟩ => by
  unfold eqD at e
  split at e
  · rename_i hk
    cases e
    obtain ⟨p1, p2, p3⟩ := eqOk_of hk
    obtain ⟨as, r1⟩ := Dp.reads I _ _ _ (h1.dp p1) rx
    obtain ⟨bs, r2⟩ := Dp.reads I _ _ _ (h2.dp p2) ry
    exact eq_plain r1 r2 (py_plain _ p1) (py_plain _ p2) (by omega) ⟨.bl _, H, I, rfl, q _ H (Same.refl H) (.bl _)⟩
  · cases e
theorem od_ne (hu : X.A.units + 64 < cLine) : OpD X rE (compareOp .NotEq) neD := fun pins s σ H x y v u Q I rx ry ⟨B, A, dx, dy, d, fr, h1, h2, e, q⟩ => by
  unfold neD at e
  split at e
  · rename_i hk
    cases e
    obtain ⟨p1, p2, p3⟩ := eqOk_of hk
    obtain ⟨as, r1⟩ := Dp.reads I _ _ _ (h1.dp p1) rx
    obtain ⟨bs, r2⟩ := Dp.reads I _ _ _ (h2.dp p2) ry
    exact ne_plain r1 r2 (py_plain _ p1) (py_plain _ p2) (by omega) ⟨.bl _, H, I, rfl, q _ H (Same.refl H) (.bl _)⟩
  · cases e
/-! in, not in: a list, a tuple; a text in a text -/
def inOk (a : D) (l : List D) : Bool := a.pl && D.pls l && decide (min (PyData.depthAll (D.pys l)) a.py.depth ≤ 60)
def inB (a : D) (l : List D) : Bool := (D.pys l).any fun y => PyData.eqv y a.py
def strIn (x y : Str) : Bool := !(Builtin.Str.occurrences y x 0 y.length 1).isEmpty
def inD (a b : D) : Option D := match a, b with
  | a, .lst l => if inOk a l = true then some (.bl (inB a l)) else none
  | a, .tup l => if inOk a l = true then some (.bl (inB a l)) else none
  | a, .kup l => if inOk a l = true then some (.bl (inB a l)) else none
  | .str x, .str y => some (.bl (strIn x y))
  | _, _ => none
def notInD (a b : D) : Option D := match a, b with
  | a, .lst l => if inOk a l = true then some (.bl (!inB a l)) else none
  | a, .tup l => if inOk a l = true then some (.bl (!inB a l)) else none
  | a, .kup l => if inOk a l = true then some (.bl (!inB a l)) else none
  | .str x, .str y => some (.bl (!strIn x y))
  | _, _ => none
theorem inOk_of {a : D} {l : List D} (h : inOk a l = true) : a.pl = true ∧ D.pls l = true ∧ min (PyData.depthAll (D.pys l)) a.py.depth ≤ 60 := by
  unfold inOk at h
  simpa [and_assoc] using h
theorem od_in (hu : X.A.units + 64 < cLine) : OpD X rE (compareOp .In) inD := fun pins s σ H x y v u Q I rx ry ⟨B, A, dx, dy, d, fr, h1, h2, e, q⟩ => by
  unfold inD at e
  split at e
  · split at e
    · rename_i hk
      cases e
      obtain ⟨p1, p2, p3⟩ := inOk_of hk
      obtain ⟨as, r1⟩ := Dp.reads I _ _ _ (h1.dp p1) rx
      obtain ⟨bs, r2⟩ := Dp.reads I _ _ _ (h2.dp (d := .lst _) p2) ry
      exact in_list_data (xs := D.pys _) r2 r1 (pys_plain _ p2) (py_plain _ p1) (by omega) ⟨.bl _, H, I, rfl, q _ H (Same.refl H) (.bl _)⟩
    · cases e
  · split at e
    · rename_i hk
      cases e
      obtain ⟨p1, p2, p3⟩ := inOk_of hk
      obtain ⟨as, r1⟩ := Dp.reads I _ _ _ (h1.dp p1) rx
      obtain ⟨bs, r2⟩ := Dp.reads I _ _ _ (h2.dp (d := .tup _) p2) ry
      exact in_tuple_data (xs := D.pys _) r2 r1 (pys_plain _ p2) (py_plain _ p1) (by omega) ⟨.bl _, H, I, rfl, q _ H (Same.refl H) (.bl _)⟩
    · cases e
  · split at e
    · rename_i hk
      cases e
      obtain ⟨p1, p2, p3⟩ := inOk_of hk
      obtain ⟨as, r1⟩ := Dp.reads I _ _ _ (h1.dp p1) rx
      obtain ⟨bs, r2⟩ := Dp.reads I _ _ _ (h2.dp (d := .kup _) p2) ry
      exact in_tuple_data (xs := D.pys _) r2 r1 (pys_plain _ p2) (py_plain _ p1) (by omega) ⟨.bl _, H, I, rfl, q _ H (Same.refl H) (.bl _)⟩
    · cases e
  · cases e
    exact op_in_str pins s σ H x y v u Q I rx ry ⟨_, _, h1.str, h2.str, q _ H (Same.refl H) (.bl _)⟩
  · cases e
theorem od_notIn (hu : X.A.units + 64 < cLine) : OpD X rE (compareOp .NotIn) notInD := fun pins s σ H x y v u Q I rx ry ⟨B, A, dx, dy, d, fr, h1, h2, e, q⟩ => by
  unfold notInD at e
  split at e
  · split at e
    · rename_i hk
      cases e
      obtain ⟨p1, p2, p3⟩ := inOk_of hk
      obtain ⟨as, r1⟩ := Dp.reads I _ _ _ (h1.dp p1) rx
      obtain ⟨bs, r2⟩ := Dp.reads I _ _ _ (h2.dp (d := .lst _) p2) ry
      exact notIn_list_data (xs := D.pys _) r2 r1 (pys_plain _ p2) (py_plain _ p1) (by omega) ⟨.bl _, H, I, rfl, q _ H (Same.refl H) (.bl _)⟩
    · cases e
  · split at e
    · rename_i hk
      cases e
      obtain ⟨p1, p2, p3⟩ := inOk_of hk
      obtain ⟨as, r1⟩ := Dp.reads I _ _ _ (h1.dp p1) rx
      obtain ⟨bs, r2⟩ := Dp.reads I _ _ _ (h2.dp (d := .tup _) p2) ry
      exact notIn_tuple_data (xs := D.pys _) r2 r1 (pys_plain _ p2) (py_plain _ p1) (by omega) ⟨.bl _, H, I, rfl, q _ H (Same.refl H) (.bl _)⟩
    · cases e
  · split at e
    · rename_i hk
      cases e
      obtain ⟨p1, p2, p3⟩ := inOk_of hk
      obtain ⟨as, r1⟩ := Dp.reads I _ _ _ (h1.dp p1) rx
      obtain ⟨bs, r2⟩ := Dp.reads I _ _ _ (h2.dp (d := .kup _) p2) ry
      exact notIn_tuple_data (xs := D.pys _) r2 r1 (pys_plain _ p2) (py_plain _ p1) (by omega) ⟨.bl _, H, I, rfl, q _ H (Same.refl H) (.bl _)⟩
    · cases e
  · cases e
    exact op_notin_str pins s σ H x y v u Q I rx ry ⟨_, _, h1.str, h2.str, q _ H (Same.refl H) (.bl _)⟩
  · cases e
/-! is None -/
def D.isN : D → Bool
  | .non => true
  | _ => false
def isNoneD (a b : D) : Option D := match b with
  | .non => some (.bl a.isN)
  | _ => none
def notNoneD (a b : D) : Option D := match b with
  | .non => some (.bl !a.isN)
  | _ => none
theorem rO.none_iff {c : Cf} {A : Addr → Prop} {H H0 : Hp} {v : V} {d : D} (h : rO c A H0 H v d) : decide (v = .non) = d.isN := by
  rcases h with h | ⟨a, rfl, hA, h⟩
  · cases h <;> rfl
  · cases d <;> first | exact h.elim | rfl
theorem od_isN : OpD X rE (compareOp .Is) isNoneD := fun pins s σ H x y v u Q I rx ry ⟨B, A, dx, dy, d, fr, h1, h2, e, q⟩ => by
  unfold isNoneD at e
  split at e
  · cases e
    exact op_isN pins s σ H x y v u Q I rx ry ⟨h2.non, by rw [h1.none_iff]; exact q _ H (Same.refl H) (.bl _)⟩
  · cases e
theorem od_notN : OpD X rE (compareOp .IsNot) notNoneD := fun pins s σ H x y v u Q I rx ry ⟨B, A, dx, dy, d, fr, h1, h2, e, q⟩ => by
  unfold notNoneD at e
  split at e
  · cases e
    exact op_notN pins s σ H x y v u Q I rx ry ⟨h2.non, by rw [h1.none_iff]; exact q _ H (Same.refl H) (.bl _)⟩
  · cases e
end

/-! ### built-ins -/
def rcD (K : PySem.W.Frag) (mg : Str → Option Value) (R : RK) (g : List D → Option D) : List V → Hp → VK → Prop := fun vs H Q => ∃ (B : Bs) (A : Addr → Prop) (ds : List D) (d : D), Fre (B.cf K mg) A H ∧ RL rO (B.cf K mg) A H vs ds ∧ g ds = some d ∧ ∀ v H', Same H H' → R (B.cf K mg) A H H' v d → Q v H'
abbrev CallD (X : Cx) (R : RK) (f : Value) (g : List D → Option D) : Prop := CallR X f (rcD X.K X.mg R g)
def dB (g : List D → Option D) (fa : IM) : EM := fun r w => (fa r w).toR fun l w' => Res.of (g l) w'
section
variable {X : Cx} {W : WX} {R : RK} {e : Expr} {es : List Expr} {fa : IM} {pos p : Pos} {x : Str} {id T : String} {g : List D → Option D}
theorem cb_of [RKm R] {σ : L2.St} {H : Hp} {Q : VK} (h : tV X.K X.mg R W (dB g fa) σ H Q) : tCB (rcD X.K X.mg R g) (tVA X.K X.mg rO W fa) σ H Q := by
  obtain ⟨B, A, r, w, hs, hp, q⟩ := h
  refine ⟨B, A, r, w, hs, hp, ?_⟩
  have q : Post (B.cf X.K X.mg) A σ H R W Q ((fa r w).toR fun l w' => Res.of (g l) w') := q
  cases z : fa r w with
  | bad => rw [z] at q; exact q
  | exc m fs w1 => rw [z] at q; exact q
  | ok ds w1 =>
    rw [z] at q
    unfold ResI.toR Res.of at q
    simp only at q
    split at q
    · rename_i d e
      exact fun vs H1 k1 p1 r1 => ⟨B, A, ds, d, (hs.keep k1).fre, r1, e, fun v' H' sm rr => q v' H' (k1.trans (.of sm)) (p1.keep sm) (RKm.back k1 rr)⟩
    · exact q.elim
theorem ve_callB [RKm R] (hc : CallD X R (.builtin id) g) (hm : X.mg x = none) (hv : bootBuiltins x = some (.builtin id)) (ha : VA X rO W (e :: es) fa) (hg : Gl X x := by rfl) (hn : x ≠ "__name__" := by decide) (hd : (x == ("__debug__" : Str)) = false := by decide)
    (he : starEach (e :: es) X.env = (false, eval e X.env) :: starEach es X.env := by rfl) (hpl : (backTo pos (starEach es X.env)).any (·.1) = false := by rfl) : VE X R W (.Call (.Name x p) (e :: es) [] pos) (dB g fa) :=
  weak (pe_callB hc hg hm hv ha hn hd he hpl) fun σ H Q h => cb_of h
theorem ve_callTy [RKm R] (hc : CallD X R (.type T) g) (hm : X.mg x = none) (hv : bootBuiltins x = some (.type T)) (ha : VA X rO W (e :: es) fa) (hg : Gl X x := by rfl) (hn : x ≠ "__name__" := by decide) (hd : (x == ("__debug__" : Str)) = false := by decide)
    (he : starEach (e :: es) X.env = (false, eval e X.env) :: starEach es X.env := by rfl) (hpl : (backTo pos (starEach es X.env)).any (·.1) = false := by rfl) : VE X R W (.Call (.Name x p) (e :: es) [] pos) (dB g fa) :=
  weak (pe_callTy hc hg hm hv ha hn hd he hpl) fun σ H Q h => cb_of h
end
end DL

set_option Elab.async false
set_option linter.all false
set_option maxRecDepth 100000
set_option maxHeartbeats 2000000
namespace DL
open PySem PySem.SeqAt PySem.Spec PyProof.Rows L2

/-! ### built-ins over data -/
/-- a list's or a tuple's items -/
def seqD : D → Option (List D) := itemsD
theorem rO.seq {c : Cf} {A : Addr → Prop} {H H0 : Hp} {v : V} {d : D} {l : List D} (h : rO c A H0 H v d) (e : itemsD d = some l) : ∃ a vs, v = .ref a ∧ (SqL c.K H a vs ∨ SqT c.K H a vs) ∧ RepL c A H vs l := by
  cases d <;> first | cases e | skip
  · obtain ⟨a, vs, e, h1, h2⟩ := h.tupq (.inl rfl); exact ⟨a, vs, e, .inr h1, h2⟩
  · obtain ⟨a, vs, e, h1, h2⟩ := h.tupq (.inr rfl); exact ⟨a, vs, e, .inr h1, h2⟩
  · obtain ⟨a, vs, e, h1, h2⟩ := h.lst; exact ⟨a, vs, e, .inl (SqL.of h1), h2⟩
def lenD : List D → Option D
  | [.lst l] => some (.int l.length)
  | [.tup l] => some (.int l.length)
  | [.kup l] => some (.int l.length)
  | [.str s] => if s.length ≤ sizeLine then some (.int s.length) else none
  | [.dic l] => some (.int l.length)
  | _ => none
def absD : List D → Option D
  | [.int i] => some (.int (if i < 0 then -i else i))
  | _ => none
def intD : List D → Option D
  | [.int i] => some (.int i)
  | [.bl k] => some (.int (if k then 1 else 0))
  | _ => none
def max2D : List D → Option D
  | [.int i, .int j] => some (.int (if j > i then j else i))
  | _ => none
def min2D : List D → Option D
  | [.int i, .int j] => some (.int (if j < i then j else i))
  | _ => none
def tupleD : List D → Option D
  | [.lst l] => some (.tup l)
  | [.tup l] => some (.tup l)
  | [.kup l] => some (.kup l)
  | _ => none
def listD : List D → Option D
  | [.lst l] => some (.lst l)
  | [.tup l] => some (.lst l)
  | [.kup l] => some (.lst l)
  | _ => none
def D.int? : D → Option Int
  | .int i => some i
  | _ => none
def D.bl? : D → Option Bool
  | .bl i => some i
  | _ => none
/-- all of one kind -/
def allOf {α : Type} (f : D → Option α) : List D → Option (List α)
  | [] => some []
  | d :: l => match f d, allOf f l with
    | some a, some r => some (a :: r)
    | _, _ => none
def sumD : List D → Option D
  | [.lst l] => (allOf D.int? l).map fun ns => .int ns.sum
  | _ => none
def anyD : List D → Option D
  | [.lst l] => (allOf D.bl? l).map fun bs => .bl (bs.any id)
  | _ => none
def allD : List D → Option D
  | [.lst l] => (allOf D.bl? l).map fun bs => .bl (bs.all id)
  | _ => none
theorem ints_of {c : Cf} {A : Addr → Prop} {H : Hp} : ∀ {vs : List V} {ds : List D} {ns : List Int}, RepL c A H vs ds → allOf D.int? ds = some ns → vs = ns.map V.int
  | _, _, ns, .nil, e => by cases e; rfl
  | _, _, ns, .cons (d := d) (ds := ds) h r, e => by
    unfold allOf at e
    cases e1 : D.int? d with
    | none => rw [e1] at e; cases e
    | some i =>
      cases e2 : allOf D.int? ds with
      | none => rw [e1, e2] at e; cases e
      | some ns' =>
        rw [e1, e2] at e; cases e
        have hd : d = .int i := by cases d <;> first | (cases e1; done) | (cases e1; rfl)
        subst hd
        cases h
        rw [List.map_cons, ints_of r e2]
theorem bls_of {c : Cf} {A : Addr → Prop} {H : Hp} : ∀ {vs : List V} {ds : List D} {ns : List Bool}, RepL c A H vs ds → allOf D.bl? ds = some ns → vs = ns.map V.bl
  | _, _, ns, .nil, e => by cases e; rfl
  | _, _, ns, .cons (d := d) (ds := ds) h r, e => by
    unfold allOf at e
    cases e1 : D.bl? d with
    | none => rw [e1] at e; cases e
    | some i =>
      cases e2 : allOf D.bl? ds with
      | none => rw [e1, e2] at e; cases e
      | some ns' =>
        rw [e1, e2] at e; cases e
        have hd : d = .bl i := by cases d <;> first | (cases e1; done) | (cases e1; rfl)
        subst hd
        cases h
        rw [List.map_cons, bls_of r e2]
section
variable {X : Cx} {W : WX} {R : RK} {e : Expr} {es : List Expr} {fa : IM} {pos p : Pos} {x : Str}
theorem cd_len : CallD X rE (.builtin "len") lenD := fun pins s σ H xs us Q I r ⟨B, A, ds, d, fr, rl, e, q⟩ => by
  unfold lenD at e
  split at e
  · cases e
    cases rl with | cons h t => cases t with | nil =>
    obtain ⟨a, vs, rfl, h1, h2⟩ := h.lst
    exact call_len_seq pins s σ H _ us Q I r ⟨a, vs, rfl, .inl (SqL.of h1), by rw [h2.len]; exact q _ H (Same.refl H) (.int _)⟩
  · cases e
    cases rl with | cons h t => cases t with | nil =>
    obtain ⟨a, vs, rfl, h1, h2⟩ := h.tupq (.inl rfl)
    exact call_len_seq pins s σ H _ us Q I r ⟨a, vs, rfl, .inr h1, by rw [h2.len]; exact q _ H (Same.refl H) (.int _)⟩
  · cases e
    cases rl with | cons h t => cases t with | nil =>
    obtain ⟨a, vs, rfl, h1, h2⟩ := h.tupq (.inr rfl)
    exact call_len_seq pins s σ H _ us Q I r ⟨a, vs, rfl, .inr h1, by rw [h2.len]; exact q _ H (Same.refl H) (.int _)⟩
  · split at e
    · cases e
      cases rl with | cons h t => cases t with | nil =>
      have := h.str; subst this
      exact call_len_str pins s σ H _ us Q I r ⟨_, rfl, by assumption, q _ H (Same.refl H) (.int _)⟩
    · cases e
  · cases e
    cases rl with | cons h t => cases t with | nil =>
    have key : ∀ {a : Addr} {kvs : List (Key × V)} {n : Nat}, Rd H a (.dK kvs) → kvs.length = n → Vals [V.ref a] us → Q (.int n) H → wpAny (model X.prog X.w) X.A (call (.builtin "len") us) (EP X pins σ Q) X.xe s := fun {a kvs n} h1 h2 r q => by
      obtain ⟨u0, rfl, r0⟩ := Vals.one r
      obtain rfl : u0 = Value.ref a := r0
      exact d_len I h1 fun t s' I' => ⟨.int kvs.length, H, I', ⟨_, rfl⟩, by rw [h2]; exact q⟩
    rcases h with h | ⟨a, rfl, hA, kvs, h1, h2, h3⟩
    · cases h with
      | dic h n m e r' => exact key h (by have := congrArg List.length e; simpa using this) r (q _ H (Same.refl H) (.int _))
    · exact key (.inl h1) (by have := congrArg List.length h2; simpa using this) r (q _ H (Same.refl H) (.int _))
  · cases e
theorem cd_abs : CallD X rE (.builtin "abs") absD := fun pins s σ H xs us Q I r ⟨B, A, ds, d, fr, rl, e, q⟩ => by
  unfold absD at e
  split at e
  · cases e
    cases rl with | cons h t => cases t with | nil =>
    have := h.int; subst this
    exact call_abs pins s σ H _ us Q I r ⟨_, rfl, q _ H (Same.refl H) (.int _)⟩
  · cases e
theorem cd_int : CallD X rE (.type "int") intD := fun pins s σ H xs us Q I r ⟨B, A, ds, d, fr, rl, e, q⟩ => by
  unfold intD at e
  split at e
  · cases e
    cases rl with | cons h t => cases t with | nil =>
    have := h.int; subst this
    exact call_int1 pins s σ H _ us Q I r (.inl ⟨_, rfl, q _ H (Same.refl H) (.int _)⟩)
  · cases e
    cases rl with | cons h t => cases t with | nil =>
    have := h.bl; subst this
    exact call_int1 pins s σ H _ us Q I r (.inr ⟨_, rfl, q _ H (Same.refl H) (.int _)⟩)
  · cases e
theorem cd_max2 (hc : X.calm = true) : CallD X rE (.builtin "max") max2D := fun pins s σ H xs us Q I r ⟨B, A, ds, d, fr, rl, e, q⟩ => by
  unfold max2D at e
  split at e
  · cases e
    cases rl with | cons h t => cases t with | cons h2 t => cases t with | nil =>
    have := h.int; subst this
    have := h2.int; subst this
    exact call_max2 hc pins s σ H _ us Q I r ⟨_, _, rfl, q _ H (Same.refl H) (.int _)⟩
  · cases e
theorem cd_min2 (hc : X.calm = true) : CallD X rE (.builtin "min") min2D := fun pins s σ H xs us Q I r ⟨B, A, ds, d, fr, rl, e, q⟩ => by
  unfold min2D at e
  split at e
  · cases e
    cases rl with | cons h t => cases t with | cons h2 t => cases t with | nil =>
    have := h.int; subst this
    have := h2.int; subst this
    exact call_min2 hc pins s σ H _ us Q I r ⟨_, _, rfl, q _ H (Same.refl H) (.int _)⟩
  · cases e
/-- a new tuple, a new list -/
theorem new_tup {B : Bs} {A : Addr → Prop} {K : PySem.W.Frag} {mg : Str → Option Value} {H : Hp} {vs : List V} {ds : List D} {t : Addr} (fr : Fre (B.cf K mg) A H) (h : RepL (B.cf K mg) A H vs ds) (n : H t = none) : Rep (B.cf K mg) A (upd H t (.tup vs)) (.ref t) (.tup ds) :=
  .tup upd_same (fr.n t n).1 (fr.n t n).2 (h.keepA (Kp.a (.of (same_new n))))
theorem new_lst {B : Bs} {A : Addr → Prop} {K : PySem.W.Frag} {mg : Str → Option Value} {H : Hp} {vs : List V} {ds : List D} {t : Addr} (h : RepL (B.cf K mg) A H vs ds) (n : H t = none) : rF (B.cf K mg) A H (upd H t (.lst vs)) (.ref t) (.lst ds) :=
  ⟨t, rfl, n, vs, upd_same, (h.to fun b z => z.elim .inl fun e => .inr (by rw [e]; exact n)).keepA (Kp.a (.of (same_new n)))⟩
theorem cd_tuple : CallD X rE (.type "tuple") tupleD := fun pins s σ H xs us Q I r ⟨B, A, ds, d, fr, rl, e, q⟩ => by
  unfold tupleD at e
  split at e
  · cases e
    cases rl with | cons h t => cases t with | nil =>
    obtain ⟨a, vs, rfl, h1, h2⟩ := h.lst
    exact call_tuple_of pins s σ H _ us Q I r ⟨a, vs, rfl, .inl ⟨SqL.of h1, fun l hl => q _ _ (same_new hl) (new_tup fr h2 hl)⟩⟩
  · cases e
    cases rl with | cons h t => cases t with | nil =>
    obtain ⟨a, vs, e1, h1, h2⟩ := h.tup
    have e1' := e1
    subst e1'
    rcases h with h | ⟨_, _, _, h⟩
    · exact call_tuple_of pins s σ H _ us Q I r ⟨a, vs, rfl, .inr ⟨SqT.of h1, q _ H (Same.refl H) h⟩⟩
    · exact h.elim
  · cases e
    cases rl with | cons h t => cases t with | nil =>
    obtain ⟨a, vs, e1, h1, h2⟩ := h.kup
    have e1' := e1
    subst e1'
    rcases h with h | ⟨_, _, _, h⟩
    · exact call_tuple_of pins s σ H _ us Q I r ⟨a, vs, rfl, .inr ⟨h1 H, q _ H (Same.refl H) h⟩⟩
    · exact h.elim
  · cases e
theorem cd_list : CallD X rF (.type "list") listD := fun pins s σ H xs us Q I r ⟨B, A, ds, d, fr, rl, e, q⟩ => by
  unfold listD at e
  split at e
  · cases e
    cases rl with | cons h t => cases t with | nil =>
    obtain ⟨a, vs, rfl, h1, h2⟩ := h.lst
    exact call_list_of pins s σ H _ us Q I r ⟨a, vs, rfl, .inl (SqL.of h1), fun l hl => q _ _ (same_new hl) (new_lst h2 hl)⟩
  · cases e
    cases rl with | cons h t => cases t with | nil =>
    obtain ⟨a, vs, rfl, h1, h2⟩ := h.tupq (.inl rfl)
    exact call_list_of pins s σ H _ us Q I r ⟨a, vs, rfl, .inr h1, fun l hl => q _ _ (same_new hl) (new_lst h2 hl)⟩
  · cases e
    cases rl with | cons h t => cases t with | nil =>
    obtain ⟨a, vs, rfl, h1, h2⟩ := h.tupq (.inr rfl)
    exact call_list_of pins s σ H _ us Q I r ⟨a, vs, rfl, .inr h1, fun l hl => q _ _ (same_new hl) (new_lst h2 hl)⟩
  · cases e
theorem cd_sum (hc : X.calm = true) : CallD X rE (.builtin "sum") sumD := fun pins s σ H xs us Q I r ⟨B, A, ds, d, fr, rl, e, q⟩ => by
  unfold sumD at e
  split at e
  · rename_i l
    cases z : allOf D.int? l with
    | none => rw [z] at e; cases e
    | some ns =>
      rw [z] at e; cases e
      cases rl with | cons h t => cases t with | nil =>
      obtain ⟨a, vs, rfl, h1, h2⟩ := h.lst
      have := ints_of h2 z; subst this
      exact cr_sum hc pins s σ H _ us Q I r ⟨a, ns, rfl, SqL.of h1, q _ H (Same.refl H) (.int _)⟩
  · cases e
theorem cd_any (hc : X.calm = true) : CallD X rE (.builtin "any") anyD := fun pins s σ H xs us Q I r ⟨B, A, ds, d, fr, rl, e, q⟩ => by
  unfold anyD at e
  split at e
  · rename_i l
    cases z : allOf D.bl? l with
    | none => rw [z] at e; cases e
    | some ns =>
      rw [z] at e; cases e
      cases rl with | cons h t => cases t with | nil =>
      obtain ⟨a, vs, rfl, h1, h2⟩ := h.lst
      have := bls_of h2 z; subst this
      exact cr_any hc pins s σ H _ us Q I r ⟨a, ns, rfl, SqL.of h1, q _ H (Same.refl H) (.bl _)⟩
  · cases e
theorem cd_all (hc : X.calm = true) : CallD X rE (.builtin "all") allD := fun pins s σ H xs us Q I r ⟨B, A, ds, d, fr, rl, e, q⟩ => by
  unfold allD at e
  split at e
  · rename_i l
    cases z : allOf D.bl? l with
    | none => rw [z] at e; cases e
    | some ns =>
      rw [z] at e; cases e
      cases rl with | cons h t => cases t with | nil =>
      obtain ⟨a, vs, rfl, h1, h2⟩ := h.lst
      have := bls_of h2 z; subst this
      exact cr_all hc pins s σ H _ us Q I r ⟨a, ns, rfl, SqL.of h1, q _ H (Same.refl H) (.bl _)⟩
  · cases e

/-! ### isinstance -/
/-- the built-in type of data -/
def D.ty? : D → Option String
  | .non => some "NoneType" | .bl _ => some "bool" | .int _ => some "int" | .str _ => some "str"
  | .tup _ => some "tuple" | .kup _ => some "tuple" | .lst _ => some "list" | .dic _ => some "dict" | .dit _ => none | .pen => none | .obj _ _ => none | .clo _ _ => none
theorem rO.ty {c : Cf} {A : Addr → Prop} {H H0 : Hp} {v : V} {d : D} {t : String} (h : rO c A H0 H v d) (e : d.ty? = some t) : TyX c.K H v (.type t) := by
  rcases h with h | ⟨a, rfl, hA, h⟩
  · cases h <;> first | cases e | skip
    · exact .base .non
    · exact .base (.bl _)
    · exact .base (.int _)
    · exact .base (.str _)
    · rename_i h _ _ _; exact .base (.tup h)
    · rename_i h _
      rcases h with (h | ⟨_, h⟩) | ⟨o, its, n, h1, h2, _⟩
      · cases h
      · cases h
      · exact .kTuple h1 h2
    · rename_i h _ _ _; exact .base (.lst h)
    · rename_i h _ _ _ _
      rcases h with h | ⟨o, h⟩
      · exact .base (.dK h)
      · exact .fDict h
  · cases d <;> first | exact h.elim | cases e | skip
    · obtain ⟨vs, h1, h2⟩ := h; exact .base (.lst h1)
    · obtain ⟨vs, h1, h2⟩ := h; exact .base (.dK h1)
def isiB (ts : List String) (t : String) : Option Bool := match ts with
  | [] => some false
  | u :: r => match kitB t u with
    | some true => some true
    | some false => isiB r t
    | none => none
def isiD (ts : List String) (fe : EM) : EM := fun r w => (fe r w).bind fun d w' => Res.of ((d.ty?.bind (isiB ts)).map .bl) w'
theorem kitAny_of {K : PySem.W.Frag} {t : String} : ∀ {ts : List String} {b : Bool}, isiB ts t = some b → PySem.W.kitAny K (.type t) (ts.map .type) = some b
  | [], b, h => h
  | u :: r, b, h => by
    unfold isiB at h
    cases z : kitB t u with
    | none => rw [z] at h; cases h
    | some k =>
      rw [z] at h
      cases k with
      | true => cases h; exact kitAny_cons (kit_ty z) (fun e => by cases e) (fun _ => rfl)
      | false => exact kitAny_cons (kit_ty z) (fun _ => kitAny_of h) (fun e => by cases e)
/-- isinstance(e, T) -/
theorem ve_isi {T : Str} {t : String} {fe : EM} {p2 : Pos} (hm : X.mg "isinstance" = none) (hT : X.mg T = none) (hv : bootBuiltins T = some (.type t)) (he : VE X rO W e fe) (hg : Gl X "isinstance" := by rfl) (hgT : Gl X T := by rfl) (hnT : T ≠ "__name__" := by decide) (hdT : (T == ("__debug__" : Str)) = false := by decide)
    (hs1 : starEach [e, .Name T p2] X.env = (false, eval e X.env) :: starEach [.Name T p2] X.env := by rfl) (hs2 : starEach [.Name T p2] X.env = (false, eval (.Name T p2) X.env) :: starEach [] X.env := by rfl) (hpl : (backTo pos (starEach [.Name T p2] X.env)).any (·.1) = false := by rfl) :
    VE X rE W (.Call (.Name "isinstance" p) [e, .Name T p2] [] pos) (isiD [t] fe) :=
  weak (pe_callB call_isi hg hm boot_isinstance (pa_cons he (pa_cons (pe_bltn hgT hT hv (v := .ty t) rfl hnT hdT) pa_nil hs2) hs1) (by decide) (by decide) hs1 hpl) fun σ H Q ⟨B, A, r, w, hs, hp, q⟩ => ⟨B, A, r, w, hs, hp, q.bind fun d w1 v H1 k1 p1 r1 q1 => by
    unfold Res.of at q1
    cases z : d.ty? with
    | none => rw [z] at q1; exact q1.elim
    | some td =>
      rw [z] at q1
      have q1 : Post _ _ _ _ _ _ _ (match (isiB [t] td).map D.bl with | some d => Res.ok d w1 | none => .bad) := q1
      cases z2 : isiB [t] td with
      | none => rw [z2] at q1; exact q1.elim
      | some b =>
        rw [z2] at q1
        refine ⟨v, .ty t, _, _, b, rfl, .ty t, r1.ty z, ?_, q1 _ H1 .refl p1 (.bl b)⟩
        unfold isiB at z2
        cases z3 : kitB td t with
        | none => rw [z3] at z2; cases z2
        | some k =>
          rw [z3] at z2
          refine kit_ty (z3.trans ?_)
          cases k with
          | true => exact z2
          | false => exact z2⟩
/-- isinstance(e, (T, U, ..)) -/
theorem ve_isiT {T U : Str} {t u : String} {fe : EM} {p2 p3 p4 : Pos} {k : Nat} (hm : X.mg "isinstance" = none) (hT : X.mg T = none) (hv : bootBuiltins T = some (.type t)) (hU : X.mg U = none) (hvU : bootBuiltins U = some (.type u)) (he : VE X rO W e fe) (hg : Gl X "isinstance" := by rfl) (hgT : Gl X T := by rfl) (hnT : T ≠ "__name__" := by decide) (hdT : (T == ("__debug__" : Str)) = false := by decide) (hgU : Gl X U := by rfl) (hnU : U ≠ "__name__" := by decide) (hdU : (U == ("__debug__" : Str)) = false := by decide)
    (hs1 : starEach [e, .Tuple [.Name T p2, .Name U p3] k p4] X.env = (false, eval e X.env) :: starEach [.Tuple [.Name T p2, .Name U p3] k p4] X.env := by rfl) (hs2 : starEach [.Tuple [.Name T p2, .Name U p3] k p4] X.env = (false, eval (.Tuple [.Name T p2, .Name U p3] k p4) X.env) :: starEach [] X.env := by rfl) (hpl : (backTo pos (starEach [.Tuple [.Name T p2, .Name U p3] k p4] X.env)).any (·.1) = false := by rfl) :
    VE X rE W (.Call (.Name "isinstance" p) [e, .Tuple [.Name T p2, .Name U p3] k p4] [] pos) (isiD [t, u] fe) :=
  weak (pe_callB call_isiT hg hm boot_isinstance (pa_cons he (pa_cons (pe_tup (pa_cons (pe_bltn hgT hT hv (v := .ty t) rfl hnT hdT) (pa_cons (pe_bltn hgU hU hvU (v := .ty u) rfl hnU hdU) pa_nil))) pa_nil hs2) hs1) (by decide) (by decide) hs1 hpl) fun σ H Q ⟨B, A, r, w, hs, hp, q⟩ => ⟨B, A, r, w, hs, hp, q.bind fun d w1 v H1 k1 p1 r1 q1 => by
    unfold Res.of at q1
    cases z : d.ty? with
    | none => rw [z] at q1; exact q1.elim
    | some td =>
      rw [z] at q1
      have q1 : Post _ _ _ _ _ _ _ (match (isiB [t, u] td).map D.bl with | some d => Res.ok d w1 | none => .bad) := q1
      cases z2 : isiB [t, u] td with
      | none => rw [z2] at q1; exact q1.elim
      | some b =>
        rw [z2] at q1
        refine ⟨by show 2 ≤ sizeLine; rw [sizeLine_eq]; decide, fun tp ht => ?_⟩
        exact ⟨v, tp, [.ty t, .ty u], _, [.type t, .type u], b, rfl, upd_same, .cons (.ty t) (.cons (.ty u) .nil), (rO.keep (H0 := H1) (H0' := H1) (hs.np) (.of (same_new ht)) r1).ty z, kitAny_of z2, q1 _ _ (.of (same_new ht)) (p1.keep (same_new ht)) (.bl b)⟩⟩

/-! ### subscripts, slices -/
def ixD (a b : D) : Option D := match a, b with
  | .lst l, .int i => atI l i
  | .tup l, .int i => atI l i
  | .kup l, .int i => atI l i
  | .str s, .int i => if s.length ≤ sizeLine then (atI s.cps.toList i).map fun c => .str ⟨#[c]⟩ else none
  | _, _ => none
theorem RepL.atI {c : Cf} {A : Addr → Prop} {H : Hp} {vs : List V} {ds : List D} {i : Int} {d : D} (r : RepL c A H vs ds) (e : L2.atI ds i = some d) : ∃ v, L2.atI vs i = some v ∧ Rep c A H v d := by
  unfold L2.atI at e ⊢
  rw [r.len]
  cases z : ixN ds.length i with
  | none => rw [z] at e; cases e
  | some j =>
    rw [z] at e
    have e : ds[j]? = some d := e
    have hj : j < vs.length := by rw [r.len]; exact (List.getElem?_eq_some_iff.mp e).1
    obtain ⟨d', h1, h2⟩ := r.at (List.getElem?_eq_getElem hj)
    rw [e] at h1; cases h1
    exact ⟨vs[j], by show vs[j]? = _; exact List.getElem?_eq_getElem hj, h2⟩
theorem ve_ix {a b : Expr} {fa fb : EM} (ha : VE X rO W a fa) (hb : VE X rO W b fb) (hs : PlainIx b := by exact fun _ _ => rfl) : VE X rE W (.Subscript a b pos) (dBin ixD fa fb) := weak (pe_ix (IxR.or (IxR.or ix_list ix_tup) ix_str) ha hb hs) fun σ H Q ⟨B, A, r, w, hs, hp, q⟩ =>
  ⟨B, A, r, w, hs, hp, q.bind fun x w1 v H1 k1 p1 r1 q1 => ⟨B, A, r, w1, hs.keep k1, p1, q1.bind fun y w2 v2 H2 k2 p2 r2 q2 => by
    have r1' : rO (B.cf X.K X.mg) A H2 H2 v x := rO.keep hs.np k2 r1
    unfold Res.of ixD at q2
    split at q2
    · rename_i d e
      split at e
      · obtain ⟨a, vs, rfl, h1, h2⟩ := r1'.lst
        obtain ⟨u, h3, h4⟩ := h2.atI e
        exact .inl (.inl ⟨a, vs, _, u, rfl, r2.int, SqL.of h1, h3, q2 _ H2 .refl p2 h4⟩)
      · obtain ⟨a, vs, rfl, h1, h2⟩ := r1'.tupq (.inl rfl)
        obtain ⟨u, h3, h4⟩ := h2.atI e
        exact .inl (.inr ⟨a, vs, _, u, rfl, r2.int, h1, h3, q2 _ H2 .refl p2 h4⟩)
      · obtain ⟨a, vs, rfl, h1, h2⟩ := r1'.tupq (.inr rfl)
        obtain ⟨u, h3, h4⟩ := h2.atI e
        exact .inl (.inr ⟨a, vs, _, u, rfl, r2.int, h1, h3, q2 _ H2 .refl p2 h4⟩)
      · split at e
        · rename_i hl
          simp only [Option.map_eq_some_iff] at e
          obtain ⟨c, z, rfl⟩ := e
          exact .inr ⟨_, _, c, r1'.str, r2.int, hl, z, q2 _ H2 .refl p2 (.str _)⟩
        · cases e
      · cases e
    · exact q2.elim⟩⟩
/-- a part of a slice: None, or an int -/
def PostO (c : Cf) (A : Addr → Prop) (σ : L2.St) (H : Hp) (W : WX) (Q : Option Int → Hp → Prop) : Res → Prop
  | .ok (.int i) w => ∀ H', Kp c.p H H' → PenAt c.p c.lc A H' w → Q (some i) H'
  | .ok .non w => ∀ H', Kp c.p H H' → PenAt c.p c.lc A H' w → Q none H'
  | .ok _ _ => False
  | .exc n fs w => ∀ cls dd H', Kp c.p H H' → PenAt c.p c.lc A H' w → ErrR c A n fs cls dd H' → W cls dd σ H'
  | .bad => False
def tVO (K : PySem.W.Frag) (mg : Str → Option Value) (W : WX) (f : EM) : TO := fun σ H Q =>
  ∃ (B : Bs) (A : Addr → Prop) (r : Env) (w : Wd), StOk K mg B A σ H r ∧ PenAt B.p B.lc A H w ∧ PostO (B.cf K mg) A σ H W Q (f r w)
abbrev VO (X : Cx) (W : WX) (e : Option Expr) (f : EM) : Prop := PO X e (tVO X.K X.mg W f)
theorem weakO {e : Option Expr} {t t' : TO} (h : PO X e t) (k : ∀ σ H Q, t' σ H Q → t σ H Q) : PO X e t' := ⟨fun pins s σ H Q I q => h.run pins s σ H Q I (k σ H Q q)⟩
theorem vo_none : VO X W none (dC .non) := weakO po_none fun σ H Q ⟨B, A, r, w, hs, hp, q⟩ => q H .refl hp
def dIntOnly (fe : EM) : EM := fun r w => (fe r w).bind fun d w' => match d with
  | .int i => .ok (.int i) w'
  | _ => .bad
theorem vo_some {fe : EM} (h : VE X rO W e fe) : VO X W (some e) (dIntOnly fe) := weakO (po_some h) fun σ H Q ⟨B, A, r, w, hs, hp, q⟩ => ⟨B, A, r, w, hs, hp, by
  unfold dIntOnly at q
  cases z : fe r w with
  | bad => rw [z] at q; exact q
  | exc n fs w1 => rw [z] at q; exact q
  | ok d w1 =>
    rw [z] at q
    unfold Res.bind at q
    cases d <;> first | exact q.elim | skip
    exact fun v H1 k1 p1 r1 => ⟨_, r1.int, q H1 k1 p1⟩⟩
def D.opt : D → Option Int
  | .int i => some i
  | _ => none
def cutL {α : Type} (xs : List α) (lo hi : Option Int) : List α := (xs.drop (HT.sIx xs.length 0 lo)).take (HT.sIx xs.length xs.length hi - HT.sIx xs.length 0 lo)
theorem RepL.drop {c : Cf} {A : Addr → Prop} {H : Hp} : ∀ {vs : List V} {ds : List D} (n : Nat), RepL c A H vs ds → RepL c A H (vs.drop n) (ds.drop n)
  | _, _, 0, r => r
  | _, _, _ + 1, .nil => .nil
  | _, _, n + 1, .cons _ r => RepL.drop n r
theorem RepL.take {c : Cf} {A : Addr → Prop} {H : Hp} : ∀ {vs : List V} {ds : List D} (n : Nat), RepL c A H vs ds → RepL c A H (vs.take n) (ds.take n)
  | _, _, 0, r => .nil
  | _, _, _ + 1, .nil => .nil
  | _, _, n + 1, .cons h r => .cons h (RepL.take n r)
theorem RepL.cut {c : Cf} {A : Addr → Prop} {H : Hp} {vs : List V} {ds : List D} (lo hi : Option Int) (r : RepL c A H vs ds) : RepL c A H (cutV vs lo hi) (cutL ds lo hi) := by
  unfold cutV cutL
  rw [r.len]
  exact (r.drop _).take _
def isWhole (n : Nat) (lo hi : Option Int) : Bool := decide (HT.sIx n 0 lo = 0) && decide (HT.sIx n n hi = n)
def slD (d : D) (lo hi : Option Int) : Option D := match d with
  | .lst l => some (.lst (cutL l lo hi))
  | .tup l => some (.tup (cutL l lo hi))
  | .str s => if s.length ≤ sizeLine then some (.str (cutS s lo hi)) else none
  | _ => none
def dSl (g : D → Option Int → Option Int → Option D) (fe fl fh : EM) : EM := fun r w => (fe r w).bind fun d w1 => (fl r w1).bind fun lo w2 => (fh r w2).bind fun hi w3 => Res.of (g d lo.opt hi.opt) w3
theorem PostO.bind {c : Cf} {A : Addr → Prop} {σ : L2.St} {H : Hp} [RKm R] {Q : VK} {Q1 : Option Int → Hp → Prop} {x : Res} {k : D → Wd → Res} (h : Post c A σ H R W Q (x.bind k)) (hx : ∀ d w, x = .ok d w → d = .non ∨ ∃ i, d = .int i)
    (hk : ∀ d w H1, Kp c.p H H1 → PenAt c.p c.lc A H1 w → Post c A σ H1 R W Q (k d w) → Q1 d.opt H1) : PostO c A σ H W Q1 x := by
  cases x with
  | ok d w =>
    have h' : Post c A σ H R W Q (k d w) := h
    rcases hx d w rfl with rfl | ⟨i, rfl⟩
    · exact fun H' k' p => hk .non w H' k' p (Post.at k' h')
    · exact fun H' k' p => hk (.int i) w H' k' p (Post.at k' h')
  | exc n fs w => exact h
  | bad => exact h
/-- what a part comes to -/
structure PartM (f : EM) : Prop where
  is : ∀ r w d w', f r w = .ok d w' → d = .non ∨ ∃ i, d = .int i
theorem part_none : PartM (dC .non) := ⟨fun r w d w' h => by cases h; exact .inl rfl⟩
theorem part_some {fe : EM} : PartM (dIntOnly fe) := ⟨fun r w d w' h => by
  unfold dIntOnly at h
  cases z : fe r w with
  | bad => rw [z] at h; cases h
  | exc n fs w1 => rw [z] at h; cases h
  | ok d1 w1 =>
    rw [z] at h
    unfold Res.bind at h
    cases d1 <;> first | cases h | skip
    exact .inr ⟨_, rfl⟩⟩
theorem new_lstE {B : Bs} {A : Addr → Prop} {K : PySem.W.Frag} {mg : Str → Option Value} {H : Hp} {vs : List V} {ds : List D} {t : Addr} (fr : Fre (B.cf K mg) A H) (h : RepL (B.cf K mg) A H vs ds) (n : H t = none) : Rep (B.cf K mg) A (upd H t (.lst vs)) (.ref t) (.lst ds) :=
  .lst upd_same (fr.n t n).1 (fr.n t n).2 (h.keepA (Kp.a (.of (same_new n))))
theorem cutL_all {α : Type} {vs : List α} {lo hi : Option Int} (h : HT.sIx vs.length 0 lo = 0 ∧ HT.sIx vs.length vs.length hi = vs.length) : cutL vs lo hi = vs := by
  unfold cutL
  rw [h.1, h.2]
  simp
theorem ve_sl {lo hi : Option Expr} {fe fl fh : EM} {p2 : Pos} (he : VE X rO W e fe) (hl : VO X W lo fl) (hh : VO X W hi fh) (pl : PartM fl) (ph : PartM fh) : VE X rE W (.Subscript e (.Slice lo hi none p2) pos) (dSl slD fe fl fh) :=
  weak (pe_slice (SlR.or (SlR.or sl_list sl_tupA) sl_str) he hl hh) fun σ H Q ⟨B, A, r, w, hs, hp, q⟩ =>
  ⟨B, A, r, w, hs, hp, q.bind fun x w1 v H1 k1 p1 r1 q1 => ⟨B, A, r, w1, hs.keep k1, p1, PostO.bind q1 (pl.is r w1) fun lo w2 H2 k2 p2 q2 => ⟨B, A, r, w2, hs.keep (k1.trans k2), p2, PostO.bind q2 (ph.is r w2) fun hi w3 H3 k3 p3 q3 => by
    have r1' : rO (B.cf X.K X.mg) A H3 H3 v x := rO.keep hs.np (k2.trans k3) r1
    have fr := (hs.keep (k1.trans (k2.trans k3))).fre
    unfold Res.of slD at q3
    split at q3
    · rename_i d e
      split at e
      · cases e
        obtain ⟨a, vs, rfl, h1, h2⟩ := r1'.lst
        exact .inl (.inl ⟨a, vs, rfl, SqL.of h1, fun t ht => q3 _ _ (.of (same_new ht)) (p3.keep (same_new ht)) (new_lstE fr (h2.cut _ _) ht)⟩)
      · cases e
        obtain ⟨a, vs, e1, h1, h2⟩ := r1'.tup
        have e1' := e1
        subst e1'
        refine .inl (.inr ⟨a, vs, rfl, SqT.of h1, fun hw => ?_, fun hw t ht => q3 _ _ (.of (same_new ht)) (p3.keep (same_new ht)) (new_tup fr (h2.cut _ _) ht)⟩)
        have e2 : cutL _ lo.opt hi.opt = _ := cutL_all (by rw [← h2.len]; exact hw)
        rw [e2] at q3
        rcases r1' with r1' | ⟨_, _, _, r1'⟩
        · exact q3 _ H3 .refl p3 r1'
        · exact r1'.elim
      · split at e
        · rename_i hl
          cases e
          exact .inr ⟨_, r1'.str, hl, q3 _ H3 .refl p3 (.str _)⟩
        · cases e
      · cases e
    · exact q3.elim⟩⟩⟩
/-- a list's slice, a new list -/
def slLD (d : D) (lo hi : Option Int) : Option D := match d with
  | .lst l => some (.lst (cutL l lo hi))
  | _ => none
theorem vf_sl {lo hi : Option Expr} {fe fl fh : EM} {p2 : Pos} (he : VE X rO W e fe) (hl : VO X W lo fl) (hh : VO X W hi fh) (pl : PartM fl) (ph : PartM fh) : VE X rF W (.Subscript e (.Slice lo hi none p2) pos) (dSl slLD fe fl fh) :=
  weak (pe_slice sl_list he hl hh) fun σ H Q ⟨B, A, r, w, hs, hp, q⟩ =>
  ⟨B, A, r, w, hs, hp, q.bind fun x w1 v H1 k1 p1 r1 q1 => ⟨B, A, r, w1, hs.keep k1, p1, PostO.bind q1 (pl.is r w1) fun lo w2 H2 k2 p2 q2 => ⟨B, A, r, w2, hs.keep (k1.trans k2), p2, PostO.bind q2 (ph.is r w2) fun hi w3 H3 k3 p3 q3 => by
    have r1' : rO (B.cf X.K X.mg) A H3 H3 v x := rO.keep hs.np (k2.trans k3) r1
    unfold Res.of slLD at q3
    split at q3
    · rename_i d e
      split at e
      · cases e
        obtain ⟨a, vs, rfl, h1, h2⟩ := r1'.lst
        exact ⟨a, vs, rfl, SqL.of h1, fun t ht => q3 _ _ (.of (same_new ht)) (p3.keep (same_new ht)) (new_lst (h2.cut _ _) ht)⟩
      · cases e
    · exact q3.elim⟩⟩⟩
end
end DL

set_option Elab.async false
set_option linter.all false
set_option maxRecDepth 100000
set_option maxHeartbeats 2000000
namespace DL
open PySem PySem.SeqAt PySem.Spec PyProof.Rows L2

/-- a list (true) or a tuple (false) of vs at a -/
def Sq (k : Bool) (K : PySem.W.Frag) (H : Hp) (a : Addr) (vs : List V) : Prop := match k with
  | true => SqL K H a vs
  | false => SqT K H a vs
def IterAt (k : Bool) (h : Heap) (it a : Addr) (i : Nat) : Prop := match k with
  | true => h.IsListIter it a i
  | false => h.IsTupleIter it a i
def SeqIn (k : Bool) (h : Heap) (a : Addr) (its : Array Value) : Prop := match k with
  | true => h.IsList a its
  | false => h.IsTuple a its
theorem Sq.laid {X : Cx} {pins : List (Addr × Obj)} {σ : L2.St} {H : Hp} {s : Shared} {k : Bool} {a : Addr} {vs : List V} (I : Inv X pins σ H s) (h : Sq k X.K H a vs) : ∃ its : List Value, Vals vs its ∧ SeqIn k s.heap a its.toArray ∧ a < s.heap.objs.size := by
  cases k with
  | true =>
    obtain ⟨its, r, p, _⟩ := I.list h
    exact ⟨its, r, p.isList, p.lt⟩
  | false =>
    obtain ⟨its, r, p, _⟩ := I.tuple h
    obtain ⟨o, ho, _⟩ := id p
    exact ⟨its, r, (show s.heap.IsTuple a its.toArray from p), Heap.lt_size ho⟩
theorem drawsAt {prog : Program} {w : World} {A : Around} (hh : A.handled = none) (k : Bool) (it l : Addr) (hne : l ≠ it) (items : Array Value) :
    Draws prog w A it [it, l] items.size (fun i v => items[i]? = some v) (fun i h => IterAt k h it l i ∧ SeqIn k h l items) := by
  cases k with
  | true => exact Draws.list hh it l hne items
  | false => exact Draws.tuple hh it l hne items
theorem IterAt.at {k : Bool} {h h' : Heap} {it a : Addr} {i : Nat} (x : IterAt k h it a i) (f : ∀ o, h.get? it = some o → h'.get? it = some o) : IterAt k h' it a i := by
  cases k with
  | true => exact Heap.IsListIter.at (show h.IsListIter it a i from x) f
  | false => exact Heap.IsTupleIter.at (show h.IsTupleIter it a i from x) f
theorem IterAt.obj {k : Bool} {h : Heap} {it a : Addr} {i : Nat} (x : IterAt k h it a i) : ∃ o, h.get? it = some o ∧ ∀ v, o.data ≠ .cell v := by
  cases k with
  | true => obtain ⟨o, e, _, d⟩ := (show h.IsListIter it a i from x); exact ⟨o, e, fun v q => by rw [d] at q; cases q⟩
  | false => obtain ⟨o, e, _, d⟩ := (show h.IsTupleIter it a i from x); exact ⟨o, e, fun v q => by rw [d] at q; cases q⟩
def begObj (k : Bool) (a : Addr) : Obj := match k with
  | true => { cls := .type "list_iterator", data := .fields #[.ref a, .int 0 0] }
  | false => { cls := .type "tuple_iterator", data := .fields #[.ref a, .int 0 0] }
theorem begins {k : Bool} {a : Addr} {its : Array Value} : Begins (.ref a) (begObj k a) (fun h => SeqIn k h a its) := by
  cases k with
  | true => exact begins_list a its
  | false => exact begins_tuple a its
theorem begObj_iter {k : Bool} {h : Heap} {it a : Addr} (e : h.get? it = some (begObj k a)) : IterAt k h it a 0 := by
  cases k with
  | true => exact ⟨_, e, rfl, rfl⟩
  | false => exact ⟨_, e, rfl, rfl⟩

/-- zip of two -/
def ItzM (K : PySem.W.Frag) (k1 k2 : Bool) (a b : Addr) (xs ys : List V) : It :=
  ⟨fun i H => i < min xs.length ys.length ∧ Sq k1 K H a xs ∧ Sq k2 K H b ys,
   fun i H v H' => ∃ T x y, v = .ref T ∧ H T = none ∧ H' = upd H T (.tup [x, y]) ∧ xs[i]? = some x ∧ ys[i]? = some y,
   fun i H => i = min xs.length ys.length ∧ Sq k1 K H a xs ∧ Sq k2 K H b ys⟩
theorem turn_zipM {P : Program} {w : World} {K : PySem.W.Frag} {elts : List Expr} {kk : Nat} {tpos : Pos} {k1 k2 : Bool} {a b z TI TO i1 i2 : Addr} {xs ys : List V} (S : ZipSep2 z TI TO i1 i2 [i1, a] [i2, b]) (ha : a ≠ i1) (hb : b ≠ i2) :
    Turn P w K (.Tuple elts kk tpos) (ItzM K k1 k2 a b xs ys) [z, TI, TO, i1, i2] z (fun i h => IsZip h z TI TO .none ∧ IsTupOf2 h TI (.ref i1) (.ref i2) ∧ (∃ x y, IsTupOf2 h TO x y) ∧ IterAt k1 h i1 a i ∧ IterAt k2 h i2 b i)  where
  mem := List.mem_cons_self
  obj := fun i h ⟨hz, hTI, ⟨x, y, hTO⟩, h1, h2⟩ c hc => by
    simp only [List.mem_cons, List.not_mem_nil, or_false] at hc
    rcases hc with rfl | rfl | rfl | rfl | rfl
    · exact ⟨_, hz, fun v q => nomatch q⟩
    · exact ⟨_, hTI, fun v q => nomatch q⟩
    · exact ⟨_, hTO, fun v q => nomatch q⟩
    · exact h1.obj
    · exact h2.obj
  keep := fun i h h' ⟨hz, hTI, ⟨x, y, hTO⟩, h1, h2⟩ k => ⟨k z (by simp) _ hz, k TI (by simp) _ hTI, ⟨x, y, k TO (by simp) _ hTO⟩, h1.at fun o q => k i1 (by simp) o q, h2.at fun o q => k i2 (by simp) o q⟩
  item := by
    intro X hP hw hK hc i pins s σ H E I hf st hg
    subst hP hw hK
    obtain ⟨hlt, sq1, sq2⟩ := hg
    obtain ⟨its, rv, p, la⟩ := sq1.laid I
    obtain ⟨its2, rv2, p2, lb⟩ := sq2.laid I
    have e1 : its.toArray.size = xs.length := by rw [List.size_toArray]; exact rv.length.symm
    have e2 : its2.toArray.size = ys.length := by rw [List.size_toArray]; exact rv2.length.symm
    have hh : X.A.in1.handled = none := I.ok.hd hc
    have G := GoesN.zip2 (elts := elts) (x1 := kk) (pos := tpos) (A := X.A) S (drawsAt (prog := X.prog) (w := X.w) hh k1 i1 a ha its.toArray) (drawsAt (prog := X.prog) (w := X.w) hh k2 i2 b hb its2.toArray)
    obtain ⟨hz, hTI, hTO, h1, h2⟩ := st
    refine wpAny_mono (G.goes i s (fun v s2 => ∃ x H', Inv X pins σ H' s2 ∧ RelV x v ∧ (ItzM X.K k1 k2 a b xs ys).yld i H x H' ∧ _ ∧ ∀ b ∈ [z, TI, TO, i1, i2], H' b = none) E (by rw [e1, e2]; exact hlt) ⟨hz, hTI, hTO, ⟨h1, p⟩, ⟨h2, p2⟩⟩ fun v h' tk Y st' kp htk => ?_) (fun r s1 ⟨u, e, q⟩ => ⟨u, e, q⟩) fun _ _ q => q
    obtain ⟨T, x, y, rfl, hT, hx, hy, isT⟩ := Y
    obtain ⟨hz', hTI', hTO', ⟨h1', _⟩, ⟨h2', _⟩⟩ := st'
    have hx' : its[i]? = some x := by simpa using hx
    have hy' : its2[i]? = some y := by simpa using hy
    have hxl : i < xs.length := by omega
    have hyl : i < ys.length := by omega
    obtain ⟨u, hu, ru⟩ := rv.get (List.getElem?_eq_getElem hxl)
    obtain ⟨u2, hu2, ru2⟩ := rv2.get (List.getElem?_eq_getElem hyl)
    rw [hx'] at hu; cases hu
    rw [hy'] at hu2; cases hu2
    have hn : H T = none := I.hok.fresh hT
    have new : ObjOk X.prog X.w (upd H T (.tup [xs[i], ys[i]])) h' T (.tup [xs[i], ys[i]]) := ⟨by show 2 ≤ sizeLine; rw [sizeLine_eq]; decide, [x, y], .cons ru (.cons ru2 .nil), isT⟩
    have I1 := I.turnedNew (t' := tk) (ch := [z, TO, i1, i2]) (T := T) (ob := .tup [xs[i], ys[i]]) (h' := h') kp (fun c hc => hf c (by
      simp only [List.mem_cons, List.not_mem_nil, or_false] at hc ⊢
      rcases hc with z | z | z | z <;> simp [z])) hT new
    refine ⟨.ref T, _, I1, rfl, ⟨T, xs[i], ys[i], rfl, hn, rfl, List.getElem?_eq_getElem hxl, List.getElem?_eq_getElem hyl⟩, ⟨hz', hTI', hTO', h1', h2'⟩, fun c hc => ?_⟩
    have hlt : c < s.heap.objs.size := by
      simp only [List.mem_cons, List.not_mem_nil, or_false] at hc
      rcases hc with rfl | rfl | rfl | rfl | rfl
      · exact Heap.lt_size hz
      · exact Heap.lt_size hTI
      · obtain ⟨_, _, e⟩ := hTO; exact Heap.lt_size e
      · obtain ⟨_, e, _⟩ := h1.obj; exact Heap.lt_size e
      · obtain ⟨_, e, _⟩ := h2.obj; exact Heap.lt_size e
    rw [upd_ne (Nat.ne_of_lt (Nat.lt_of_lt_of_le hlt hT))]
    exact (hf c hc).1
  done := by
    intro X hP hw hK hc i pins s σ H E I hf st hg
    subst hP hw hK
    obtain ⟨hlt, sq1, sq2⟩ := hg
    obtain ⟨its, rv, p, la⟩ := sq1.laid I
    obtain ⟨its2, rv2, p2, lb⟩ := sq2.laid I
    have e1 : its.toArray.size = xs.length := by rw [List.size_toArray]; exact rv.length.symm
    have e2 : its2.toArray.size = ys.length := by rw [List.size_toArray]; exact rv2.length.symm
    have hh : X.A.in1.handled = none := I.ok.hd hc
    have G := GoesN.zip2 (elts := elts) (x1 := kk) (pos := tpos) (A := X.A) S (drawsAt (prog := X.prog) (w := X.w) hh k1 i1 a ha its.toArray) (drawsAt (prog := X.prog) (w := X.w) hh k2 i2 b hb its2.toArray)
    obtain ⟨hz, hTI, hTO, h1, h2⟩ := st
    refine G.stops s (fun s1 => Inv X pins σ H s1) E (by rw [e1, e2, ← hlt]; exact ⟨hz, hTI, hTO, ⟨h1, p⟩, ⟨h2, p2⟩⟩) fun h' tk kp htk => ?_
    exact I.turnedL (t' := tk) (ch := [z, TO, i1, i2]) kp (fun c hc => hf c (by
      simp only [List.mem_cons, List.not_mem_nil, or_false] at hc ⊢
      rcases hc with z | z | z | z <;> simp [z]))
  self := fun A i s Q E st h => wpAny_pyIter_zip st.1 h
theorem walk_zipM {K : PySem.W.Frag} {k1 k2 : Bool} {a b : Addr} {xs ys : List V} : Walk (ItzM K k1 k2 a b xs ys) (min xs.length ys.length) (fun H => Sq k1 K H a xs ∧ Sq k2 K H b ys)
    (fun i H v H' => ∃ T x y, v = .ref T ∧ H T = none ∧ H' = upd H T (.tup [x, y]) ∧ xs[i]? = some x ∧ ys[i]? = some y) :=
  ⟨fun i H hi g => ⟨hi, g⟩, fun H g => ⟨rfl, g⟩, fun i H x H' hi g y => y⟩
def iZipM (K : PySem.W.Frag) (ta : TA) : TI := fun σ H R => ta σ H fun vs H1 => ∃ (k1 k2 : Bool) (a b : Addr) (xs ys : List V), vs = [.ref a, .ref b] ∧ Sq k1 K H1 a xs ∧ Sq k2 K H1 b ys ∧ R (ItzM K k1 k2 a b xs ys) H1
theorem pi_zipM {X : Cx} {e e2 : Expr} {ta : TA} {p pos tpos : Pos} {elts : List Expr} {kk : Nat} (hm : X.mg "zip" = none) (ha : PA X [e, e2] ta) (hg : Gl X "zip" := by rfl)
    (hs : starEach [e, e2] X.env = (false, eval e X.env) :: starEach [e2] X.env := by rfl) (hpl : (backTo pos (starEach [e2] X.env)).any (·.1) = false := by rfl) :
    PI X (.Tuple elts kk tpos) (.Call (.Name "zip" p) [e, e2] [] pos) (iZipM X.K ta) := by
  constructor
  intro pins s σ H R I h
  refine Call_ (ld_blt I hg hm PyProof.Rows.boot_zip (PyProof.Rows.callWith_type1 (thn (ha.run pos pins s σ H _ I h) fun us s1 hh => ?_) hs hpl))
  obtain ⟨vs, H1, I1, r1, k1, k2, a, b, xs, ys, rfl, sq1, sq2, q⟩ := hh
  cases r1 with | cons ra rr => cases rr with | cons rb rr => cases rr with | nil =>
  cases ra
  cases rb
  obtain ⟨its, rv, p1, la⟩ := sq1.laid I1
  obtain ⟨its2, rv2, p2, lb⟩ := sq2.laid I1
  refine zip_begins2 (begins (k := k1) (a := a) (its := its.toArray)) (begins (k := k2) (a := b) (its := its2.toArray)) p1 p2 fun h' hz hTI hTO h1 h2 hsz hk => wpAny_pyIter_zip hz ?_
  have I2 : Inv X pins σ H1 { s1 with heap := h' } := I1.kept (t' := s1.toks) hk
  have fr : ∀ c, c ∈ [s1.heap.objs.size + 4, s1.heap.objs.size + 2, s1.heap.objs.size + 3, s1.heap.objs.size, s1.heap.objs.size + 1] → FpOk X pins H1 c := fun c hc => by
    have hle : s1.heap.objs.size ≤ c := by
      simp only [List.mem_cons, List.not_mem_nil, or_false] at hc
      omega
    exact I1.fpOk hle (I1.hok.fresh hle)
  exact ⟨_, _, _, _, H1, rfl, I2, turn_zipM (zip_sep2 (fp1 := [a]) (fp2 := [b]) (fun c hc => by simp at hc; rw [hc]; exact la) (fun c hc => by simp at hc; rw [hc]; exact lb)) (Nat.ne_of_lt la) (Nat.ne_of_lt (Nat.lt_succ_of_lt lb)), ⟨hz, hTI, ⟨_, _, hTO⟩, begObj_iter h1, begObj_iter h2⟩, fr, q⟩

/-! ### enumerate -/
def IteM (K : PySem.W.Frag) (k : Bool) (a : Addr) (xs : List V) : It :=
  ⟨fun i H => i < xs.length ∧ Sq k K H a xs,
   fun i H v H' => ∃ T x, v = .ref T ∧ H T = none ∧ H' = upd H T (.tup [.int (i : Nat), x]) ∧ xs[i]? = some x,
   fun i H => i = xs.length ∧ Sq k K H a xs⟩
theorem turn_enumM {P : Program} {w : World} {K : PySem.W.Frag} {elts : List Expr} {kk : Nat} {tpos : Pos} {k : Bool} {a e it : Addr} {xs : List V} (hei : e ≠ it) (hea : e ≠ a) (ha : a ≠ it) :
    Turn P w K (.Tuple elts kk tpos) (IteM K k a xs) [e, it] e (fun i h => (∃ old, IsEnum h e it (0 + (i : Int)) old) ∧ IterAt k h it a i) where
  mem := List.mem_cons_self
  obj := fun i h ⟨⟨old, ho⟩, h1⟩ c hc => by
    simp only [List.mem_cons, List.not_mem_nil, or_false] at hc
    rcases hc with rfl | rfl
    · exact ⟨_, ho, fun v q => nomatch q⟩
    · exact h1.obj
  keep := fun i h h' ⟨⟨old, ho⟩, h1⟩ k => ⟨⟨old, k e (by simp) _ ho⟩, h1.at fun o q => k it (by simp) o q⟩
  item := by
    intro X hP hw hK hc i pins s σ H E I hf st hg
    subst hP hw hK
    obtain ⟨hlt, sq1⟩ := hg
    obtain ⟨its, rv, p, la⟩ := sq1.laid I
    have e1 : its.toArray.size = xs.length := by rw [List.size_toArray]; exact rv.length.symm
    have hh : X.A.in1.handled = none := I.ok.hd hc
    have G := GoesN.enumFrom (elts := elts) (x1 := kk) (pos := tpos) (A := X.A) 0 (drawsAt (prog := X.prog) (w := X.w) hh k it a ha its.toArray) e hei (by simp [hei, hea]) (by simp)
    obtain ⟨he, h1⟩ := st
    refine wpAny_mono (G.goes i s (fun v s2 => ∃ x H', Inv X pins σ H' s2 ∧ RelV x v ∧ (IteM X.K k a xs).yld i H x H' ∧ _ ∧ ∀ b ∈ [e, it], H' b = none) E (by rw [e1]; exact hlt) ⟨he, h1, p⟩ fun v h' tk Y st' kp htk => ?_) (fun r s1 ⟨u, e, q⟩ => ⟨u, e, q⟩) fun _ _ q => q
    obtain ⟨T, t, x, rfl, hT, hx, isT⟩ := Y
    obtain ⟨he', h1', _⟩ := st'
    have hx' : its[i]? = some x := by simpa using hx
    obtain ⟨u, hu, ru⟩ := rv.get (List.getElem?_eq_getElem hlt)
    rw [hx'] at hu; cases hu
    have hn : H T = none := I.hok.fresh hT
    have new : ObjOk X.prog X.w (upd H T (.tup [.int (i : Nat), xs[i]])) h' T (.tup [.int (i : Nat), xs[i]]) := ⟨by show 2 ≤ sizeLine; rw [sizeLine_eq]; decide, [_, x], .cons ⟨t, by rw [Int.zero_add]⟩ (.cons ru .nil), isT⟩
    have I1 := I.turnedNew (t' := tk) (ch := [e, it]) (T := T) (ob := .tup [.int (i : Nat), xs[i]]) (h' := h') kp hf hT new
    refine ⟨.ref T, _, I1, rfl, ⟨T, xs[i], rfl, hn, rfl, List.getElem?_eq_getElem hlt⟩, ⟨he', h1'⟩, fun c hc => ?_⟩
    have hlt : c < s.heap.objs.size := by
      simp only [List.mem_cons, List.not_mem_nil, or_false] at hc
      rcases hc with rfl | rfl
      · obtain ⟨_, e⟩ := he; exact Heap.lt_size e
      · obtain ⟨_, e, _⟩ := h1.obj; exact Heap.lt_size e
    rw [upd_ne (Nat.ne_of_lt (Nat.lt_of_lt_of_le hlt hT))]
    exact (hf c hc).1
  done := by
    intro X hP hw hK hc i pins s σ H E I hf st hg
    subst hP hw hK
    obtain ⟨hlt, sq1⟩ := hg
    obtain ⟨its, rv, p, la⟩ := sq1.laid I
    have e1 : its.toArray.size = xs.length := by rw [List.size_toArray]; exact rv.length.symm
    have hh : X.A.in1.handled = none := I.ok.hd hc
    have G := GoesN.enumFrom (elts := elts) (x1 := kk) (pos := tpos) (A := X.A) 0 (drawsAt (prog := X.prog) (w := X.w) hh k it a ha its.toArray) e hei (by simp [hei, hea]) (by simp)
    obtain ⟨he, h1⟩ := st
    refine G.stops s (fun s1 => Inv X pins σ H s1) E (by rw [e1, ← hlt]; exact ⟨he, h1, p⟩) fun h' tk kp htk => ?_
    exact I.turnedL (t' := tk) (ch := [e, it]) kp hf
  self := fun A i s Q E st h => by
    obtain ⟨⟨old, ho⟩, _⟩ := st
    exact wpAny_pyIter_enum ho h

set_option maxHeartbeats 1000000 in
/-- enumerate(v): the machine's part -/
theorem enum_new1 {v : Value} {o : Obj} {S : Heap → Prop} (B : Begins v o S) :
    Meets (Builtin.«enumerate.__new__» ⟨[.type "enumerate", v], []⟩) fun _ R s =>
      S s.heap ∧ R (.ok (.ret (.ref (s.heap.push o).objs.size))) { s with
        heap := (s.heap.push o).push { cls := .type "enumerate", data := .fields #[.none, .bool false, .ref s.heap.objs.size, rawInt 0, .none, .none] } } :=
  .of_wp fun prog w A R s hyp => by
    obtain ⟨hp, g, d, tk, os⟩ := s
    obtain ⟨here, hyp⟩ := hyp
    have sub := sub_enumerate
    have itr : ∀ {A' : Around} {E Q : Value → Shared → Prop}, Q (.ref hp.objs.size) ⟨hp.push o, g, d, tk, os⟩ →
        wpAny (model prog w) A' (pyIter v) Q E ⟨hp, g, d, tk, os⟩ := fun q => B.iter prog w _ _ _ _ here q
    wp_walk using itr
    refine wpAny_stack_any fun st => wpAny_pure ?_
    split
    · rename_i c _ _ _ _ _
      cases c == Value.type "enumerate" <;> (wp_walk using itr; exact ⟨_, rfl, hyp⟩)
    · wp_walk using itr
      exact ⟨_, rfl, hyp⟩
theorem enum_call1 {prog : Program} {w : World} {A : Around} {E : Value → Shared → Prop} {s : Shared} {v : Value} {o : Obj} {S : Heap → Prop} {Q : Value → Shared → Prop} (B : Begins v o S) (here : S s.heap)
    (k : ∀ h', IsEnum h' (s.heap.objs.size + 1) s.heap.objs.size 0 .none → h'.get? s.heap.objs.size = some o → (∀ b u, s.heap.get? b = some u → h'.get? b = some u) → Q (.ref (s.heap.objs.size + 1)) { s with heap := h' }) :
    wpAny (model prog w) A (call (.type "enumerate") [v]) Q E s := by
  have sz : (s.heap.push o).objs.size = s.heap.objs.size + 1 := Heap.size_push ..
  have lies : IsEnum ((s.heap.push o).push { cls := .type "enumerate", data := .fields #[.none, .bool false, .ref s.heap.objs.size, rawInt 0, .none, .none] })
      (s.heap.objs.size + 1) s.heap.objs.size 0 .none := by
    have q := Heap.get?_push_size (s.heap.push o) (o := ({ cls := .type "enumerate", data := .fields #[.none, .bool false, .ref s.heap.objs.size, rawInt 0, .none, .none] } : Obj)) rfl
    rw [sz] at q
    exact q
  refine callType_new F.called_enumerate (by decide) (F.typeCall_enumerate_1 _) (F.newCall_enumerate_1 _)
    (fun obj => F.args_object_init_2 obj _) F.entry_enumerate_new (enum_new1 B) ⟨here, ?_⟩
  show _ ∧ _
  rw [sz]
  exact ⟨⟨_, lies, rfl⟩, k _ lies (Heap.get?_push_of_some _ (Heap.get?_push_size _ B.free)) fun b u x => Heap.get?_push_of_some _ (Heap.get?_push_of_some _ x)⟩
def iEnumM (K : PySem.W.Frag) (ta : TA) : TI := fun σ H R => ta σ H fun vs H1 => ∃ (k : Bool) (a : Addr) (xs : List V), vs = [.ref a] ∧ Sq k K H1 a xs ∧ R (IteM K k a xs) H1
theorem pi_enumM {X : Cx} {e : Expr} {ta : TA} {p pos tpos : Pos} {elts : List Expr} {kk : Nat} (hm : X.mg "enumerate" = none) (ha : PA X [e] ta) (hg : Gl X "enumerate" := by rfl)
    (hs : starEach [e] X.env = (false, eval e X.env) :: starEach [] X.env := by rfl) (hpl : (backTo pos (starEach [] X.env)).any (·.1) = false := by rfl) :
    PI X (.Tuple elts kk tpos) (.Call (.Name "enumerate" p) [e] [] pos) (iEnumM X.K ta) := by
  constructor
  intro pins s σ H R I h
  refine Call_ (ld_blt I hg hm PyProof.Rows.boot_enumerate (PyProof.Rows.callWith_type1 (thn (ha.run pos pins s σ H _ I h) fun us s1 hh => ?_) hs hpl))
  obtain ⟨vs, H1, I1, r1, k, a, xs, rfl, sq, q⟩ := hh
  cases r1 with | cons ra rr => cases rr with | nil =>
  cases ra
  obtain ⟨its, rv, p1, la⟩ := sq.laid I1
  refine enum_call1 (begins (k := k) (a := a) (its := its.toArray)) p1 fun h' he h1 hk => wpAny_pyIter_enum he ?_
  have I2 : Inv X pins σ H1 { s1 with heap := h' } := I1.kept (t' := s1.toks) hk
  have fr : ∀ c, c ∈ [s1.heap.objs.size + 1, s1.heap.objs.size] → FpOk X pins H1 c := fun c hc => by
    have hle : s1.heap.objs.size ≤ c := by
      simp only [List.mem_cons, List.not_mem_nil, or_false] at hc
      omega
    exact I1.fpOk hle (I1.hok.fresh hle)
  exact ⟨_, _, _, _, H1, rfl, I2, turn_enumM (Nat.succ_ne_self _) (Ne.symm (Nat.ne_of_lt (Nat.lt_succ_of_lt la))) (Nat.ne_of_lt la), ⟨⟨_, he⟩, begObj_iter h1⟩, fr, q⟩
theorem walk_enumM {K : PySem.W.Frag} {k : Bool} {a : Addr} {xs : List V} : Walk (IteM K k a xs) xs.length (fun H => Sq k K H a xs) (fun i H v H' => ∃ T x, v = .ref T ∧ H T = none ∧ H' = upd H T (.tup [.int (i : Nat), x]) ∧ xs[i]? = some x) :=
  ⟨fun i H hi g => ⟨hi, g⟩, fun H g => ⟨rfl, g⟩, fun i H x H' hi g y => y⟩
end DL

set_option Elab.async false
set_option linter.all false
set_option maxRecDepth 100000
set_option maxHeartbeats 2000000
namespace DL
open PySem PySem.SeqAt PySem.Spec PyProof.Rows L2
section
variable {X : Cx} {W : WX} {tg e a b : Expr} {fe : EM} {fa : IM} {pos p tpos : Pos} {elts : List Expr} {kk : Nat} {s : Bool} {R : RK}
theorem stay_s {c : Cf} {A : Addr → Prop} {H H0 : Hp} {v : V} {d : D} {l : List D} (hR : RSt s R) (np : ¬ A c.p) (h : R c A H0 H v d) (e : itemsD d = some l) : ∃ k a vs, v = .ref a ∧ (∀ H1, Ks s c.p A H H1 → Sq k c.K H1 a vs) ∧ RepL c A H vs l := by
  cases d <;> first | cases e | skip
  · obtain ⟨a, vs, e, h1, h2⟩ := stay_t hR h (.inl rfl); exact ⟨false, a, vs, e, h1, h2⟩
  · obtain ⟨a, vs, e, h1, h2⟩ := stay_t hR h (.inr rfl); exact ⟨false, a, vs, e, h1, h2⟩
  · obtain ⟨a, vs, e, h1, h2⟩ := stay_l hR np h; exact ⟨true, a, vs, e, h1, h2⟩
theorem Ks.refl {p : Addr} {A : Addr → Prop} {H : Hp} : Ks s p A H H := by
  unfold Ks; split <;> first | exact fun _ _ _ _ h => h | exact .refl
def pairs (l1 l2 : List D) : List D := List.zipWith (fun x y => .tup [x, y]) l1 l2
def iZip (fa : IM) : IM := fun r w => match fa r w with
  | .ok [d1, d2] w' => match itemsD d1, itemsD d2 with
    | some l1, some l2 => .ok (pairs l1 l2) w'
    | _, _ => .bad
  | .exc n fs w' => .exc n fs w'
  | _ => .bad
def enumL : Nat → List D → List D
  | _, [] => []
  | i, d :: l => .tup [.int i, d] :: enumL (i + 1) l
def iEnum (fa : IM) : IM := fun r w => match fa r w with
  | .ok [d1] w' => match itemsD d1 with
    | some l1 => .ok (enumL 0 l1) w'
    | _ => .bad
  | .exc n fs w' => .exc n fs w'
  | _ => .bad
theorem enumL_at : ∀ (l : List D) (k i : Nat), (enumL k l)[i]? = (l[i]?).map fun d => .tup [.int ((k + i : Nat)), d]
  | [], k, i => by simp [enumL]
  | d :: l, k, 0 => by simp [enumL]
  | d :: l, k, i + 1 => by
    simp only [enumL, List.getElem?_cons_succ]
    rw [enumL_at l (k + 1) i]
    have : k + 1 + i = k + (i + 1) := by omega
    rw [this]
theorem enumL_len : ∀ (l : List D) (k : Nat), (enumL k l).length = l.length
  | [], _ => rfl
  | _ :: l, k => by simp [enumL, enumL_len l]
abbrev YZip (xs ys : List V) : Nat → Hp → V → Hp → Prop := fun i H v H' => ∃ T x y, v = .ref T ∧ H T = none ∧ H' = upd H T (.tup [x, y]) ∧ xs[i]? = some x ∧ ys[i]? = some y
abbrev YEnu (xs : List V) : Nat → Hp → V → Hp → Prop := fun i H v H' => ∃ T x, v = .ref T ∧ H T = none ∧ H' = upd H T (.tup [.int (i : Nat), x]) ∧ xs[i]? = some x
/-- for a, b in zip(x, y) -/
theorem vi_zip (hR : RSt s R) (hm : X.mg "zip" = none) (ha : VA X R W [a, b] fa) (hg : Gl X "zip" := by rfl) (hs : starEach [a, b] X.env = (false, eval a X.env) :: starEach [b] X.env := by rfl) (hpl : (backTo pos (starEach [b] X.env)).any (·.1) = false := by rfl) :
    VI X s W (.Tuple elts kk tpos) (.Call (.Name "zip" p) [a, b] [] pos) (iZip fa) := weakI (pi_zipM hm ha hg hs hpl) fun σ H R0 ⟨B, A, r, w, hs, hp, q⟩ => by
  refine ⟨B, A, r, w, hs, hp, ?_⟩
  unfold iZip at q
  split at q
  · rename_i d1 d2 w' z
    rw [z]
    split at q
    · rename_i l1 l2 e1 e2
      intro vs H1 k1 p1 r1
      cases r1 with | @cons v1 _ _ _ h1 t => cases t with | @cons v2 _ _ _ h2 t => cases t with | nil =>
      obtain ⟨ka, a1, vs1, rfl, s1, rl1⟩ := stay_s hR hs.np h1 e1
      obtain ⟨kb, a2, vs2, rfl, s2, rl2⟩ := stay_s hR hs.np h2 e2
      refine ⟨ka, kb, a1, a2, vs1, vs2, rfl, s1 _ Ks.refl, s2 _ Ks.refl, q _ H1 k1 p1 ⟨fun H => Sq ka X.K H a1 vs1 ∧ Sq kb X.K H a2 vs2, YZip vs1 vs2, ?_, fun H2 k => ⟨s1 H2 k, s2 H2 k⟩, fun i H2 x H3 hi k y => ?_⟩⟩
      · have : (pairs l1 l2).length = min vs1.length vs2.length := by rw [rl1.len, rl2.len]; exact List.length_zipWith
        rw [this]
        exact walk_zipM
      · obtain ⟨T, x1, x2, rfl, hT, rfl, g1, g2⟩ := y
        obtain ⟨dx, hx1, hx2⟩ := rl1.at g1
        obtain ⟨dy, hy1, hy2⟩ := rl2.at g2
        refine ⟨same_new hT, .tup [dx, dy], ?_, fun A' up fr => ?_⟩
        · show (List.zipWith _ l1 l2)[i]? = _
          rw [List.getElem?_zipWith, hx1, hy1]
        · exact .tup upd_same (fr.n T hT).1 (fr.n T hT).2 (.cons ((hx2.on k.a up).keepA (Kp.a (.of (same_new hT)))) (.cons ((hy2.on k.a up).keepA (Kp.a (.of (same_new hT)))) .nil))
    · exact q.elim
  · rename_i n fs w' z
    rw [z]
    exact q
  · exact q.elim
/-- for i, x in enumerate(y) -/
theorem vi_enum (hR : RSt s R) (hm : X.mg "enumerate" = none) (ha : VA X R W [a] fa) (hg : Gl X "enumerate" := by rfl) (hs : starEach [a] X.env = (false, eval a X.env) :: starEach [] X.env := by rfl) (hpl : (backTo pos (starEach [] X.env)).any (·.1) = false := by rfl) :
    VI X s W (.Tuple elts kk tpos) (.Call (.Name "enumerate" p) [a] [] pos) (iEnum fa) := weakI (pi_enumM hm ha hg hs hpl) fun σ H R0 ⟨B, A, r, w, hs, hp, q⟩ => by
  refine ⟨B, A, r, w, hs, hp, ?_⟩
  unfold iEnum at q
  split at q
  · rename_i d1 w' z
    rw [z]
    split at q
    · rename_i l1 e1
      intro vs H1 k1 p1 r1
      cases r1 with | @cons v1 _ _ _ h1 t => cases t with | nil =>
      obtain ⟨ka, a1, vs1, rfl, s1, rl1⟩ := stay_s hR hs.np h1 e1
      refine ⟨ka, a1, vs1, rfl, s1 _ Ks.refl, q _ H1 k1 p1 ⟨fun H => Sq ka X.K H a1 vs1, YEnu vs1, ?_, fun H2 k => s1 H2 k, fun i H2 x H3 hi k y => ?_⟩⟩
      · rw [enumL_len, ← rl1.len]
        exact walk_enumM
      · obtain ⟨T, x1, rfl, hT, rfl, g1⟩ := y
        obtain ⟨dx, hx1, hx2⟩ := rl1.at g1
        refine ⟨same_new hT, .tup [.int i, dx], ?_, fun A' up fr => ?_⟩
        · rw [enumL_at, hx1, Nat.zero_add]; rfl
        · exact .tup upd_same (fr.n T hT).1 (fr.n T hT).2 (.cons (.int _) (.cons ((hx2.on k.a up).keepA (Kp.a (.of (same_new hT)))) .nil))
    · exact q.elim
  · rename_i n fs w' z
    rw [z]
    exact q
  · exact q.elim
def rangeL (lo : Int) (n : Nat) : List D := (List.range n).map fun (i : Nat) => .int (lo + i)
def iRange1 (fa : IM) : IM := fun r w => match fa r w with
  | .ok [.int j] w' => if -(2 ^ 62) ≤ j ∧ j < 2 ^ 62 then .ok (rangeL 0 j.toNat) w' else .bad
  | .exc n fs w' => .exc n fs w'
  | _ => .bad
def iRange2 (fa : IM) : IM := fun r w => match fa r w with
  | .ok [.int i, .int j] w' => if -(2 ^ 62) ≤ i ∧ i < 2 ^ 62 ∧ -(2 ^ 62) ≤ j ∧ j < 2 ^ 62 then .ok (rangeL i (j - i).toNat) w' else .bad
  | .exc n fs w' => .exc n fs w'
  | _ => .bad
theorem walks_range {c : Cf} {A : Addr → Prop} {H : Hp} {lo : Int} {n : Nat} : Walks s c A H (Itr lo n) (rangeL lo n) := by
  refine ⟨fun _ => True, YFn fun i => .int (lo + i), ?_, fun _ _ => trivial, fun i H1 x H2 hi k y => ?_⟩
  · have : (rangeL lo n).length = n := by simp [rangeL]
    rw [this]; exact walk_range
  · obtain ⟨rfl, rfl⟩ := y
    refine ⟨Same.refl _, .int (lo + i), ?_, fun A' _ _ => .int _⟩
    have : i < n := by simpa [rangeL] using hi
    simp [rangeL, this]
/-- for i in range(n) -/
theorem vi_range1 (hm : X.mg "range" = none) (ha : VA X rO W [a] fa) (hg : Gl X "range" := by rfl) (hs : starEach [a] X.env = [(false, eval a X.env)] := by rfl) : VI X s W tg (.Call (.Name "range" p) [a] [] pos) (iRange1 fa) := weakI (pi_range1 hg hm ha hs) fun σ H R0 ⟨B, A, r, w, hs, hp, q⟩ => by
  refine ⟨B, A, r, w, hs, hp, ?_⟩
  unfold iRange1 at q
  split at q
  · rename_i j w' z
    rw [z]
    split at q
    · rename_i hj
      intro vs H1 k1 p1 r1
      cases r1 with | cons h1 t => cases t with | nil =>
      have := h1.int; subst this
      exact ⟨j, rfl, hj.1, hj.2, q _ H1 k1 p1 walks_range⟩
    · exact q.elim
  · rename_i n fs w' z
    rw [z]
    exact q
  · exact q.elim
theorem vi_range2 (hm : X.mg "range" = none) (ha : VA X rO W [a, b] fa) (hg : Gl X "range" := by rfl) (hs : starEach [a, b] X.env = [(false, eval a X.env), (false, eval b X.env)] := by rfl) (hs2 : starEach [b] X.env = [(false, eval b X.env)] := by rfl) : VI X s W tg (.Call (.Name "range" p) [a, b] [] pos) (iRange2 fa) := weakI (pi_range2 hg hm ha hs hs2) fun σ H R0 ⟨B, A, r, w, hs, hp, q⟩ => by
  refine ⟨B, A, r, w, hs, hp, ?_⟩
  unfold iRange2 at q
  split at q
  · rename_i i j w' z
    rw [z]
    split at q
    · rename_i hj
      intro vs H1 k1 p1 r1
      cases r1 with | cons h1 t => cases t with | cons h2 t => cases t with | nil =>
      have := h1.int; subst this
      have := h2.int; subst this
      exact ⟨i, j, rfl, hj, q _ H1 k1 p1 walks_range⟩
    · exact q.elim
  · rename_i n fs w' z
    rw [z]
    exact q
  · exact q.elim
end
end DL

set_option Elab.async false
set_option linter.all false
set_option maxRecDepth 100000
set_option maxHeartbeats 2000000
namespace DL
open PySem PySem.SeqAt PySem.Spec PyProof.Rows L2

/-! ### a slot takes an owned object -/
section
variable {K : PySem.W.Frag} {mg : Str → Option Value} {B : Bs} {A : Addr → Prop} {σ : L2.St} {H : Hp} {r : Env}
theorem StOk.take (h : StOk K mg B A σ H r) {i : Nat} {a : Addr} {d : D} (hA : A a) (h0 : B.H0 a = none) (hv : OwnR (B.cf K mg) A H a d) (no : ∀ (j : Nat) (e : D), r[j]? = some (some (e, true)) → σ[j]? = some (some (.ref a)) → j = i) : StOk K mg B A (σ.set i (some (.ref a))) H (r.set i (some (d, true))) := by
  refine ⟨h.kp, h.tp, h.tr, h.a0, h.t0, h.ax, h.np, fun j e q => ?_, fun j e q => ?_, fun j m d1 d2 b q1 q2 s1 s2 => ?_, by rw [List.length_set, List.length_set]; exact h.ln⟩
  · rcases set_at q with ⟨rfl, z⟩ | ⟨n, z⟩
    · cases z
    · obtain ⟨u, h1, h2⟩ := h.pl j e z
      exact ⟨u, by rw [List.getElem?_set_ne (Ne.symm n)]; exact h1, h2⟩
  · rcases set_at q with ⟨rfl, z⟩ | ⟨n, z⟩
    · cases z
      have hl : j < σ.length := by rw [← h.ln]; have := (List.getElem?_eq_some_iff.mp q).1; simpa using this
      exact ⟨a, by rw [List.getElem?_set_self hl], hA, h0, hv⟩
    · obtain ⟨b, h1, h2⟩ := h.ow j e z
      exact ⟨b, by rw [List.getElem?_set_ne (Ne.symm n)]; exact h1, h2⟩
  · rcases set_at q1 with ⟨rfl, z⟩ | ⟨n, z⟩
    · rcases set_at q2 with ⟨rfl, z2⟩ | ⟨n2, z2⟩
      · rfl
      · rw [List.getElem?_set_ne (Ne.symm n2)] at s2
        have hl : j < σ.length := by rw [← h.ln]; have := (List.getElem?_eq_some_iff.mp q1).1; simpa using this
        rw [List.getElem?_set_self hl] at s1
        cases s1
        exact (no m d2 z2 s2).symm
    · rcases set_at q2 with ⟨rfl, z2⟩ | ⟨n2, z2⟩
      · rw [List.getElem?_set_ne (Ne.symm n)] at s1
        have hl : m < σ.length := by rw [← h.ln]; have := (List.getElem?_eq_some_iff.mp q2).1; simpa using this
        rw [List.getElem?_set_self hl] at s2
        cases s2
        exact no j d1 z s1
      · rw [List.getElem?_set_ne (Ne.symm n)] at s1
        rw [List.getElem?_set_ne (Ne.symm n2)] at s2
        exact h.ne j m d1 d2 b z z2 s1 s2
theorem StOk.notOwn (h : StOk K mg B A σ H r) {a : Addr} (n : ¬ A a) : ∀ (j : Nat) (e : D), r[j]? = some (some (e, true)) → σ[j]? ≠ some (some (.ref a)) := fun j e q s => by
  obtain ⟨b, h1, h2, _⟩ := h.ow j e q
  rw [s] at h1; cases h1
  exact n h2
end
section
variable {X : Cx} {W : WX} {R : RK} {a b e : Expr} {es : List Expr} {fa fb fe : EM} {pos p : Pos}

/-! ### x, y = a, b into two local names -/
/-- a value comes into a slot: owned where it is new -/
def RKind (o : Bool) : RK := if o then rF else rE
def sPar (i j : Nat) (caps : List Nat) (o1 o2 : Bool) (fa fb : EM) : SM := fun r w => (fa (rel (these caps) r) w).en (rel (these caps) r) fun d1 w1 => (fb (rel (these caps) r) w1).en (rel (these caps) r) fun d2 w2 => .nx (((rel (these caps) r).set i (some (d1, o1))).set j (some (d2, o2))) w2
theorem par_set {K : PySem.W.Frag} {mg : Str → Option Value} {B : Bs} {A : Addr → Prop} {σ : L2.St} {H0 H : Hp} {r : Env} {i : Nat} {v : V} {d : D} {o : Bool} {w0 w : Wd} (hs : StOk K mg B A σ H0 r) (k : Kp B.p H0 H) (hv : RKind o (B.cf K mg) A H0 H v d) (p0 : PenAt B.p B.lc A H0 w0) (p1 : PenAt B.p B.lc A H w) :
    ∃ A', (∀ b, A b → A' b) ∧ (∀ b, A' b → A b ∨ H0 b = none) ∧ StOk K mg B A' (σ.set i (some v)) H (r.set i (some (d, o))) ∧ PenAt B.p B.lc A' H w ∧ (o = true → ∃ a, v = .ref a ∧ H0 a = none) := by
  cases o with
  | true =>
    obtain ⟨a, rfl, hn, ho⟩ := hv
    exact ⟨_, fun b => .inl, fun b q => q.elim .inl fun e => .inr (by rw [e]; exact hn), hs.setO k hn ho, p1.more hn k ⟨w0, p0⟩, fun _ => ⟨a, rfl, hn⟩⟩
  | false => exact ⟨A, fun b q => q, fun b q => .inl q, (hs.keep k).set hv, p1, fun z => by cases z⟩
theorem vs_par {i j : Nat} {x y : Str} {px py pt : Pos} {kt k2 pt2} (caps : List Nat) (o1 o2 : Bool) (hc : X.calm = true) (hN : X.N.Nodup) (hij : i ≠ j) (hx : X.env.scope.names.lookup x = some .local) (hy : X.env.scope.names.lookup y = some .local)
    (ha : VE X (RKind o1) W a fa) (hb : VE X (RKind o2) W b fb) (hi : X.N[i]? = some x := by rfl) (hj : X.N[j]? = some y := by rfl) (hw : swappedStores [.Tuple [.Name x px, .Name y py] kt pt] (.Tuple [a, b] k2 pt2) X.env = pure (some [x, y]) := by rfl) (hsw : swapsWithSole [.Tuple [.Name x px, .Name y py] kt pt] (.Tuple [a, b] k2 pt2) pos.line X.env = pure false := by rfl)
    (hs1 : starEach [a, b] X.env = (false, eval a X.env) :: starEach [b] X.env := by rfl) (hs2 : starEach [b] X.env = (false, eval b X.env) :: starEach [] X.env := by rfl) :
    VS X W (.Assign [.Tuple [.Name x px, .Name y py] kt pt] (.Tuple [a, b] k2 pt2) pos) (sPar i j caps o1 o2 fa fb) := weakS (ps_par hc hN hi hj hij hx hy (pa_cons ha (pa_cons hb pa_nil hs2) hs1) hw hsw) fun D σ H ⟨B, A, r, w, hs, hp, q⟩ => by
  have hs1 := hs.rel (these caps)
  have hp1 : PenAt B.p B.lc (fun a => A a ∧ ¬ OwnBy (these caps) σ r a) H w := hp.less fun a z => .inl z.1
  generalize hr0 : rel (these caps) r = r0 at hs1 q
  have q : PostS X.K X.mg B W D ((fa r0 w).en r0 fun d1 w1 => (fb r0 w1).en r0 fun d2 w2 => .nx ((r0.set i (some (d1, o1))).set j (some (d2, o2))) w2) := by
    have : PostS X.K X.mg B W D (sPar i j caps o1 o2 fa fb r w) := by assumption
    unfold sPar at this
    rw [hr0] at this
    exact this
  generalize (fun a => A a ∧ ¬ OwnBy (these caps) σ r a) = A1 at hs1 hp1
  refine ⟨B, A1, r0, w, hs1, hp1, PostS.en hs1 q fun d1 w1 v1 H1 k1 p1 r1 q => ?_⟩
  cases o1 with
  | false =>
    refine ⟨B, A1, r0, w1, hs1.keep k1, p1, PostS.en (hs1.keep k1) q fun d2 w2 v2 H2 kk2 p2 r2 q => ?_⟩
    obtain ⟨A', _, dn, st, pp, _⟩ := par_set (i := j) (hs1.keep k1) kk2 r2 p1 p2
    have r1' : Rep (B.cf X.K X.mg) A' H2 v1 d1 := (Rep.to dn r1).keepA (Kp.a kk2)
    refine ⟨v1, v2, rfl, q _ H2 A' ?_ pp⟩
    have := st.set (i := i) r1'
    rw [List.set_comm _ _ hij, List.set_comm _ _ hij]
    exact this
  | true =>
    obtain ⟨a1, rfl, hn1, ho1⟩ := r1
    have hsA := hs1.side hn1 k1 ho1.some
    have pA := p1.more hn1 k1 ⟨w, hp1⟩
    refine ⟨B, _, r0, w1, hsA, pA, PostS.en hsA q fun d2 w2 v2 H2 kk2 p2 r2 q => ?_⟩
    obtain ⟨A', ups, dn, st, pp, fr⟩ := par_set (i := j) hsA kk2 r2 pA p2
    obtain ⟨o1, t1⟩ := ho1.some
    have nap : a1 ≠ B.p := (hs1.fresh hn1).2
    have up : A' a1 := ups a1 (.inr rfl)
    have ho2 : OwnR (B.cf X.K X.mg) A' H2 a1 d1 := (ho1.to dn).keepA (Kp.a kk2) fun o z => kk2.k a1 o nap z
    refine ⟨.ref a1, v2, rfl, q _ H2 A' ?_ pp⟩
    have := st.take (i := i) up (hs1.kp.free hn1) ho2 fun m e e1 e2 => ?_
    · rw [List.set_comm _ _ hij, List.set_comm _ _ hij]
      exact this
    · exfalso
      rcases set_at e1 with ⟨rfl, z⟩ | ⟨n, z⟩
      · have hl : m < σ.length := by rw [← hsA.ln]; have := (List.getElem?_eq_some_iff.mp e1).1; simpa using this
        rw [List.getElem?_set_self hl] at e2
        cases e2
        cases z
        obtain ⟨a2, e3, n2⟩ := fr rfl
        cases e3
        rw [t1] at n2
        cases n2
      · rw [List.getElem?_set_ne (Ne.symm n)] at e2
        exact hs1.notOwn (hs1.fresh hn1).1 m e z e2

/-! ### list + list, list * n -/
def catD : D → D → Option D
  | .lst a, .lst b => if a.length + b.length ≤ sizeLine then some (.lst (a ++ b)) else none
  | _, _ => none
theorem RepL.append {c : Cf} {A : Addr → Prop} {H : Hp} : ∀ {vs ws : List V} {ds es : List D}, RepL c A H vs ds → RepL c A H ws es → RepL c A H (vs ++ ws) (ds ++ es)
  | _, _, _, _, .nil, h => h
  | _, _, _, _, .cons h r, q => .cons h (RepL.append r q)
theorem of_cat : OpD X rF (binaryOp .Add) catD := fun pins s σ H x y v u Q I rx ry ⟨B, A, dx, dy, d, fr, h1, h2, e, q⟩ => by
  unfold catD at e
  split at e
  · split at e
    · cases e
      obtain ⟨a, vs, rfl, g1, l1⟩ := h1.lst
      obtain ⟨b, ws, rfl, g2, l2⟩ := h2.lst
      exact op_cat pins s σ H _ _ v u Q I rx ry ⟨a, b, vs, ws, rfl, rfl, g1, g2, by rw [l1.len, l2.len]; assumption, fun t ht => q _ _ (same_new ht) (new_lst (l1.append l2) ht)⟩
    · cases e
  · cases e
/-- a + b: numbers, texts, lists, tuples -/
def plusD : D → D → Option D
  | .int i, .int j => some (.int (i + j))
  | .str x, .str y => if x.length + y.length ≤ sizeLine then some (.str (x ++ y)) else none
  | .lst a, .lst b => if a.length + b.length ≤ sizeLine then some (.lst (a ++ b)) else none
  | .tup a, .tup b => if a.length + b.length ≤ sizeLine then some (.tup (a ++ b)) else none
  | _, _ => none
theorem od_plus : OpD X rE (binaryOp .Add) plusD := fun pins s σ H x y v u Q I rx ry ⟨B, A, dx, dy, d, fr, h1, h2, e, q⟩ => by
  unfold plusD at e
  split at e
  · exact od_add pins s σ H x y v u Q I rx ry ⟨B, A, _, _, d, fr, h1, h2, e, q⟩
  · exact od_add pins s σ H x y v u Q I rx ry ⟨B, A, _, _, d, fr, h1, h2, e, q⟩
  · split at e
    · cases e
      obtain ⟨a, vs, rfl, g1, l1⟩ := h1.lst
      obtain ⟨b, ws, rfl, g2, l2⟩ := h2.lst
      exact op_cat pins s σ H _ _ v u Q I rx ry ⟨a, b, vs, ws, rfl, rfl, g1, g2, by rw [l1.len, l2.len]; assumption, fun t ht => q _ _ (same_new ht) (new_lstE fr (l1.append l2) ht)⟩
    · cases e
  · split at e
    · cases e
      obtain ⟨a, vs, e1, g1, l1⟩ := h1.tup
      obtain ⟨b, ws, e2, g2, l2⟩ := h2.tup
      have e1' := e1
      have e2' := e2
      subst e1' e2'
      refine op_catA pins s σ H _ _ v u Q I rx ry ⟨a, b, vs, ws, rfl, rfl, SqT.of g1, SqT.of g2, by rw [l1.len, l2.len]; assumption, fun z => ?_, fun _ z => ?_, fun _ _ t ht => q _ _ (same_new ht) (new_tup fr (l1.append l2) ht)⟩
      · subst z
        cases l1
        rcases h2 with h2 | ⟨_, _, _, h2⟩
        · exact q _ H (Same.refl H) h2
        · exact h2.elim
      · subst z
        cases l2
        rw [List.append_nil] at q
        rcases h1 with h1 | ⟨_, _, _, h1⟩
        · exact q _ H (Same.refl H) h1
        · exact h1.elim
    · cases e
  · cases e
def repL (k : Int) (l : List D) : List D := (List.replicate k.toNat l).flatten
theorem RepL.rep {c : Cf} {A : Addr → Prop} {H : Hp} {vs : List V} {ds : List D} (h : RepL c A H vs ds) : ∀ n : Nat, RepL c A H (List.replicate n vs).flatten (List.replicate n ds).flatten
  | 0 => .nil
  | n + 1 => by
    rw [List.replicate_succ, List.replicate_succ, List.flatten_cons, List.flatten_cons]
    exact h.append (RepL.rep h n)
def lmulD : D → D → Option D
  | .lst l, .int k => if -(2 ^ 63) ≤ k ∧ k < 2 ^ 63 ∧ l.length * k.toNat ≤ sizeLine then some (.lst (repL k l)) else none
  | _, _ => none
theorem of_rep : OpD X rF (binaryOp .Mult) lmulD := fun pins s σ H x y v u Q I rx ry ⟨B, A, dx, dy, d, fr, h1, h2, e, q⟩ => by
  unfold lmulD at e
  split at e
  · split at e
    · rename_i hk
      cases e
      obtain ⟨a, vs, rfl, g1, l1⟩ := h1.lst
      have := h2.int; subst this
      exact op_rep pins s σ H _ _ v u Q I rx ry ⟨a, _, vs, rfl, rfl, g1, hk.1, hk.2.1, by rw [l1.len]; exact hk.2.2, fun t ht => q _ _ (same_new ht) (new_lst (l1.rep _) ht)⟩
    · cases e
  · cases e
/-- a * b: numbers, a list or a tuple by a number -/
def timesD : D → D → Option D
  | .int i, .int j => if IntMulOk i j then some (.int (i * j)) else none
  | .lst l, .int k => if -(2 ^ 63) ≤ k ∧ k < 2 ^ 63 ∧ l.length * k.toNat ≤ sizeLine then some (.lst (repL k l)) else none
  | .tup l, .int k => if l ≠ [] ∧ 2 ≤ k ∧ k ≤ 1000 ∧ l.length ≤ 1000 then some (.tup (repL k l)) else none
  | _, _ => none
instance {l : List D} : Decidable (l ≠ []) := match l with
  | [] => isFalse fun h => h rfl
  | _ :: _ => isTrue fun h => nomatch h
theorem od_times : OpD X rE (binaryOp .Mult) timesD := fun pins s σ H x y v u Q I rx ry ⟨B, A, dx, dy, d, fr, h1, h2, e, q⟩ => by
  unfold timesD at e
  split at e
  · split at e
    · cases e
      exact op_mulG pins s σ H x y v u Q I rx ry ⟨_, _, h1.int, h2.int, by assumption, q _ H (Same.refl H) (.int _)⟩
    · cases e
  · split at e
    · rename_i hk
      cases e
      obtain ⟨a, vs, rfl, g1, l1⟩ := h1.lst
      have := h2.int; subst this
      exact op_rep pins s σ H _ _ v u Q I rx ry ⟨a, _, vs, rfl, rfl, g1, hk.1, hk.2.1, by rw [l1.len]; exact hk.2.2, fun t ht => q _ _ (same_new ht) (new_lstE fr (l1.rep _) ht)⟩
    · cases e
  · split at e
    · rename_i hk
      cases e
      obtain ⟨a, vs, rfl, g1, l1⟩ := h1.tup
      have := h2.int; subst this
      exact op_repT pins s σ H _ _ v u Q I rx ry ⟨a, _, vs, rfl, rfl, SqT.of g1, fun z => hk.1 (by subst z; cases l1; rfl), hk.2.1, hk.2.2.1, by rw [l1.len]; exact hk.2.2.2, fun t ht => q _ _ (same_new ht) (new_tup fr (l1.rep _) ht)⟩
    · cases e
  · cases e

/-! ### owned lists are written -/
/-- the owned list in slot i -/
def ownL (i : Nat) (r : Env) : Option (List D) := match r[i]? with
  | some (some (.lst l, true)) => some l
  | _ => none
theorem ownL_at {i : Nat} {r : Env} {l : List D} (h : ownL i r = some l) : r[i]? = some (some (.lst l, true)) := by
  unfold ownL at h
  split at h
  · cases h; assumption
  · cases h
/-- x.append(e) -/
def sApp (i : Nat) (caps : List Nat) (fe : EM) : SM := fun r w => match ownL i (rel (these caps) r) with
  | none => .bad
  | some l => (fe (rel (these caps) r) w).en (rel (these caps) r) fun d w' => if l.length < sizeLine then .nx ((rel (these caps) r).set i (some (.lst (l ++ [d]), true))) w' else .bad
theorem vs_app {i : Nat} {x : Str} {apos cpos : Pos} (caps : List Nat) (he : VE X rE W e fe) (hN : X.N[i]? = some x := by rfl) (hv : Vis X.env.scope x := by first | exact Or.inl rfl | exact Or.inr (Or.inl rfl) | exact Or.inr (Or.inr rfl)) (hd : (x == ("__debug__" : Str)) = false := by decide) (hcd : (x == ("__classdict__" : Str)) = false := by decide)
    (hbase : attributeBase (.Name x p) "append" X.env (eval (.Name x p) X.env) = eval (.Name x p) X.env := by rfl)
    (hfew : ((backTo cpos (starEach [e] X.env)).all (fun x => !x.1) && (backToKw cpos (keywordEach [] X.env)).all (fun x => x.1.isSome)
      && decide (([e] : List Expr).length + ([] : List Keyword).length + (if ([] : List Keyword).isEmpty then 0 else 1) < 30)) = true := by rfl)
    (hline : (apos.endLine == cpos.line) = true := by rfl) (hs : starEach [e] X.env = (false, eval e X.env) :: starEach [] X.env := by rfl) (hplain : (backTo cpos (starEach [] X.env)).any (·.1) = false := by rfl)
    (hsw : swapsWith (.Call (.Attribute (.Name x p) "append" apos) [e] [] cpos) none pos.line X.env = pure false := by rfl) : VS X W (.Expr (.Call (.Attribute (.Name x p) "append" apos) [e] [] cpos) pos) (sApp i caps fe) :=
  weakS (ps_expr (pe_bm PySem.F.plainAttrs_list PySem.F.slot_list_append PySem.F.type_list_append mt_append (pe_var hN hv hd hcd) (pa_cons he pa_nil hs) hbase hfew hline hs hplain) hsw) fun D σ H ⟨B, A, r, w, hs, hp, q⟩ => by
  have hs1 := hs.rel (these caps)
  unfold sApp at q
  split at q
  · exact q.elim
  · rename_i l el
    have e0 := ownL_at el
    obtain ⟨a, h1, hA, h0, vs, g1, g2⟩ := hs1.ow i _ e0
    refine ⟨.ref a, h1, .inl ⟨rfl, vs, SqL.of g1⟩, B, _, _, w, hs1, hp.less fun a z => .inl z.1, PostS.en hs1 q fun d w' v H1 k p rv q => ?_⟩
    split at q
    · rename_i hl
      have nap : a ≠ B.p := fun z => hs1.np (z ▸ hA)
      have g3 : H1 a = some (.lst vs) := k.k a _ nap g1
      have g4 := g2.keepA (Kp.a k)
      refine ⟨a, vs, v, rfl, rfl, g3, by rw [g4.len]; exact hl, q _ _ _ ((hs1.keep k).write e0 h1 ⟨_, upd_same, (g4.snoc rv).keepA (KpA.upd hA)⟩) (p.write hA)⟩
    · exact q.elim
/-- x[k] = e, x a list -/
def sSto (i : Nat) (caps : List Nat) (fk fe : EM) : SM := fun r w => match ownL i (rel (these caps) r) with
  | none => .bad
  | some l => (fe (rel (these caps) r) w).en (rel (these caps) r) fun d w1 => (fk (rel (these caps) r) w1).en (rel (these caps) r) fun k w2 => match k with
    | .int k => match ixN l.length k with
      | some j => .nx ((rel (these caps) r).set i (some (.lst (l.set j d), true))) w2
      | none => .bad
    | _ => .bad
theorem RepL.set {c : Cf} {A : Addr → Prop} {H : Hp} {v : V} {d : D} (h : Rep c A H v d) : ∀ {vs : List V} {ds : List D} (j : Nat), RepL c A H vs ds → RepL c A H (vs.set j v) (ds.set j d)
  | _, _, _, .nil => .nil
  | _, _, 0, .cons _ r => .cons h r
  | _, _, j + 1, .cons g r => .cons g (RepL.set h j r)
theorem vs_sto {i : Nat} {x : Str} {k : Expr} {fk : EM} {tpos : Pos} (caps : List Nat) (hk : VE X rE W k fk) (he : VE X rE W e fe) (hN : X.N[i]? = some x := by rfl) (hv : Vis X.env.scope x := by first | exact Or.inl rfl | exact Or.inr (Or.inl rfl) | exact Or.inr (Or.inr rfl)) (hd : (x == ("__debug__" : Str)) = false := by decide) (hcd : (x == ("__classdict__" : Str)) = false := by decide)
    (ha : ∀ v, assign (.Subscript (.Name x p) k tpos) X.env v = (do let ov ← holding [v] (eval (.Name x p) X.env); let iv ← holding [v, ov] (eval k X.env); standAt tpos; holding [v, ov, iv] (setItem ov iv v); release [v, ov, iv] []) := by intro _; rfl)
    (hs : swapsWithSole [.Subscript (.Name x p) k tpos] e pos.line X.env = pure false := by rfl) (hw : swappedStores [.Subscript (.Name x p) k tpos] e X.env = pure none := by rfl) (h1 : (assignEach [.Subscript (.Name x p) k tpos] X.env).map (·.2) = [assign (.Subscript (.Name x p) k tpos) X.env] := by rfl) :
    VS X W (.Assign [.Subscript (.Name x p) k tpos] e pos) (sSto i caps fk fe) :=
  weakS (ps_asg he (pg_sub (pe_var hN hv hd hcd) hk set_list ha) hs hw h1) fun D σ H ⟨B, A, r, w, hs, hp, q⟩ => by
  have hs1 := hs.rel (these caps)
  unfold sSto at q
  split at q
  · exact q.elim
  · rename_i l el
    have e0 := ownL_at el
    obtain ⟨a, h1, hA, h0, vs, g1, g2⟩ := hs1.ow i _ e0
    have nap : a ≠ B.p := fun z => hs1.np (z ▸ hA)
    refine ⟨B, _, _, w, hs1, hp.less fun a z => .inl z.1, PostS.en hs1 q fun d w1 v H1 k1 p1 rv q => ⟨.ref a, h1, B, _, _, w1, hs1.keep k1, p1, PostS.en (hs1.keep k1) q fun dk w2 vk H2 k2 p2 rk q => ?_⟩⟩
    have g3 : H2 a = some (.lst vs) := k2.k a _ nap (k1.k a _ nap g1)
    have g4 := g2.keepA (Kp.a (k1.trans k2))
    split at q
    · rename_i kk
      split at q
      · rename_i j ej
        cases rk
        refine ⟨a, vs, kk, j, rfl, rfl, g3, by rw [g4.len]; exact ej, q _ _ _ ((hs1.keep (k1.trans k2)).write e0 h1 ⟨_, upd_same, ((g4.set (rv.keepA (Kp.a k2)) j).keepA (KpA.upd hA))⟩) (p2.write hA)⟩
      · exact q.elim
    · exact q.elim
end
end DL

set_option Elab.async false
set_option linter.all false
set_option maxRecDepth 100000
set_option maxHeartbeats 2000000
namespace DL
open PySem PySem.SeqAt PySem.Spec PyProof.Rows L2

/-! ### an expression that takes an item out of an owned list -/
inductive ResX where
  | ok (d : D) (r : Env) (w : Wd)
  | exc (n : Str) (fs : List (Str × D)) (w : Wd)
  | bad
abbrev XM := Env → Wd → ResX
def PostX (K : PySem.W.Frag) (mg : Str → Option Value) (B : Bs) (A : Addr → Prop) (σ : L2.St) (W : WX) (Q : VK) : ResX → Prop
  | .ok d r w => ∀ v H', StOk K mg B A σ H' r → PenAt B.p B.lc A H' w → Rep (B.cf K mg) A H' v d → Q v H'
  | .exc n fs w => ∀ cls dd H' r, StOk K mg B A σ H' r → PenAt B.p B.lc A H' w → ErrR (B.cf K mg) A n fs cls dd H' → W cls dd σ H'
  | .bad => False
def tVX (K : PySem.W.Frag) (mg : Str → Option Value) (W : WX) (f : XM) : TE := fun σ H Q =>
  ∃ (B : Bs) (A : Addr → Prop) (r : Env) (w : Wd), StOk K mg B A σ H r ∧ PenAt B.p B.lc A H w ∧ PostX K mg B A σ W Q (f r w)
abbrev VX (X : Cx) (W : WX) (e : Expr) (f : XM) : Prop := PE X e (tVX X.K X.mg W f)
/-- the item at k, and the list without it -/
def popL (l : List D) (k : Int) : Option (D × List D) := if -(2 ^ 63) ≤ k ∧ k < 2 ^ 63 then (match seqIndex? k l.length with
  | some j => (l[j]?).map fun d => (d, l.eraseIdx j)
  | none => none) else none
theorem RepL.erase {c : Cf} {A : Addr → Prop} {H : Hp} : ∀ {vs : List V} {ds : List D} (j : Nat), RepL c A H vs ds → RepL c A H (vs.eraseIdx j) (ds.eraseIdx j)
  | _, _, _, .nil => .nil
  | _, _, 0, .cons _ r => r
  | _, _, j + 1, .cons g r => .cons g (RepL.erase j r)
def xPop (i : Nat) (fk : EM) : XM := fun r w => match ownL i r with
  | none => .bad
  | some l => match fk r w with
    | .ok (.int k) w' => match popL l k with
      | some (d, l') => .ok d (r.set i (some (.lst l', true))) w'
      | none => .bad
    | _ => .bad
def xPop0 (i : Nat) : XM := fun r w => match ownL i r with
  | none => .bad
  | some l => match l[l.length - 1]? with
    | some d => .ok d (r.set i (some (.lst l.dropLast, true))) w
    | none => .bad
section
variable {X : Cx} {W : WX} {e k : Expr} {fk : EM} {fx : XM} {pos p : Pos} {x : Str}
theorem vx_pop {i : Nat} {apos cpos : Pos} (hk : VE X rE W k fk) (hN : X.N[i]? = some x := by rfl) (hv : Vis X.env.scope x := by first | exact Or.inl rfl | exact Or.inr (Or.inl rfl) | exact Or.inr (Or.inr rfl)) (hd : (x == ("__debug__" : Str)) = false := by decide) (hcd : (x == ("__classdict__" : Str)) = false := by decide)
    (hbase : attributeBase (.Name x p) "pop" X.env (eval (.Name x p) X.env) = eval (.Name x p) X.env := by rfl)
    (hfew : ((backTo cpos (starEach [k] X.env)).all (fun x => !x.1) && (backToKw cpos (keywordEach [] X.env)).all (fun x => x.1.isSome)
      && decide (([k] : List Expr).length + ([] : List Keyword).length + (if ([] : List Keyword).isEmpty then 0 else 1) < 30)) = true := by rfl)
    (hline : (apos.endLine == cpos.line) = true := by rfl) (hs : starEach [k] X.env = (false, eval k X.env) :: starEach [] X.env := by rfl) (hplain : (backTo cpos (starEach [] X.env)).any (·.1) = false := by rfl) :
    VX X W (.Call (.Attribute (.Name x p) "pop" apos) [k] [] cpos) (xPop i fk) :=
  weak (pe_bm PySem.F.plainAttrs_list PySem.F.slot_list_pop PySem.F.type_list_pop mt_popAt (pe_var hN hv hd hcd) (pa_cons hk pa_nil hs) hbase hfew hline hs hplain) fun σ H Q ⟨B, A, r, w, hs, hp, q⟩ => by
  unfold xPop at q
  split at q
  · exact q.elim
  · rename_i l el
    have e0 := ownL_at el
    obtain ⟨a, h1, hA, h0, vs, g1, g2⟩ := hs.ow i _ e0
    have nap : a ≠ B.p := fun z => hs.np (z ▸ hA)
    refine ⟨.ref a, h1, .inl ⟨rfl, vs, SqL.of g1⟩, B, A, r, w, hs, hp, ?_⟩
    split at q
    · rename_i kk w' z
      rw [z]
      split at q
      · rename_i d l' ep
        intro v H1 k1 p1 r1
        cases r1
        unfold popL at ep
        split at ep
        · rename_i hk
          split at ep
          · rename_i j ej
            cases ed : l[j]? with
            | none => rw [ed] at ep; cases ep
            | some d' =>
              rw [ed] at ep; cases ep
              have g3 : H1 a = some (.lst vs) := k1.k a _ nap g1
              have g4 := g2.keepA (Kp.a k1)
              have hj : j < vs.length := by rw [g2.len]; exact (List.getElem?_eq_some_iff.mp ed).1
              obtain ⟨d2, f1, f2⟩ := g4.at (List.getElem?_eq_getElem hj)
              rw [ed] at f1; cases f1
              exact ⟨a, vs, kk, j, vs[j], rfl, rfl, g3, hk.1, hk.2, by rw [g2.len]; exact ej, List.getElem?_eq_getElem hj, q _ _ ((hs.keep k1).write e0 h1 ⟨_, upd_same, (g4.erase j).keepA (KpA.upd hA)⟩) (p1.write hA) (f2.keepA (KpA.upd hA))⟩
          · cases ep
        · cases ep
      · exact q.elim
    · exact q.elim
theorem RepL.dropLast {c : Cf} {A : Addr → Prop} {H : Hp} : ∀ {vs : List V} {ds : List D}, RepL c A H vs ds → RepL c A H vs.dropLast ds.dropLast
  | _, _, .nil => .nil
  | _, _, .cons _ .nil => .nil
  | _, _, .cons h (.cons g r) => .cons h (RepL.dropLast (.cons g r))
theorem vx_pop0 {i : Nat} {apos cpos : Pos} (hN : X.N[i]? = some x := by rfl) (hv : Vis X.env.scope x := by first | exact Or.inl rfl | exact Or.inr (Or.inl rfl) | exact Or.inr (Or.inr rfl)) (hd : (x == ("__debug__" : Str)) = false := by decide) (hcd : (x == ("__classdict__" : Str)) = false := by decide)
    (hbase : attributeBase (.Name x p) "pop" X.env (eval (.Name x p) X.env) = eval (.Name x p) X.env := by rfl) (hline : (apos.endLine == cpos.line) = true := by rfl) :
    VX X W (.Call (.Attribute (.Name x p) "pop" apos) [] [] cpos) (xPop0 i) :=
  weak (pe_bm0 PySem.F.plainAttrs_list PySem.F.slot_list_pop PySem.F.type_list_pop mt_pop (pe_var hN hv hd hcd) hbase hline) fun σ H Q ⟨B, A, r, w, hs, hp, q⟩ => by
  unfold xPop0 at q
  split at q
  · exact q.elim
  · rename_i l el
    have e0 := ownL_at el
    obtain ⟨a, h1, hA, h0, vs, g1, g2⟩ := hs.ow i _ e0
    split at q
    · rename_i d ed
      have hj : l.length - 1 < vs.length := by rw [g2.len]; exact (List.getElem?_eq_some_iff.mp ed).1
      obtain ⟨d2, f1, f2⟩ := g2.at (List.getElem?_eq_getElem hj)
      rw [ed] at f1; cases f1
      refine ⟨.ref a, h1, .inl ⟨rfl, vs, SqL.of g1⟩, a, vs, vs[l.length - 1], rfl, rfl, g1, by rw [g2.len]; exact List.getElem?_eq_getElem hj, q _ _ (hs.write e0 h1 ⟨_, upd_same, g2.dropLast.keepA (KpA.upd hA)⟩) (hp.write hA) (f2.keepA (KpA.upd hA))⟩
    · exact q.elim
/-! .. in statements -/
def ResX.en (x : ResX) (r : Env) (k : D → Env → Wd → SR) : SR := match x with
  | .ok d r w => k d r w
  | .exc n fs w => .bad
  | .bad => .bad
theorem PostX.en {K : PySem.W.Frag} {mg : Str → Option Value} {B : Bs} {A : Addr → Prop} {Z : Ends} {σ : L2.St} {r : Env} {x : ResX} {k : D → Env → Wd → SR} {Q : VK} (h : PostS K mg B W Z (x.en r k))
    (hk : ∀ d r w v H1, StOk K mg B A σ H1 r → PenAt B.p B.lc A H1 w → Rep (B.cf K mg) A H1 v d → PostS K mg B W Z (k d r w) → Q v H1) : PostX K mg B A σ W Q x := by
  cases x with
  | ok d r w => exact fun v H' hs p rv => hk d r w v H' hs p rv h
  | exc n fs w => exact h.elim
  | bad => exact h
def sDropX (fx : XM) : SM := fun r w => (fx r w).en r fun _ r' w' => .nx r' w'
theorem vs_dropX (he : VX X W e fx) (hs : swapsWith e none pos.line X.env = pure false := by rfl) : VS X W (.Expr e pos) (sDropX fx) := weakS (ps_expr he hs) fun D σ H ⟨B, A, r, w, hs, hp, q⟩ =>
  ⟨B, A, r, w, hs, hp, PostX.en q fun d r' w' v H1 hs1 p1 rv q => q σ H1 A hs1 p1⟩
def sToX (g : GM) (fx : XM) : SM := fun r w => (fx r w).en r fun d r' w' => match g d r' with
  | some r2 => .nx r2 w'
  | none => .bad
theorem vs_toX {tg : Expr} {S : List Nat} {g : GM} (he : VX X W e fx) (hg : VG X tg S g) (hs : swapsWithSole [tg] e pos.line X.env = pure false := by rfl) (hw : swappedStores [tg] e X.env = pure none := by rfl) (h1 : (assignEach [tg] X.env).map (·.2) = [assign tg X.env] := by rfl) : VS X W (.Assign [tg] e pos) (sToX g fx) :=
  weakS (ps_asg he hg hs hw h1) fun D σ H ⟨B, A, r, w, hs, hp, q⟩ => ⟨B, A, r, w, hs, hp, PostX.en q fun d r' w' v H1 hs1 p1 rv q => by
    split at q
    · rename_i r2 e1
      exact ⟨B, A, r', r2, d, hs1, rv, e1, fun σ' hs' _ => q σ' H1 A hs' p1⟩
    · exact q.elim⟩
def sRetX (fx : XM) : SM := fun r w => (fx r w).en r fun d _ w' => .rt d w'
theorem vs_retX (he : VX X W e fx) : VS X W (.Return (some e) pos) (sRetX fx) := weakS (ps_ret he) fun D σ H ⟨B, A, r, w, hs, hp, q⟩ =>
  ⟨B, A, r, w, hs, hp, PostX.en q fun d r' w' v H1 hs1 p1 rv q => q v H1 hs1.kp (p1.less fun a z => .inl (hs1.a0 a z)) (rv.to fun a z => .inl (hs1.a0 a z))⟩
def sAppX (i : Nat) (fx : XM) : SM := fun r w => (fx r w).en r fun d r' w' => match ownL i r, ownL i r' with
  | some _, some l => if l.length < sizeLine then .nx (r'.set i (some (.lst (l ++ [d]), true))) w' else .bad
  | _, _ => .bad
theorem vs_appX {i : Nat} {apos cpos : Pos} (he : VX X W e fx) (hN : X.N[i]? = some x := by rfl) (hv : Vis X.env.scope x := by first | exact Or.inl rfl | exact Or.inr (Or.inl rfl) | exact Or.inr (Or.inr rfl)) (hd : (x == ("__debug__" : Str)) = false := by decide) (hcd : (x == ("__classdict__" : Str)) = false := by decide)
    (hbase : attributeBase (.Name x p) "append" X.env (eval (.Name x p) X.env) = eval (.Name x p) X.env := by rfl)
    (hfew : ((backTo cpos (starEach [e] X.env)).all (fun x => !x.1) && (backToKw cpos (keywordEach [] X.env)).all (fun x => x.1.isSome)
      && decide (([e] : List Expr).length + ([] : List Keyword).length + (if ([] : List Keyword).isEmpty then 0 else 1) < 30)) = true := by rfl)
    (hline : (apos.endLine == cpos.line) = true := by rfl) (hs : starEach [e] X.env = (false, eval e X.env) :: starEach [] X.env := by rfl) (hplain : (backTo cpos (starEach [] X.env)).any (·.1) = false := by rfl)
    (hsw : swapsWith (.Call (.Attribute (.Name x p) "append" apos) [e] [] cpos) none pos.line X.env = pure false := by rfl) : VS X W (.Expr (.Call (.Attribute (.Name x p) "append" apos) [e] [] cpos) pos) (sAppX i fx) :=
  weakS (ps_expr (pe_bm PySem.F.plainAttrs_list PySem.F.slot_list_append PySem.F.type_list_append mt_append (pe_var hN hv hd hcd) (pa_cons he pa_nil hs) hbase hfew hline hs hplain) hsw) fun D σ H ⟨B, A, r, w, hs, hp, q⟩ => by
  have q : PostS X.K X.mg B W D ((fx r w).en r fun d r' w' => match ownL i r, ownL i r' with
    | some _, some l => if l.length < sizeLine then .nx (r'.set i (some (.lst (l ++ [d]), true))) w' else .bad
    | _, _ => .bad) := q
  cases z : ownL i r with
  | none =>
    exfalso
    rw [z] at q
    cases z2 : fx r w <;> (rw [z2] at q; exact q.elim)
  | some l0 =>
    obtain ⟨a, h1, hA, h0, vs0, g0, _⟩ := hs.ow i _ (ownL_at z)
    refine ⟨.ref a, h1, .inl ⟨rfl, vs0, SqL.of g0⟩, B, A, r, w, hs, hp, PostX.en q fun d r' w' v H1 hs1 p1 rv q => ?_⟩
    rw [z] at q
    cases z2 : ownL i r' with
    | none => rw [z2] at q; exact q.elim
    | some l =>
      rw [z2] at q
      simp only at q
      split at q
      · rename_i hl
        have e0 := ownL_at z2
        obtain ⟨a', f1, fA, f0, vs, g1, g2⟩ := hs1.ow i _ e0
        rw [h1] at f1; cases f1
        exact ⟨a, vs, v, rfl, rfl, g1, by rw [g2.len]; exact hl, q _ _ _ (hs1.write e0 h1 ⟨_, upd_same, (g2.snoc rv).keepA (KpA.upd fA)⟩) (p1.write fA)⟩
      · exact q.elim
end
end DL

set_option Elab.async false
set_option linter.all false
set_option maxRecDepth 100000
set_option maxHeartbeats 2000000
namespace DL
open PySem PySem.SeqAt PySem.Spec PyProof.Rows L2

/-! ### several except clauses, with and without a name -/
/-- the end of a suite that has bound slot i -/
def unb (i : Nat) (Z : Ends) : Ends := ⟨fun t G => Z.nx (t.set i none) G, Z.rt, fun t G => Z.bk (t.set i none) G, fun t G => Z.ct (t.set i none) G⟩
abbrev Clause := Value × Option Nat × (Addr → Value → Option Addr → TS)
def wAll (K : PySem.W.Frag) (Wo : WX) (Z : Ends) : List Clause → WX
  | [] => Wo
  | (c, none, ts) :: l => fun cls d σ H => ∃ b, PySem.W.exmOne K cls c = some b ∧ (b = true → ∀ x, H x = none → ts x cls d Z σ H) ∧ (b = false → wAll K Wo Z l cls d σ H)
  | (c, some i, ts) :: l => fun cls d σ H => ∃ b, PySem.W.exmOne K cls c = some b ∧ (b = true → ∀ x, H x = none → ts x cls d (unb i Z) (σ.set i (some (.ref x))) H) ∧ (b = false → wAll K Wo Z l cls d σ H)
inductive Hds (X : Cx) : List ExceptHandler → List Clause → Prop
  | nil : Hds X [] []
  | plain {x : Str} {c : Value} {ts : Addr → Value → Option Addr → TS} {st : Stmt} {sts : List Stmt} {np hp : Pos} {hs : List ExceptHandler} {l : List Clause} (nm : Names X x c)
      (su : ∀ (e : Addr) (eo : Obj) (cls : Value) (d : Option Addr) (pn : List (Addr × Obj)), Zc cls d eo → (∃ vs, eo.data = .fields vs) → PSs (X.suite e ((e, eo) :: pn)) (st :: sts) (ts e cls d)) (r : Hds X hs l) :
      Hds X (.ExceptHandler (some (.Name x np)) none (st :: sts) hp :: hs) ((c, none, ts) :: l)
  | named {x n : Str} {i : Nat} {c : Value} {ts : Addr → Value → Option Addr → TS} {st : Stmt} {sts : List Stmt} {np hp : Pos} {hs : List ExceptHandler} {l : List Clause} (nm : Names X x c) (nd : X.N.Nodup) (hi : X.N[i]? = some n) (hl : X.env.kindOf n = some .local)
      (su : ∀ (e : Addr) (eo : Obj) (cls : Value) (d : Option Addr) (pn : List (Addr × Obj)), Zc cls d eo → (∃ vs, eo.data = .fields vs) → PSs (X.suite e ((e, eo) :: pn)) (st :: sts) (ts e cls d)) (r : Hds X hs l) :
      Hds X (.ExceptHandler (some (.Name x np)) (some n) (st :: sts) hp :: hs) ((c, some i, ts) :: l)
section
variable {X : Cx} {body : List Stmt} {k0 : ExceptHandler} {ks : List ExceptHandler} {l : List Clause} {pos : Pos} {tb : WX → TS} {Wo : WX}
theorem ps_try_all (stk : X.stack = X.env :: X.outer) (fr : X.env.frame = some X.env.locals) (tk : Takes X Wo)
    (bd : ∀ (W : WX) (pn : List (Addr × Obj)) (xe : Value → Shared → Prop), Takes (X.tr pn xe) W → PassesOwn (model X.prog X.w) X.A X.env xe → PSs (X.tr pn xe) body (tb W))
    (hh : Hds X (k0 :: ks) l) : PS X (.Try body (k0 :: ks) [] [] pos) (fun Z σ H => tb (wAll X.K Wo Z l) Z σ H) := by
  constructor
  intro pins s σ H Z I h
  have ok := I.ok
  have frames : X.A.frames = some (X.env :: X.outer) := ok.frames.trans (by rw [stk])
  let xe' : Value → Shared → Prop := fun e s₁ => wpAny (model X.prog X.w) X.A (noteFrame e X.env)
    (fun _ s₂ => wpAny (model X.prog X.w) X.A (setFlight e none)
      (fun _ s₃ => wpAny (model X.prog X.w) X.A (handleBy e X.env (k0 :: ks)) (SP X pins Z) X.xe s₃) X.xe s₂) X.xe s₁
  have tk' : Takes (X.tr (X.pn ++ pins) xe') (wAll X.K Wo Z l) := by
    intro u s' raised
    obtain ⟨e, G, sI, pins', σ', H', cls, d, rfl, J', nb, up, sky, ne, eos, bare, wish⟩ := raised
    have J := J'.ofTry ok
    rw [show (X.tr (X.pn ++ pins) xe').stack = X.env :: X.outer from stk] at sky
    show wpAny (model X.prog X.w) X.A (noteFrame (.ref e) X.env) _ _ _
    refine Sky.land Zc.steady frames fr sky fun g3 fl3 up3 => ?_
    have J3 : Inv X pins σ' H' { s' with heap := g3 } := J.landed nb fl3.1 (up.trans up3) eos bare
    obtain ⟨eo, evs, at3, z3, d3⟩ := fl3.there
    have off : e ∉ frs (X.env :: X.outer) := fun mem => by
      obtain ⟨_, o2, at2, nf⟩ := fl3.2.2.1.mem mem
      rw [at3] at at2
      cases at2
      exact nf _ d3
    have offL : e ≠ X.env.locals := fun z => off (List.mem_filterMap.mpr ⟨X.env, List.mem_cons_self, by rw [fr, z]⟩)
    have offF : e ∉ X.fs := fun mem => by
      obtain ⟨v, mv, q⟩ := List.mem_filterMap.mp mem
      exact off (List.mem_filterMap.mpr ⟨v, List.mem_cons_of_mem _ mv, q⟩)
    have S3 := J3.suite at3 d3 ne offL offF
    have tyE : PySem.W.Looks (model X.prog X.w) g3 (typeOf (.ref e)) cls := fun A Q E s k q => wpAny_typeOf_ref (k _ _ at3) (by rw [z3.1]; exact q)
    have asks : ∀ {x : Str} {np : Pos} {c : Value} {Q E : Value → Shared → Prop}, Names X x c → Q c { s' with heap := g3 } →
        wpAny (model X.prog X.w) (X.A.mark (some (.ref e))) (eval (.Name x np) X.env) Q E { s' with heap := g3 } := by
      intro x np c Q E ⟨gl, db, by_⟩ q
      rcases by_ with m | ⟨m, bt, nn⟩
      · exact ld_glob (X := X.suite e ((e, eo) :: (X.pn ++ pins))) S3 gl m q db
      · exact ld_blt (X := X.suite e ((e, eo) :: (X.pn ++ pins))) S3 gl m bt q nn db
    have go : ∀ {hs : List ExceptHandler} {cl : List Clause}, Hds X hs cl → wAll X.K Wo Z cl cls d σ' H' → wpAny (model X.prog X.w) X.A (handleBy (.ref e) X.env hs) (SP X pins Z) X.xe { s' with heap := g3 } := by
      intro hs cl hk
      induction hk with
      | nil =>
        intro wish
        refine wpAny_handleBy_nil ?_
        obtain ⟨_, _, _, eo', evs', T, oT, ts', at', _, dt, v1, _⟩ := id fl3
        have last : wpAny (model X.prog X.w) X.A (setFlight (.ref e) X.env.frame)
            (fun _ s4 => wpAny (model X.prog X.w) X.A (throw (.ref e) : Sem Flow) (SP X pins Z) X.xe s4) X.xe { s' with heap := g3 } := by
          rw [fr]
          refine HandSPX.setFlight_upZ fl3 fun g4 hh4 up4 => wpAny_throw (tk _ _ ?_)
          exact ⟨e, G, sI, pins, σ', H', cls, d, rfl, J, nb, (up.trans up3).trans up4, .inr (.inr (by rw [stk]; exact hh4)), ne, eos, bare, wish⟩
        unfold PySem.passOn
        refine wpAny_bind (wpAny_field at' dt v1 ?_)
        rw [if_neg (by simp : ¬ ((Value.ref T == Value.none) = true))]
        first | exact wpAny_bind (wpAny_pure (wpAny_bind last)) | exact wpAny_bind last
      | @plain x c ts st sts np hp hs2 l2 nm su r ih =>
        intro ⟨b, hb, yes, no⟩
        refine wpAny_handleBy_cons (codeAny_handlers_test (asks nm ((PySem.W.exm_one (M := model X.prog X.w) J3.kIn tyE hb).here ?_))) (fun q => by cases q)
        cases b with
        | false => exact ih (no rfl)
        | true =>
          refine codeAny_handlers_suite (HandSPX.lands_againZ fl3 fun g4 fl4 up4 => ?_)
          have J4 : Inv X pins σ' H' { s' with heap := g4 } := J.landed nb fl4.1 ((up.trans up3).trans up4) eos bare
          obtain ⟨eo4, evs4, at4, z4, d4⟩ := fl4.there
          have S4 := J4.suite at4 d4 ne offL offF
          refine wpAny_mono ((su e eo4 cls d (X.pn ++ pins) z4 ⟨_, d4⟩).run [] _ _ H' _ S4 (yes rfl e ne)) (fun f s6 sp => ?_) (fun _ _ z => False.elim z)
          cases f with
          | ret u => obtain ⟨v6, t6, G6, S6, r6, q6⟩ := sp; exact ⟨v6, t6, G6, S6.unsuite ok, r6, q6⟩
          | next => obtain ⟨t6, G6, S6, q6⟩ := sp; exact ⟨t6, G6, S6.unsuite ok, q6⟩
          | brk => obtain ⟨t6, G6, S6, q6⟩ := sp; exact ⟨t6, G6, S6.unsuite ok, q6⟩
          | cont => obtain ⟨t6, G6, S6, q6⟩ := sp; exact ⟨t6, G6, S6.unsuite ok, q6⟩
      | @named x n i c ts st sts np hp hs2 l2 nm nd hi hl su r ih =>
        intro ⟨b, hb, yes, no⟩
        refine wpAny_handleBy_cons (codeAny_handlers_test (asks nm ((PySem.W.exm_one (M := model X.prog X.w) J3.kIn tyE hb).here ?_))) (fun q => by cases q)
        cases b with
        | false => exact ih (no rfl)
        | true =>
          refine codeAny_handlers_suite_as (HandSPX.lands_againZ fl3 fun g4 fl4 up4 => ?_)
          have J4 : Inv X pins σ' H' { s' with heap := g4 } := J.landed nb fl4.1 ((up.trans up3).trans up4) eos bare
          obtain ⟨eo4, evs4, at4, z4, d4⟩ := fl4.there
          have S4 := J4.suite at4 d4 ne offL offF
          refine store_ok (X := X.suite e ((e, eo4) :: (X.pn ++ pins))) (v := .ref e) S4 nd hi (.inl hl) rfl (fun s5 S5 => ?_) (.inr hl)
          refine wpAny_mono ((su e eo4 cls d (X.pn ++ pins) z4 ⟨_, d4⟩).run [] s5 _ H' _ S5 (yes rfl e ne)) (fun f s6 sp => ?_) (fun _ _ z => False.elim z)
          have clear : ∀ {t6 : L2.St} {G6 : Hp} {Q : Shared → Prop}, Inv (X.suite e ((e, eo4) :: (X.pn ++ pins))) [] t6 G6 s6 → (∀ s7, Inv X pins (t6.set i none) G6 s7 → Q s7) →
              wpAny (model X.prog X.w) X.A (do bindName X.env n .none; unbindBehindTheSuite X.env n hp) (fun _ s7 => Q s7) X.xe s6 :=
            fun {t6 G6 Q} S6 q => gone_ok (S6.unsuite ok) nd hi hl q
          cases f with
          | ret u => obtain ⟨v6, t6, G6, S6, r6, q6⟩ := sp; exact clear S6 fun s7 J7 => ⟨v6, _, G6, J7, r6, q6⟩
          | next => obtain ⟨t6, G6, S6, q6⟩ := sp; exact clear S6 fun s7 J7 => ⟨_, G6, J7, q6⟩
          | brk => obtain ⟨t6, G6, S6, q6⟩ := sp; exact clear S6 fun s7 J7 => ⟨_, G6, J7, q6⟩
          | cont => obtain ⟨t6, G6, S6, q6⟩ := sp; exact clear S6 fun s7 J7 => ⟨_, G6, J7, q6⟩
    exact go hh wish
  refine wpAny_Try_except (wpAny_mono ((bd (wAll X.K Wo Z l) (X.pn ++ pins) xe' tk' PassesOwn.looking).run [] s σ H Z (I.toTry _) h) (fun f s1 sp => ?_) (fun e s1 he => he))
  cases f with
  | ret u => obtain ⟨v, t, G, J, r, q⟩ := sp; exact ⟨v, t, G, J.ofTry ok, r, q⟩
  | next => obtain ⟨t, G, J, q⟩ := sp; exact wpAny_execs_nil ⟨t, G, J.ofTry ok, q⟩
  | brk => obtain ⟨t, G, J, q⟩ := sp; exact ⟨t, G, J.ofTry ok, q⟩
  | cont => obtain ⟨t, G, J, q⟩ := sp; exact ⟨t, G, J.ofTry ok, q⟩
end
end DL

set_option Elab.async false
set_option linter.all false
set_option maxRecDepth 100000
set_option maxHeartbeats 2000000
namespace DL
open PySem PySem.SeqAt PySem.Spec PyProof.Rows L2

/-! ### the suite of an except clause: its error's class and fields are at hand -/
def slotAt (io : Option Nat) (σ : L2.St) (a : Addr) : Prop := ∀ i, io = some i → σ[i]? = some (some (.ref a))
abbrev FM := Str → List (Str × D) → EM
abbrev W0 : WX := fun _ _ _ _ => False
def tX (K : PySem.W.Frag) (mg : Str → Option Value) (io : Option Nat) (a : Addr) (cls : Value) (dd : Option Addr) (R : RK) (f : FM) : TE := fun σ H Q =>
  ∃ (B : Bs) (A : Addr → Prop) (r : Env) (w : Wd) (n : Str) (fs : List (Str × D)), StOk K mg B A σ H r ∧ PenAt B.p B.lc A H w ∧ slotAt io σ a ∧ ErrR (B.cf K mg) A n fs cls dd H ∧ Post (B.cf K mg) A σ H R W0 Q (f n fs r w)
def tXA (K : PySem.W.Frag) (mg : Str → Option Value) (io : Option Nat) (a : Addr) (cls : Value) (dd : Option Addr) (R : RK) (f : Str → List (Str × D) → IM) : TA := fun σ H Q =>
  ∃ (B : Bs) (A : Addr → Prop) (r : Env) (w : Wd) (n : Str) (fs : List (Str × D)), StOk K mg B A σ H r ∧ PenAt B.p B.lc A H w ∧ slotAt io σ a ∧ ErrR (B.cf K mg) A n fs cls dd H ∧ PostA R (B.cf K mg) A σ H W0 Q (f n fs r w)
def tXS (K : PySem.W.Frag) (mg : Str → Option Value) (io : Option Nat) (a : Addr) (cls : Value) (dd : Option Addr) (f : Str → List (Str × D) → SM) : TS := fun Z σ H =>
  ∃ (B : Bs) (A : Addr → Prop) (r : Env) (w : Wd) (n : Str) (fs : List (Str × D)), StOk K mg B A σ H r ∧ PenAt B.p B.lc A H w ∧ slotAt io σ a ∧ ErrR (B.cf K mg) A n fs cls dd H ∧ PostS K mg B W0 Z (f n fs r w)
theorem ErrR.keep {c : Cf} {A : Addr → Prop} {H H' : Hp} {n : Str} {fs : List (Str × D)} {cls : Value} {dd : Option Addr} (k : Kp c.p H H') (h : ErrR c A n fs cls dd H) : ErrR c A n fs cls dd H' := by
  obtain ⟨C, e1, e2, e3⟩ := h
  refine ⟨C, e1, e2, ?_⟩
  cases dd with
  | none => exact e3
  | some x =>
    obtain ⟨fvs, h1, h2, h3, h4, h5⟩ := e3
    exact ⟨fvs, k.k _ _ h2 h1, h2, h3, h4, h5.keepA k.a⟩
theorem ErrR.less {c : Cf} {A A' : Addr → Prop} {H : Hp} {n : Str} {fs : List (Str × D)} {cls : Value} {dd : Option Addr} (k : ∀ a, A' a → A a ∨ H a = none) (h : ErrR c A n fs cls dd H) : ErrR c A' n fs cls dd H := by
  obtain ⟨C, e1, e2, e3⟩ := h
  refine ⟨C, e1, e2, ?_⟩
  cases dd with
  | none => exact e3
  | some x =>
    obtain ⟨fvs, h1, h2, h3, h4, h5⟩ := e3
    exact ⟨fvs, h1, h2, fun z => (k _ z).elim h3 fun e => (by rw [h1] at e; cases e), h4, h5.to k⟩
def xP (f : EM) : FM := fun _ _ => f
/-- e.f, e an error of the class named m -/
def xF (m f : Str) : FM := fun n fs _ w => if n = m then Res.of (fs.lookup f) w else .bad
theorem lookup_map {α β : Type} {f : Str} : ∀ {l : List (Str × α)} {l2 : List (Str × β)} {y : β}, l.map (·.1) = l2.map (·.1) → l2.lookup f = some y → ∃ (i : Nat) (x : α), l.lookup f = some x ∧ (l.map (·.2))[i]? = some x ∧ (l2.map (·.2))[i]? = some y
  | [], [], _, _, h => by cases h
  | (a, x) :: l, (b, z) :: l2, y, e, h => by
    simp only [List.map_cons, List.cons.injEq] at e
    obtain ⟨e1, e2⟩ := e
    subst e1
    rw [List.lookup_cons] at h ⊢
    by_cases q : (f == a) = true
    · rw [q] at h ⊢
      cases h
      exact ⟨0, x, rfl, rfl, rfl⟩
    · have q : (f == a) = false := by simpa using q
      rw [q] at h ⊢
      obtain ⟨i, x', h1, h2, h3⟩ := lookup_map e2 h
      exact ⟨i + 1, x', h1, h2, h3⟩
section
variable {X : Cx} {io : Option Nat} {a : Addr} {oe : Obj} {cls : Value} {dd : Option Addr} {pn : List (Addr × Obj)} {R : RK} {e : Expr} {es : List Expr} {f : FM} {fa : Str → List (Str × D) → IM} {pos : Pos}
abbrev EX (X : Cx) (io : Option Nat) (a : Addr) (oe : Obj) (cls : Value) (dd : Option Addr) (pn : List (Addr × Obj)) (R : RK) (e : Expr) (f : FM) : Prop := PE (X.suite a ((a, oe) :: pn)) e (tX X.K X.mg io a cls dd R f)
abbrev EXA (X : Cx) (io : Option Nat) (a : Addr) (oe : Obj) (cls : Value) (dd : Option Addr) (pn : List (Addr × Obj)) (R : RK) (es : List Expr) (f : Str → List (Str × D) → IM) : Prop := PA (X.suite a ((a, oe) :: pn)) es (tXA X.K X.mg io a cls dd R f)
abbrev EXS (X : Cx) (io : Option Nat) (a : Addr) (oe : Obj) (cls : Value) (dd : Option Addr) (pn : List (Addr × Obj)) (ss : List Stmt) (f : Str → List (Str × D) → SM) : Prop := PSs (X.suite a ((a, oe) :: pn)) ss (tXS X.K X.mg io a cls dd f)
theorem xe_p {g : EM} (h : VE (X.suite a ((a, oe) :: pn)) R W0 e g) : EX X io a oe cls dd pn R e (xP g) := weak h fun σ H Q ⟨B, A, r, w, n, fs, hs, hp, sl, er, q⟩ => ⟨B, A, r, w, hs, hp, q⟩
theorem xe_o (h : EX X io a oe cls dd pn rE e f) : EX X io a oe cls dd pn rO e f := weak h fun σ H Q ⟨B, A, r, w, n, fs, hs, hp, sl, er, q⟩ => ⟨B, A, r, w, n, fs, hs, hp, sl, er, by
  cases z : f n fs r w with
  | ok d w' => rw [z] at q; exact fun v H' k p r => q v H' k p (.inl r)
  | exc n fs w' => rw [z] at q; exact q
  | bad => rw [z] at q; exact q⟩
theorem xe_f (h : EX X io a oe cls dd pn rF e f) : EX X io a oe cls dd pn rE e f := weak h fun σ H Q ⟨B, A, r, w, n, fs, hs, hp, sl, er, q⟩ => ⟨B, A, r, w, n, fs, hs, hp, sl, er, by
  cases z : f n fs r w with
  | ok d w' => rw [z] at q; exact fun v H' k p ⟨a, e, n, o⟩ => by subst e; exact q _ H' k p ((o.to fun b z => .inl (.inl z)).rep (hs.fresh n).1 (hs.fresh n).2)
  | exc n fs w' => rw [z] at q; exact q
  | bad => rw [z] at q; exact q⟩
theorem xe_fld {i : Nat} {m g x : Str} {C : Addr} {p : Pos} (T : XfC X.K C) (hm : X.mg m = some (.ref C)) (hno : PySem.W.findIn X.K (.ref C) g = some none) (hz : Zc cls dd oe) (hf : ∃ vs, oe.data = .fields vs)
    (hN : X.N[i]? = some x := by rfl) (hv : Vis X.env.scope x := by first | exact Or.inl rfl | exact Or.inr (Or.inl rfl) | exact Or.inr (Or.inr rfl)) (hd : (x == ("__debug__" : Str)) = false := by decide) (hcd : (x == ("__classdict__" : Str)) = false := by decide)
    (hb : attributeBase (.Name x p) g X.env (eval (.Name x p) X.env) = eval (.Name x p) X.env := by rfl) : EX X (some i) a oe cls dd pn rE (.Attribute (.Name x p) g pos) (xF m g) :=
  weak (pe_xf (X := X) T hno hz hf (pe_var (X := X.suite a ((a, oe) :: pn)) hN hv hd hcd) hb) fun σ H Q ⟨B, A, r, w, n, fs, hs, hp, sl, er, q⟩ => by
    unfold xF at q
    split at q
    · rename_i e
      subst e
      unfold Res.of at q
      split at q
      · rename_i d ed
        obtain ⟨C', e1, e2, e3⟩ := er
        have e2 : X.mg n = some (.ref C') := e2
        rw [hm] at e2; cases e2
        cases dd with
        | none => have e3 : fs = [] := e3; subst e3; cases ed
        | some x =>
          obtain ⟨fvs, h1, h2, h3, h4, h5⟩ := e3
          obtain ⟨j, y, y1, y2, y3⟩ := lookup_map h4 ed
          obtain ⟨d', d1, d2⟩ := h5.at y2
          rw [y3] at d1; cases d1
          exact ⟨_, sl i rfl, rfl, e1, x, fvs, y, rfl, h1, y1, q y H .refl hp d2⟩
      · exact q.elim
    · exact q.elim
theorem xa_nil : EXA X io a oe cls dd pn R [] (fun _ _ => aNil) := weakA pa_nil fun σ H Q ⟨B, A, r, w, n, fs, hs, hp, sl, er, q⟩ => q [] H .refl hp .nil
theorem xa_cons [RKs R] (he : EX X io a oe cls dd pn R e f) (ha : EXA X io a oe cls dd pn R es fa) (hs : starEach (e :: es) X.env = (false, eval e X.env) :: starEach es X.env := by rfl) : EXA X io a oe cls dd pn R (e :: es) (fun n fs => aCons (f n fs) (fa n fs)) :=
  weakA (pa_cons (X := X.suite a ((a, oe) :: pn)) he ha hs) fun σ H Q ⟨B, A, r, w, n, fs, hs, hp, sl, er, q⟩ => by
  refine ⟨B, A, r, w, n, fs, hs, hp, sl, er, ?_⟩
  have q : PostA R (B.cf X.K X.mg) A σ H W0 Q (aCons (f n fs) (fa n fs) r w) := q
  unfold aCons at q
  cases z : f n fs r w with
  | bad => rw [z] at q; exact q
  | exc n fs w1 => rw [z] at q; exact q
  | ok d w1 =>
    rw [z] at q
    intro v H1 k1 p1 r1
    refine ⟨B, A, r, w1, n, fs, hs.keep k1, p1, sl, er.keep k1, ?_⟩
    have q : PostA R (B.cf X.K X.mg) A σ H W0 Q ((fa n fs r w1).mapA (d :: ·)) := q
    cases z2 : fa n fs r w1 with
    | bad => rw [z2] at q; exact q
    | exc n' fs' w2 => rw [z2] at q; exact fun cls dd H' k p e => q cls dd H' (k1.trans k) p e
    | ok ds w2 =>
      rw [z2] at q
      exact fun vs H2 k2 p2 r2 => q (v :: vs) H2 (k1.trans k2) p2 (.cons (RKs.keep hs.np k2 r1) r2)

theorem xe_tup {k : Nat} (ha : EXA X io a oe cls dd pn rE es fa) : EX X io a oe cls dd pn rE (.Tuple es k pos) (fun n fs => dTup (fa n fs)) := weak (pe_tup (X := X.suite a ((a, oe) :: pn)) ha) fun σ H Q ⟨B, A, r, w, n, fs, hs, hp, sl, er, q⟩ => by
  refine ⟨B, A, r, w, n, fs, hs, hp, sl, er, ?_⟩
  have q : Post (B.cf X.K X.mg) A σ H rE W0 Q ((fa n fs r w).toR fun l w' => if l.length ≤ sizeLine then .ok (.tup l) w' else .bad) := q
  cases z : fa n fs r w with
  | bad => rw [z] at q; exact q
  | exc n fs w1 => rw [z] at q; exact q
  | ok ds w1 =>
    rw [z] at q
    unfold ResI.toR at q
    simp only at q
    split at q
    · rename_i hl
      intro vs H1 k1 p1 r1
      have r2 := r1.e
      refine ⟨by rw [r2.len]; exact hl, fun t ht => ?_⟩
      have hf := (hs.keep k1).fresh ht
      exact q _ _ (k1.trans (.of (same_new ht))) (p1.keep (same_new ht)) (.tup upd_same hf.1 hf.2 (r2.keepA (Kp.a (.of (same_new ht)))))
    · exact q.elim
theorem xf_lst (ha : EXA X io a oe cls dd pn rE es fa) : EX X io a oe cls dd pn rF (.List es pos) (fun n fs => dLst (fa n fs)) := weak (pe_lst (X := X.suite a ((a, oe) :: pn)) ha) fun σ H Q ⟨B, A, r, w, n, fs, hs, hp, sl, er, q⟩ => by
  refine ⟨B, A, r, w, n, fs, hs, hp, sl, er, ?_⟩
  have q : Post (B.cf X.K X.mg) A σ H rF W0 Q ((fa n fs r w).toR fun l w' => if l.length ≤ sizeLine then .ok (.lst l) w' else .bad) := q
  cases z : fa n fs r w with
  | bad => rw [z] at q; exact q
  | exc n fs w1 => rw [z] at q; exact q
  | ok ds w1 =>
    rw [z] at q
    unfold ResI.toR at q
    simp only at q
    split at q
    · rename_i hl
      intro vs H1 k1 p1 r1
      have r2 := r1.e
      refine ⟨by rw [r2.len]; exact hl, fun t ht => ?_⟩
      exact q _ _ (k1.trans (.of (same_new ht))) (p1.keep (same_new ht)) ⟨t, rfl, k1.free ht, vs, upd_same, (r2.to fun b z => z.elim .inl fun e => .inr (by rw [e]; exact ht)).keepA (Kp.a (.of (same_new ht)))⟩
    · exact q.elim
/-! statements of a suite -/
theorem xs_set {i : Nat} {x : Str} {pos' : Pos} (caps : List Nat) (hN : X.N.Nodup) (he : EX X io a oe cls dd pn rE e f) (hi : X.N[i]? = some x := by rfl) (hx : Loc X.env.scope x := by first | exact Or.inl rfl | exact Or.inr rfl) (hf : X.fn x = true ∨ X.env.scope.names.lookup x = some .local := by first | exact .inl rfl | exact .inr rfl)
    (hs : swapsWith e (some (.Name x pos')) pos.line X.env = pure false := by rfl) : EXS X io a oe cls dd pn [.Assign [.Name x pos'] e pos] (fun n fs => sSet i caps (f n fs)) :=
  weakSs (pss_one (ps_asg (X := X.suite a ((a, oe) :: pn)) he (pg_name hN hi hx hf) hs)) fun Z σ H ⟨B, A, r, w, n, fs, hs, hp, sl, er, q⟩ => by
  have hs1 := hs.rel (these caps)
  exact ⟨B, _, _, w, n, fs, hs1, hp.less fun a z => .inl z.1, sl, er.less fun a z => .inl z.1, PostS.en hs1 q fun d w' v H1 k p rv q => q _ H1 _ ((hs1.keep k).set rv) p⟩
theorem xs_ret (he : EX X io a oe cls dd pn rE e f) : EXS X io a oe cls dd pn [.Return (some e) pos] (fun n fs => sRet (f n fs)) :=
  weakSs (pss_one (ps_ret (X := X.suite a ((a, oe) :: pn)) he)) fun Z σ H ⟨B, A, r, w, n, fs, hs, hp, sl, er, q⟩ => by
  have hs1 := hs.rel all_
  exact ⟨B, _, _, w, n, fs, hs1, hp.less fun a z => .inl z.1, sl, er.less fun a z => .inl z.1, PostS.en hs1 q fun d w' v H1 k p rv q => q _ H1 ((hs1.keep k).kp) (p.less fun a z => .inl (hs1.a0 a z)) (rv.to fun a z => .inl (hs1.a0 a z))⟩
end

/-! ### try, by data -/
/-- which classes of errors a clause takes; its name's slot; its suite -/
abbrev DCl := List (Str × Bool) × Option Nat × (Str → List (Str × D) → SM)
def clr (io : Option Nat) (r : Env) : Env := match io with
  | some i => r.set i none
  | none => r
def SR.un (io : Option Nat) : SR → SR
  | .nx r w => .nx (clr io r) w
  | .bk r w => .bk (clr io r) w
  | .ct r w => .ct (clr io r) w
  | .rt d w => .rt d w
  | .exc _ _ _ _ => .bad
  | .bad => .bad
def inR (io : Option Nat) (r : Env) : Bool := match io with
  | some i => decide (i < r.length)
  | none => true
def handle (n : Str) (fs : List (Str × D)) : List DCl → Env → Wd → SR
  | [], r, w => .exc n fs r w
  | (sb, io, g) :: l, r, w => match sb.lookup n with
    | some true => if inR io r = true then (g n fs (clr io r) w).un io else .bad
    | some false => handle n fs l r w
    | none => .bad
def sTry (fb : SM) (l : List DCl) : SM := fun r w => match fb r w with
  | .exc n fs r' w' => handle n fs l r' w'
  | x => x
/-- the clauses of the text are those of the data -/
inductive HD (X : Cx) : List ExceptHandler → List DCl → Prop
  | nil : HD X [] []
  | plain {x : Str} {c : Value} {sb : List (Str × Bool)} {g : Str → List (Str × D) → SM} {st : Stmt} {sts : List Stmt} {np hp : Pos} {hs : List ExceptHandler} {l : List DCl} (nm : Names X x c) (hb : ∀ n b, (n, b) ∈ sb → ∀ C, X.mg n = some (.ref C) → PySem.W.exmOne X.K (.ref C) c = some b)
      (su : ∀ (e : Addr) (eo : Obj) (cls : Value) (d : Option Addr) (pn : List (Addr × Obj)), Zc cls d eo → (∃ vs, eo.data = .fields vs) → EXS X none e eo cls d pn (st :: sts) g) (r : HD X hs l) :
      HD X (.ExceptHandler (some (.Name x np)) none (st :: sts) hp :: hs) ((sb, none, g) :: l)
  | named {x n : Str} {i : Nat} {c : Value} {sb : List (Str × Bool)} {g : Str → List (Str × D) → SM} {st : Stmt} {sts : List Stmt} {np hp : Pos} {hs : List ExceptHandler} {l : List DCl} (nm : Names X x c) (hb : ∀ n b, (n, b) ∈ sb → ∀ C, X.mg n = some (.ref C) → PySem.W.exmOne X.K (.ref C) c = some b)
      (nd : X.N.Nodup) (hi : X.N[i]? = some n) (hl : X.env.kindOf n = some .local)
      (su : ∀ (e : Addr) (eo : Obj) (cls : Value) (d : Option Addr) (pn : List (Addr × Obj)), Zc cls d eo → (∃ vs, eo.data = .fields vs) → EXS X (some i) e eo cls d pn (st :: sts) g) (r : HD X hs l) :
      HD X (.ExceptHandler (some (.Name x np)) (some n) (st :: sts) hp :: hs) ((sb, some i, g) :: l)
theorem StOk.gone {K : PySem.W.Frag} {mg : Str → Option Value} {B : Bs} {A : Addr → Prop} {σ : L2.St} {H : Hp} {r : Env} (h : StOk K mg B A σ H r) (i : Nat) (v : Option V) : StOk K mg B A (σ.set i v) H (r.set i none) where
  kp := h.kp
  tp := h.tp
  tr := h.tr
  a0 := h.a0
  t0 := h.t0
  ax := h.ax
  np := h.np
  pl := fun j e q => by
    rcases set_at q with ⟨rfl, z⟩ | ⟨n, z⟩
    · cases z
    · obtain ⟨u, h1, h2⟩ := h.pl j e z
      exact ⟨u, by rw [List.getElem?_set_ne (Ne.symm n)]; exact h1, h2⟩
  ow := fun j e q => by
    rcases set_at q with ⟨rfl, z⟩ | ⟨n, z⟩
    · cases z
    · obtain ⟨a, h1, h2⟩ := h.ow j e z
      exact ⟨a, by rw [List.getElem?_set_ne (Ne.symm n)]; exact h1, h2⟩
  ne := fun j k d1 d2 a q1 q2 s1 s2 => by
    rcases set_at q1 with ⟨rfl, z⟩ | ⟨n, z⟩
    · cases z
    · rcases set_at q2 with ⟨rfl, z2⟩ | ⟨n2, z2⟩
      · cases z2
      · rw [List.getElem?_set_ne (Ne.symm n)] at s1
        rw [List.getElem?_set_ne (Ne.symm n2)] at s2
        exact h.ne j k d1 d2 a z z2 s1 s2
  ln := by rw [List.length_set, List.length_set]; exact h.ln
theorem lookup_in {α : Type} {n : Str} {b : α} : ∀ {l : List (Str × α)}, l.lookup n = some b → (n, b) ∈ l
  | [], h => by cases h
  | (m, c) :: l, h => by
    rw [List.lookup_cons] at h
    by_cases q : (n == m) = true
    · rw [q] at h; cases h
      rw [eq_of_beq q]; exact List.mem_cons_self
    · have q : (n == m) = false := by simpa using q
      rw [q] at h
      exact List.mem_cons_of_mem _ (lookup_in h)
section
variable {X : Cx} {body : List Stmt} {k0 : ExceptHandler} {ks : List ExceptHandler} {l : List DCl} {pos : Pos} {fb : SM} {Wo : WX}
def asCl (K : PySem.W.Frag) (mg : Str → Option Value) (c : Value) (x : DCl) : Clause := (c, x.2.1, fun a cls d => tXS K mg x.2.1 a cls d x.2.2)
theorem vs_try (stk : X.stack = X.env :: X.outer) (fr : X.env.frame = some X.env.locals) (tk : Takes X Wo)
    (bd : ∀ (W : WX) (pn : List (Addr × Obj)) (xe : Value → Shared → Prop), Takes (X.tr pn xe) W → PassesOwn (model X.prog X.w) X.A X.env xe → VSs (X.tr pn xe) W body fb)
    (hh : HD X (k0 :: ks) l) : VS X Wo (.Try body (k0 :: ks) [] [] pos) (sTry fb l) := by
  have key : ∀ {hs : List ExceptHandler} {l : List DCl}, HD X hs l → ∃ cl : List Clause, Hds X hs cl ∧ ∀ (B : Bs) (Z : Ends) (n : Str) (fs : List (Str × D)) (r : Env) (w : Wd) (cls : Value) (dd : Option Addr) (σ : L2.St) (H : Hp) (A : Addr → Prop),
      StOk X.K X.mg B A σ H r → PenAt B.p B.lc A H w → ErrR (B.cf X.K X.mg) A n fs cls dd H → PostS X.K X.mg B Wo Z (handle n fs l r w) → wAll X.K Wo Z cl cls dd σ H := by
    intro hs l h
    induction h with
    | nil => exact ⟨[], .nil, fun B Z n fs r w cls dd σ H A hs hp er q => q cls dd σ H A hs hp er⟩
    | @plain x c sb g st sts np hp' hs2 l2 nm hb su r ih =>
      obtain ⟨cl, h1, h2⟩ := ih
      refine ⟨(c, none, fun a cls d => tXS X.K X.mg none a cls d g) :: cl, .plain nm (fun e eo cls d pn z f => su e eo cls d pn z f) h1, fun B Z n fs r w cls dd σ H A hs hp er q => ?_⟩
      have er' := er
      obtain ⟨C, e1, e2, e3⟩ := er
      unfold handle at q
      cases z : sb.lookup n with
      | none => rw [z] at q; exact q.elim
      | some b =>
        rw [z] at q
        refine ⟨b, by rw [e1]; exact hb n b (lookup_in z) C e2, fun e => ?_, fun e => ?_⟩
        · subst e
          refine fun x hx => ⟨B, A, r, w, n, fs, hs, hp, (fun i e => by cases e), er', ?_⟩
          simp only at q
          have q : PostS X.K X.mg B Wo Z ((g n fs r w).un none) := q
          cases z2 : g n fs r w with
          | nx r' w' => rw [z2] at q; exact q
          | bk r' w' => rw [z2] at q; exact q
          | ct r' w' => rw [z2] at q; exact q
          | rt d w' => rw [z2] at q; exact q
          | exc n' fs' r' w' => rw [z2] at q; exact q.elim
          | bad => rw [z2] at q; exact q
        · subst e
          exact h2 B Z n fs r w cls dd σ H A hs hp er' q
    | @named x nn i c sb g st sts np hp' hs2 l2 nm hb nd hi hl su r ih =>
      obtain ⟨cl, h1, h2⟩ := ih
      refine ⟨(c, some i, fun a cls d => tXS X.K X.mg (some i) a cls d g) :: cl, .named nm nd hi hl (fun e eo cls d pn z f => su e eo cls d pn z f) h1, fun B Z n fs r w cls dd σ H A hs hp er q => ?_⟩
      have er' := er
      obtain ⟨C, e1, e2, e3⟩ := er
      unfold handle at q
      cases z : sb.lookup n with
      | none => rw [z] at q; exact q.elim
      | some b =>
        rw [z] at q
        refine ⟨b, by rw [e1]; exact hb n b (lookup_in z) C e2, fun e => ?_, fun e => ?_⟩
        · subst e
          refine fun x hx => ⟨B, A, r.set i none, w, n, fs, hs.gone i _, hp, fun j e => ?_, er', ?_⟩
          · cases e
            simp only at q
            split at q
            · rename_i hlt
              rw [List.getElem?_set_self]
              rw [← hs.ln]; exact of_decide_eq_true hlt
            · exact q.elim
          · simp only at q
            split at q
            rotate_left
            · exact q.elim
            have q : PostS X.K X.mg B Wo Z ((g n fs (r.set i none) w).un (some i)) := q
            cases z2 : g n fs (r.set i none) w with
            | nx r' w' => rw [z2] at q; exact fun σ' H' A' hs' hp' => q _ H' A' (hs'.gone i none) hp'
            | bk r' w' => rw [z2] at q; exact fun σ' H' A' hs' hp' => q _ H' A' (hs'.gone i none) hp'
            | ct r' w' => rw [z2] at q; exact fun σ' H' A' hs' hp' => q _ H' A' (hs'.gone i none) hp'
            | rt d w' => rw [z2] at q; exact q
            | exc n' fs' r' w' => rw [z2] at q; exact q.elim
            | bad => rw [z2] at q; exact q
        · subst e
          exact h2 B Z n fs r w cls dd σ H A hs hp er' q
  obtain ⟨cl, h1, h2⟩ := key hh
  refine weakS (ps_try_all (tb := fun W => tVS X.K X.mg W fb) stk fr tk bd h1) fun Z σ H ⟨B, A, r, w, hs, hp, q⟩ => ⟨B, A, r, w, hs, hp, ?_⟩
  unfold sTry at q
  cases z : fb r w with
  | nx r' w' => rw [z] at q; exact q
  | bk r' w' => rw [z] at q; exact q
  | ct r' w' => rw [z] at q; exact q
  | rt d w' => rw [z] at q; exact q
  | exc n fs r' w' => rw [z] at q; exact fun cls dd σ' H' A' hs' hp' er => h2 B Z n fs r' w' cls dd σ' H' A' hs' hp' er q
  | bad => rw [z] at q; exact q
end
end DL

set_option Elab.async false
set_option linter.all false
set_option maxRecDepth 100000
set_option maxHeartbeats 2000000
namespace DL
open PySem PySem.SeqAt PySem.Spec PyProof.Rows L2

/-! ### raise C(..), C's fields fl being its __init__'s parameters -/
def spXI (C : Addr) (fl : List Str) : Sp := fun vs H Q _ => ∃ (a : Addr) (ws : List V), vs = .ref a :: ws ∧ ws.length = fl.length ∧ H a = some (exo a C none) ∧
  ∀ (d : Addr) (H' : Hp), H d = none → d ≠ a → H' a = some (exo a C (some d)) → H' d = some (exd d (fl.zip ws).reverse) → (∀ b, b ≠ a → b ≠ d → H' b = H b) → Q .non H'
section
variable {P : Program} {w : World} {K : PySem.W.Frag} {mg : Str → Option Value} {base : Heap}
theorem xinit1_ok {qual f : Str} {st : Stmt} {fI C : Addr} {fd : FuncData} {N ps : List Str} (F : Fun K "__init__" qual st fI fd) (S : FnScope N ps (defScope st)) (hN : N.length = 2) (hps : ps.length = 2) (T : OexC K C) (no : PySem.W.findIn K (.ref C) f = some none)
    (hb : ∀ (cdv : Value) (A : Around) (outer : List PySem.Env) (s : Shared) (H : Hp) (E : XK), PSs (cxOf (L2.CX P w) P w K mg base N qual (defScope st) fI cdv A outer s H E) (defBody st) (tOst K f (tVar 0) (tVar 1))) :
    FnOk P w K mg base (L2.CX P w) 1 fI fd ps (spXI C [f]) := by
  refine F.okX S (fun vs H Q E h => ?_) (fun cdv A outer s H vs Q E hr h => ⟨_, hb cdv A outer s H E, ?_⟩)
  · obtain ⟨a, ws, rfl, hl, _⟩ := h
    rw [List.length_cons, hl, hps]; rfl
  · obtain ⟨a, ws, rfl, hl, ha, q⟩ := h
    obtain ⟨v, rfl⟩ : ∃ v, ws = [v] := by
      cases ws with
      | nil => cases hl
      | cons v r => cases r with
        | nil => exact ⟨v, rfl⟩
        | cons _ _ => cases hl
    refine ⟨v, rfl, .ref a, rfl, a, C, rfl, T, no, .inl ⟨ha, fun dx hdx ne => ?_⟩⟩
    refine q dx _ hdx ne upd_same ?_ fun b h1 h2 => ?_
    · rw [upd_ne ne, upd_same]; rfl
    · rw [upd_ne h1, upd_ne h2]
theorem xinit2_ok {qual f g : Str} {st : Stmt} {fI C : Addr} {fd : FuncData} {N ps : List Str} (F : Fun K "__init__" qual st fI fd) (S : FnScope N ps (defScope st)) (hN : N.length = 3) (hps : ps.length = 3) (T : OexC K C) (no : PySem.W.findIn K (.ref C) f = some none) (no2 : PySem.W.findIn K (.ref C) g = some none)
    (hb : ∀ (cdv : Value) (A : Around) (outer : List PySem.Env) (s : Shared) (H : Hp) (E : XK), PSs (cxOf (L2.CX P w) P w K mg base N qual (defScope st) fI cdv A outer s H E) (defBody st) (tSeq (tOst K f (tVar 0) (tVar 1)) (tOst K g (tVar 0) (tVar 2)))) :
    FnOk P w K mg base (L2.CX P w) 1 fI fd ps (spXI C [f, g]) := by
  refine F.okX S (fun vs H Q E h => ?_) (fun cdv A outer s H vs Q E hr h => ⟨_, hb cdv A outer s H E, ?_⟩)
  · obtain ⟨a, ws, rfl, hl, _⟩ := h
    rw [List.length_cons, hl, hps]; rfl
  · obtain ⟨a, ws, rfl, hl, ha, q⟩ := h
    obtain ⟨v, u, rfl⟩ : ∃ v u, ws = [v, u] := by
      cases ws with
      | nil => cases hl
      | cons v r => cases r with
        | nil => cases hl
        | cons u r => cases r with
          | nil => exact ⟨v, u, rfl⟩
          | cons _ _ => cases hl
    refine ⟨v, rfl, .ref a, rfl, a, C, rfl, T, no, .inl ⟨ha, fun dx hdx ne => ?_⟩⟩
    refine ⟨u, rfl, .ref a, rfl, a, C, rfl, T, no2, .inr ⟨dx, [(f, v)], upd_same, ?_, ?_, ?_⟩⟩
    · rw [upd_ne ne, upd_same]
    · show 1 ≤ 900; decide
    · refine q dx _ hdx ne ?_ upd_same fun b h1 h2 => ?_
      · rw [upd_ne (Ne.symm ne), upd_same]
      · rw [upd_ne h2, upd_ne h1, upd_ne h2]
end
/-- what is known of an own error's class -/
structure XC (P : Program) (w : World) (K : PySem.W.Frag) (mg : Str → Option Value) (base : Heap) (n : Str) (fl : List Str) : Prop where
  ex : ∃ (C fI : Addr) (fd : FuncData) (ps : List Str), mg n = some (.ref C) ∧ OexC K C ∧ PySem.W.findIn K (.ref C) "__init__" = some (some (.ref fI)) ∧ PySem.W.typeIn K (.ref fI) = some (.type "function") ∧
    FnOk P w K mg base (L2.CX P w) 1 fI fd ps (spXI C fl) ∧ Binds K fd ps []
def sRaise (n : Str) (fl : List Str) (fa : IM) : SM := fun r w => match fa (rel all_ r) w with
  | .ok ds w' => if ds.length = fl.length then .exc n (fl.zip ds).reverse (rel all_ r) w' else .bad
  | .exc m fs w' => .exc m fs (rel all_ r) w'
  | .bad => .bad
theorem zip_map {α β : Type} : ∀ {l : List α} {m : List β}, m.length = l.length → (l.zip m).map (·.1) = l ∧ (l.zip m).map (·.2) = m
  | [], [], _ => ⟨rfl, rfl⟩
  | [], _ :: _, h => by cases h
  | _ :: _, [], h => by cases h
  | a :: l, b :: m, h => by
    obtain ⟨h1, h2⟩ := zip_map (l := l) (m := m) (by simpa using h)
    exact ⟨by rw [List.zip_cons_cons, List.map_cons, h1], by rw [List.zip_cons_cons, List.map_cons, h2]⟩
theorem RepL.rev {c : Cf} {A : Addr → Prop} {H : Hp} : ∀ {vs : List V} {ds : List D}, RepL c A H vs ds → RepL c A H vs.reverse ds.reverse
  | _, _, .nil => .nil
  | _, _, .cons h r => by
    rw [List.reverse_cons, List.reverse_cons]
    exact (RepL.rev r).snoc h
section
variable {X : Cx} {W : WX} {e : Expr} {es : List Expr} {fa : IM} {p pos pos2 : Pos} {n : Str} {fl : List Str}
theorem vs_raise (T : XC X.prog X.w X.K X.mg X.base n fl) (tk : Takes X W) (hr : Room 2 X.A) (hsm : fl.length ≤ 900) (ha : VA X rE W (e :: es) fa) (hc : X.calm = true := by rfl) (hg : Gl X n := by rfl)
    (hdb : (n == ("__debug__" : Str)) = false := by decide) (he : starEach (e :: es) X.env = (false, eval e X.env) :: starEach es X.env := by rfl) (hpl : (backTo pos (starEach es X.env)).any (·.1) = false := by rfl) :
    VS X W (.Raise (some (.Call (.Name n p) (e :: es) [] pos)) none pos2) (sRaise n fl fa) := by
  obtain ⟨C, fI, fd, ps, Tmg, Tox, TiC, TtI, Tfo, Tbi⟩ := T.ex
  refine weakS (ps_raise hc tk (pmk_oex Tox TiC TtI Tfo hr Tbi .nil passL hg Tmg ha hdb he hpl)) fun Z σ H ⟨B, A, r, w, hs, hp, q⟩ => ?_
  have hs1 := hs.rel all_
  have hp1 : PenAt B.p B.lc (fun a => A a ∧ ¬ OwnBy all_ σ r a) H w := hp.less fun a z => .inl z.1
  refine ⟨B, _, _, w, hs1, hp1, ?_⟩
  unfold sRaise at q
  cases z : fa (rel all_ r) w with
  | bad => rw [z] at q; exact q
  | exc m fs w1 => rw [z] at q; exact fun cls dd H' k p e => q cls dd σ H' _ (hs1.keep k) p e
  | ok ds w1 =>
    rw [z] at q
    simp only at q
    split at q
    · rename_i hl
      intro vs H1 k1 p1 r1
      have r2 := r1.e
      have hvl : vs.length = fl.length := by rw [r2.len, hl]
      refine ⟨by rw [hvl]; omega, fun a ha => ⟨a, vs, by rw [List.append_nil], hvl, upd_same, fun d H' hd ne h1 h2 h3 => ⟨rfl, d, _, h1, h2, ?_, ?_⟩⟩⟩
      · rw [upd_ne ne] at hd; exact hd
      · have hd1 : H1 d = none := by rw [upd_ne ne] at hd; exact hd
        have sm : Same H1 (upd (del H' a) d (.xd (fl.zip vs).reverse)) := fun b o eb => by
          have ba : b ≠ a := ne_of_none eb ha
          have bd : b ≠ d := ne_of_none eb hd1
          rw [upd_ne bd, del_ne ba, h3 b ba bd, upd_ne ba]; exact eb
        have hs2 := hs1.keep (k1.trans (.of sm))
        have hz := zip_map (l := fl) (m := vs) hvl
        have hz2 := zip_map (l := fl) (m := ds) hl
        have fr := (hs1.keep k1).fresh hd1
        refine q (.ref C) (some d) σ _ _ hs2 (p1.keep sm) ⟨C, rfl, Tmg, _, upd_same, fr.2, fr.1, ?_, ?_⟩
        · rw [List.map_reverse, List.map_reverse, hz.1, hz2.1]
        · rw [List.map_reverse, List.map_reverse, hz.2, hz2.2]
          exact (r2.keepA (Kp.a (.of sm))).rev
    · exact q.elim
end
end DL

set_option Elab.async false
set_option linter.all false
set_option maxRecDepth 100000
set_option maxHeartbeats 2000000
namespace DL
open PySem PySem.SeqAt PySem.Spec PyProof.Rows L2

/-! ### the pen: pen['count'], .. -/
def penI (i : Nat) (r : Env) : Bool := match r[i]? with
  | some (some (.pen, false)) => true
  | _ => false
def dPen (i : Nat) (g : Wd → Int) : EM := fun r w => if penI i r = true then .ok (.int (g w)) w else .bad
theorem RepL.ints {c : Cf} {A : Addr → Prop} {H : Hp} : ∀ (l : List Int), RepL c A H (l.map V.int) (l.map D.int)
  | [] => .nil
  | i :: l => .cons (.int i) (RepL.ints l)
theorem pen_at {K : PySem.W.Frag} {mg : Str → Option Value} {B : Bs} {A : Addr → Prop} {σ : L2.St} {H : Hp} {r : Env} {i : Nat} (hs : StOk K mg B A σ H r) (h : penI i r = true) : σ[i]? = some (some (.ref B.p)) := by
  unfold penI at h
  split at h
  · rename_i e
    obtain ⟨v, h1, h2⟩ := hs.pl i _ e
    cases h2
    exact h1
  · cases h
section
variable {X : Cx} {W : WX} {e : Expr} {fe : EM} {pos p1 p2 p3 : Pos} {j : Nat} {key x : Str}
theorem vp_get (i : Nat) (g : Wd → Int) (hu : X.A.units + 1 < cLine) (hk : ∀ lc w, valV (penKvs lc w) (.inr key) = some (.int (g w)) := by exact fun _ _ => rfl) (hN : X.N[i]? = some x := by rfl) (hv : Vis X.env.scope x := by first | exact Or.inl rfl | exact Or.inr (Or.inl rfl) | exact Or.inr (Or.inr rfl)) (hd : (x == ("__debug__" : Str)) = false := by decide)
    (hcd : (x == ("__classdict__" : Str)) = false := by decide) (hs : NoSl (.Constant (.str key) j p2) := by exact fun _ _ => rfl) : VE X rE W (.Subscript (.Name x p1) (.Constant (.str key) j p2) pos) (dPen i g) := weak (pe_dget hu (pe_var hN hv hd hcd) pe_str hs) fun σ H Q ⟨B, A, r, w, hs, hp, q⟩ => by
  unfold dPen at q
  split at q
  · rename_i h
    have hq := hp.2.2.1
    exact ⟨_, pen_at hs h, B.p, _, rfl, (by have := DGet.k (k := .inr key) hq; rw [hk] at this; exact this), q _ H .refl hp (.int _)⟩
  · exact q.elim
/-- len(pen['cells']) -/
theorem vp_len (i : Nat) (hu : X.A.units + 1 < cLine) {pl : Pos} (hm : X.mg "len" = none) (hg : Gl X "len" := by rfl) (hN : X.N[i]? = some x := by rfl) (hv : Vis X.env.scope x := by first | exact Or.inl rfl | exact Or.inr (Or.inl rfl) | exact Or.inr (Or.inr rfl)) (hd : (x == ("__debug__" : Str)) = false := by decide)
    (hcd : (x == ("__classdict__" : Str)) = false := by decide) (hs : NoSl (.Constant (.str ("cells" : Str)) j p2) := by exact fun _ _ => rfl)
    (hs1 : starEach [.Subscript (.Name x p1) (.Constant (.str ("cells" : Str)) j p2) p3] X.env = (false, eval (.Subscript (.Name x p1) (.Constant (.str ("cells" : Str)) j p2) p3) X.env) :: starEach [] X.env := by rfl) (hpl : (backTo pos (starEach [] X.env)).any (·.1) = false := by rfl) :
    VE X rE W (.Call (.Name "len" pl) [.Subscript (.Name x p1) (.Constant (.str ("cells" : Str)) j p2) p3] [] pos) (dPen i fun w => w.cells.length) :=
  weak (pe_callB call_len_seq hg hm boot_len (pa_cons (pe_dget hu (pe_var hN hv hd hcd) pe_str hs) pa_nil hs1) (by decide) (by decide) hs1 hpl) fun σ H Q ⟨B, A, r, w, hs, hp, q⟩ => by
  unfold dPen at q
  split at q
  · rename_i h
    have hq := hp.2.2.1
    refine ⟨_, pen_at hs h, B.p, _, rfl, (by have := DGet.k (k := .inr "cells") hq; exact this), B.lc, _, rfl, .inl (SqL.of hp.2.2.2.1), ?_⟩
    have := q _ H .refl hp (.int _)
    rw [List.length_map]; exact this
  · exact q.elim
/-- pen['cells'][pen['at']] -/
def dCell (i : Nat) : EM := fun r w => if penI i r = true then Res.of (L2.atI (w.cells.map D.int) w.at_) w else .bad
theorem vp_cell (i : Nat) (hu : X.A.units + 1 < cLine) {p4 p5 p6 : Pos} {j2 : Nat} (hN : X.N[i]? = some x := by rfl) (hv : Vis X.env.scope x := by first | exact Or.inl rfl | exact Or.inr (Or.inl rfl) | exact Or.inr (Or.inr rfl)) (hd : (x == ("__debug__" : Str)) = false := by decide)
    (hcd : (x == ("__classdict__" : Str)) = false := by decide) (hs : NoSl (.Constant (.str ("cells" : Str)) j p2) := by exact fun _ _ => rfl) (hs' : NoSl (.Constant (.str ("at" : Str)) j2 p5) := by exact fun _ _ => rfl) (hs2 : PlainIx (.Subscript (.Name x p4) (.Constant (.str ("at" : Str)) j2 p5) p6) := by exact fun _ _ => rfl) :
    VE X rE W (.Subscript (.Subscript (.Name x p1) (.Constant (.str ("cells" : Str)) j p2) p3) (.Subscript (.Name x p4) (.Constant (.str ("at" : Str)) j2 p5) p6) pos) (dCell i) :=
  weak (pe_ix ix_list (pe_dget hu (pe_var hN hv hd hcd) pe_str hs) (pe_dget hu (pe_var hN hv hd hcd) pe_str hs') hs2) fun σ H Q ⟨B, A, r, w, hs, hp, q⟩ => by
  unfold dCell at q
  split at q
  · rename_i h
    have hq := hp.2.2.1
    unfold Res.of at q
    split at q
    · rename_i d e
      obtain ⟨v, e1, e2⟩ := (RepL.ints (c := B.cf X.K X.mg) (A := A) (H := H) w.cells).atI e
      refine ⟨_, pen_at hs h, B.p, _, rfl, (by have := DGet.k (k := .inr "cells") hq; exact this), _, pen_at hs h, B.p, _, rfl, (by have := DGet.k (k := .inr "at") hq; exact this), ?_⟩
      exact ⟨B.lc, _, _, v, rfl, rfl, SqL.of hp.2.2.2.1, e1, q _ H .refl hp e2⟩
    · exact q.elim
  · exact q.elim
/-- pen['count'] = e -/
def sPen (i : Nat) (put : Int → Wd → Option Wd) (fe : EM) : SM := fun r w => (fe (rel all_ r) w).en (rel all_ r) fun d w' => match d with
  | .int z => if penI i r = true then match put z w' with
    | some w2 => .nx r w2
    | none => .bad
    else .bad
  | _ => .bad
structure PutOk (key : Str) (put : Int → Wd → Option Wd) : Prop where
  k : ∀ lc z w w', put z w = some w' → putK (penKvs lc w) (.inr key) (.int z) = penKvs lc w' ∧ w'.cells = w.cells
theorem vp_put (i : Nat) {put : Int → Wd → Option Wd} (hu : X.A.units + 1 < cLine) (hk : PutOk key put) (he : VE X rE W e fe) (hN : X.N[i]? = some x := by rfl) (hv : Vis X.env.scope x := by first | exact Or.inl rfl | exact Or.inr (Or.inl rfl) | exact Or.inr (Or.inr rfl)) (hd : (x == ("__debug__" : Str)) = false := by decide)
    (hcd : (x == ("__classdict__" : Str)) = false := by decide) (hsw : swapsWith e (some (.Subscript (.Name x p1) (.Constant (.str key) j p2) p3)) pos.line X.env = pure false := by rfl) :
    VS X W (.Assign [.Subscript (.Name x p1) (.Constant (.str key) j p2) p3] e pos) (sPen i put fe) := weakS (ps_dput hu (pe_var hN hv hd hcd) pe_str he hsw) fun Z σ H ⟨B, A, r, w, hs, hp, q⟩ => by
  have hs1 := hs.rel all_
  refine ⟨B, _, _, w, hs1, hp.less fun a z => .inl z.1, PostS.en hs1 q fun d w' v H1 k1 p rv q => ?_⟩
  cases d <;> first | exact q.elim | skip
  cases rv
  rename_i z
  simp only at q
  split at q
  · rename_i h
    have hs2 := hs.keep k1
    have p2 : PenAt B.p B.lc A H1 w' := hp.again p
    split at q
    · rename_i w2 e
      have hq := p2.2.2.1
      refine ⟨_, pen_at hs2 h, B.p, _, rfl, DPut.k (k := .inr key) hq (by show 5 < sizeLine; decide), ?_⟩
      obtain ⟨e1, e2⟩ := hk.k B.lc z w' w2 e
      rw [e1]
      have kp : Kp B.p H1 (upd H1 B.p (.dK (penKvs B.lc w2))) := ⟨fun b o n eb => by rw [upd_ne n]; exact eb, fun _ => ⟨_, upd_same⟩⟩
      obtain ⟨_, l, h1, h2, h3, h4, h5⟩ := p2
      exact q σ _ A (hs2.keep kp) ⟨w2.isOk, w2.cl, upd_same, by rw [upd_ne h5, e2]; exact h2, h3, h4, h5⟩
    · exact q.elim
  · exact q.elim
end
def putCt (z : Int) (w : Wd) : Option Wd := if h : 0 ≤ z then some { w with ct := z, ct0 := h } else none
def putAt (z : Int) (w : Wd) : Option Wd := if h : 0 ≤ z then some { w with at_ := z, at0 := h } else none
def putDg (z : Int) (w : Wd) : Option Wd := if h : 0 ≤ z then some { w with dg := z, dg0 := h } else none
def putFo (z : Int) (w : Wd) : Option Wd := if h : 0 ≤ z ∧ z < 2 ^ 31 then some { w with fo := z, fo0 := h.1, fo1 := h.2 } else none
theorem putCt_ok : PutOk "count" putCt := ⟨fun lc z w w' e => by
  unfold putCt at e; split at e
  · cases e; exact ⟨rfl, rfl⟩
  · cases e⟩
theorem putAt_ok : PutOk "at" putAt := ⟨fun lc z w w' e => by
  unfold putAt at e; split at e
  · cases e; exact ⟨rfl, rfl⟩
  · cases e⟩
theorem putDg_ok : PutOk "digits" putDg := ⟨fun lc z w w' e => by
  unfold putDg at e; split at e
  · cases e; exact ⟨rfl, rfl⟩
  · cases e⟩
theorem putFo_ok : PutOk "fold" putFo := ⟨fun lc z w w' e => by
  unfold putFo at e; split at e
  · cases e; exact ⟨rfl, rfl⟩
  · cases e⟩
end DL

set_option Elab.async false
set_option linter.all false
set_option maxRecDepth 100000
set_option maxHeartbeats 2000000
namespace DL
open PySem PySem.SeqAt PySem.Spec PyProof.Rows L2

/-! ### methods of texts -/
def rmD (K : PySem.W.Frag) (mg : Str → Option Value) (R : RK) (g : D → D → Option D) : V → List V → Hp → VK → Prop := fun x xs H Q => ∃ y, xs = [y] ∧ r2D K mg R g x y H Q
abbrev MtD (X : Cx) (R : RK) (id : String) (g : D → D → Option D) : Prop := MtR X id (rmD X.K X.mg R g)
def dM (g : D → D → Option D) (fa fb : EM) : EM := fun r w => (fa r w).bind fun x w1 => match x with
  | .str s => (fb r w1).bind fun y w2 => Res.of (g (.str s) y) w2
  | _ => .bad
def D.str? : D → Option Str
  | .str s => some s
  | _ => none
def joinOk (a : Str) (ys : List Str) : Bool := decide ((ys.map (·.length)).sum + ys.length * a.length ≤ 16777216)
def joinD : D → D → Option D
  | .str a, y => match itemsD y with
    | some l => match allOf D.str? l with
      | some ys => if joinOk a ys = true then some (.str (Txt.join a ys)) else none
      | none => none
    | none => none
  | _, _ => none
def splitD : D → D → Option D
  | .str a, .str b => if (b.length == 0) = false ∧ a.length + 2 ≤ sizeLine then some (.lst ((Txt.split a b).map .str)) else none
  | _, _ => none
def rstripD : D → D → Option D
  | .str a, .str b => if a.length ≤ sizeLine then some (.str (Txt.rstripChars a b)) else none
  | _, _ => none
theorem strs_of {c : Cf} {A : Addr → Prop} {H : Hp} : ∀ {vs : List V} {ds : List D} {ns : List Str}, RepL c A H vs ds → allOf D.str? ds = some ns → vs = ns.map V.str
  | _, _, ns, .nil, e => by cases e; rfl
  | _, _, ns, .cons (d := d) (ds := ds) h r, e => by
    unfold allOf at e
    cases e1 : D.str? d with
    | none => rw [e1] at e; cases e
    | some i =>
      cases e2 : allOf D.str? ds with
      | none => rw [e1, e2] at e; cases e
      | some ns' =>
        rw [e1, e2] at e; cases e
        have hd : d = .str i := by cases d <;> first | (cases e1; done) | (cases e1; rfl)
        subst hd
        cases h
        rw [List.map_cons, strs_of r e2]
theorem RepL.strs {c : Cf} {A : Addr → Prop} {H : Hp} : ∀ (l : List Str), RepL c A H (l.map V.str) (l.map D.str)
  | [] => .nil
  | i :: l => .cons (.str i) (RepL.strs l)
section
variable {X : Cx} {W : WX} {R : RK} {a b e : Expr} {fa fb fe : EM} {pos apos : Pos} {tg : Expr}
theorem md_join : MtD X rE "str.join" joinD := fun pins s σ H x xs v us Q I rx rs ⟨y, ey, B, A, dx, dy, d, fr, h1, h2, e, q⟩ => by
  subst ey
  unfold joinD at e
  split at e
  · split at e
    · split at e
      · split at e
        · rename_i hj
          cases e
          obtain ⟨p, vs, rfl, h3, h4⟩ := h2.seq (by assumption)
          have ev := strs_of h4 (by assumption)
          subst ev
          exact mt_join pins s σ H x _ v us Q I rx rs ⟨_, p, _, h1.str, rfl, h3, of_decide_eq_true hj, q _ H (Same.refl H) (.str _)⟩
        · cases e
      · cases e
    · cases e
  · cases e
theorem md_split : MtD X rF "str.split" splitD := fun pins s σ H x xs v us Q I rx rs ⟨y, ey, B, A, dx, dy, d, fr, h1, h2, e, q⟩ => by
  subst ey
  unfold splitD at e
  split at e
  · split at e
    · rename_i hj
      cases e
      have := h2.str; subst this
      exact mt_split pins s σ H x _ v us Q I rx rs ⟨_, _, h1.str, rfl, hj.1, hj.2, fun t ht => q _ _ (same_new ht) (new_lst (RepL.strs _) ht)⟩
    · cases e
  · cases e
theorem md_rstrip : MtD X rE "str.rstrip" rstripD := fun pins s σ H x xs v us Q I rx rs ⟨y, ey, B, A, dx, dy, d, fr, h1, h2, e, q⟩ => by
  subst ey
  unfold rstripD at e
  split at e
  · split at e
    · rename_i hj
      cases e
      have := h2.str; subst this
      exact mt_rstripChars pins s σ H x _ v us Q I rx rs ⟨_, _, h1.str, rfl, hj, q _ H (Same.refl H) (.str _)⟩
    · cases e
  · cases e
theorem m1_of [RKm R] {g : D → D → Option D} {σ : L2.St} {H : Hp} {Q : VK} (h : tV X.K X.mg R W (dM g fa fb) σ H Q) : tM1 (rmD X.K X.mg R g) (tV X.K X.mg rO W fa) (tV X.K X.mg rO W fb) σ H Q := by
  obtain ⟨B, A, r, w, hs, hp, q⟩ := h
  refine ⟨B, A, r, w, hs, hp, q.bind fun x w1 v H1 k1 p1 r1 q1 => ?_⟩
  cases x <;> first | exact q1.elim | skip
  rename_i z
  refine ⟨⟨z, r1.str⟩, B, A, r, w1, hs.keep k1, p1, q1.bind fun y w2 v2 H2 k2 p2 r2 q2 => ?_⟩
  unfold Res.of at q2
  split at q2
  · rename_i d e
    exact ⟨v2, rfl, B, A, .str z, y, d, (hs.keep (k1.trans k2)).fre, rO.keep hs.np k2 r1, r2, e, fun v' H' sm rr => q2 v' H' (.of sm) (p2.keep sm) rr⟩
  · exact q2.elim
/-- a.m(b), a a text -/
theorem ve_m1 [RKm R] {id : String} {name : Str} {g : D → D → Option D} (slot : PySem.Slot "str" name id) (ty : typeOf (.builtin id) = pure (.type "method_descriptor")) (hm : MtD X R id g) (ha : VE X rO W a fa) (hb : VE X rO W b fb)
    (hs : starEach [b] X.env = [(false, eval b X.env)] := by rfl) (hbase : attributeBase a name X.env (eval a X.env) = eval a X.env := by rfl) (hline : (apos.endLine == pos.line) = true := by rfl) : VE X R W (.Call (.Attribute a name apos) [b] [] pos) (dM g fa fb) :=
  weak (pe_m1 slot ty hm ha hb hs hbase hline) fun σ H Q h => m1_of h
theorem ve_join (ha : VE X rO W a fa) (hb : VE X rO W b fb) (hs : starEach [b] X.env = [(false, eval b X.env)] := by rfl) (hbase : attributeBase a "join" X.env (eval a X.env) = eval a X.env := by rfl) (hline : (apos.endLine == pos.line) = true := by rfl) :
    VE X rE W (.Call (.Attribute a "join" apos) [b] [] pos) (dM joinD fa fb) := ve_m1 F.slot_str_join F.type_str_join md_join ha hb hs hbase hline
theorem vf_split (ha : VE X rO W a fa) (hb : VE X rO W b fb) (hs : starEach [b] X.env = [(false, eval b X.env)] := by rfl) (hbase : attributeBase a "split" X.env (eval a X.env) = eval a X.env := by rfl) (hline : (apos.endLine == pos.line) = true := by rfl) :
    VE X rF W (.Call (.Attribute a "split" apos) [b] [] pos) (dM splitD fa fb) := ve_m1 F.slot_str_split F.type_str_split md_split ha hb hs hbase hline
theorem ve_rstrip (ha : VE X rO W a fa) (hb : VE X rO W b fb) (hs : starEach [b] X.env = [(false, eval b X.env)] := by rfl) (hbase : attributeBase a "rstrip" X.env (eval a X.env) = eval a X.env := by rfl) (hline : (apos.endLine == pos.line) = true := by rfl) :
    VE X rE W (.Call (.Attribute a "rstrip" apos) [b] [] pos) (dM rstripD fa fb) := ve_m1 F.slot_str_rstrip F.type_str_rstrip md_rstrip ha hb hs hbase hline
/-- {} -/
theorem vf_dnew : VE X rF W (.Dict [] [] pos) (dC (.dic [])) := weak pe_dnewK fun σ H Q ⟨B, A, r, w, hs, hp, q⟩ => fun p n => q _ _ (.of (same_new n)) (hp.keep (same_new n)) ⟨p, rfl, n, [], upd_same, rfl, .nil⟩
/-! a text's signs -/
def signs (s : Str) : List D := s.cps.toList.map fun c => .str ⟨#[c]⟩
def signsD : D → Option (List D)
  | .str s => some (signs s)
  | _ => none
def iSigns (fe : EM) : IM := fun r w => (fe r w).toI signsD
theorem vi_str {s : Bool} (he : VE X rO W e fe) : VI X s W tg e (iSigns fe) := weakI (pi_str he) fun σ H R0 ⟨B, A, r, w, hs, hp, q⟩ => ⟨B, A, r, w, hs, hp, by
  have q : PostI s (B.cf X.K X.mg) A σ H W R0 ((fe r w).toI signsD) := q
  cases z : fe r w with
  | bad => rw [z] at q; exact q
  | exc n fs w1 => rw [z] at q; exact q
  | ok d w1 =>
    rw [z] at q
    unfold Res.toI signsD at q
    cases d <;> first | exact q.elim | skip
    rename_i x
    intro v H1 k p rv
    refine ⟨x, rv.str, q _ H1 k p ⟨(fun _ => True), _, (by unfold signs; rw [List.length_map, Array.length_toList]; exact walk_str), fun _ _ => True.intro, fun i H2 y H3 hi k2 yy => ?_⟩⟩
    obtain ⟨rfl, c, e1, rfl⟩ := yy
    refine ⟨Same.refl _, .str ⟨#[c]⟩, ?_, fun A' _ _ => .str _⟩
    unfold signs
    rw [List.getElem?_map, Array.getElem?_toList, e1]; rfl⟩
end
end DL

set_option Elab.async false
set_option linter.all false
set_option maxRecDepth 100000
set_option maxHeartbeats 2000000
namespace DL
open PySem PySem.SeqAt PySem.Spec PyProof.Rows L2

/-! ### a def of the text that keeps its promise -/
structure Callee (P : Program) (w : World) (K : PySem.W.Frag) (mg : Str → Option Value) (base : Heap) (x : Str) (k n : Nat) (F : List D → Wd → Res) : Prop where
  ex : ∃ (f : Addr) (fd : FuncData) (ps : List Str), FnOk P w K mg base (L2.CX P w) k f fd ps (spV K mg n F) ∧ mg x = some (.ref f) ∧ PySem.W.keepIn K (.ref f) = true ∧ Binds K fd ps []
theorem Callee.mono {P : Program} {w : World} {K : PySem.W.Frag} {mg : Str → Option Value} {base : Heap} {x : Str} {k k' n : Nat} {F : List D → Wd → Res} (h : Callee P w K mg base x k n F) (l : k ≤ k') : Callee P w K mg base x k' n F := by
  obtain ⟨f, fd, ps, h1, h2⟩ := h.ex
  exact ⟨f, fd, ps, h1.mono l, h2⟩
/-- an argument list of n -/
structure AL (fa : IM) (n : Nat) : Prop where
  l : ∀ r w l w', fa r w = .ok l w' → l.length = n
theorem al_nil : AL aNil 0 := ⟨fun r w l w' e => by cases e; rfl⟩
theorem al {fe : EM} {fa : IM} {n : Nat} (h : AL fa n) : AL (aCons fe fa) (n + 1) := ⟨fun r w l w' e => by
  unfold aCons at e
  split at e
  · rename_i d w1 _
    cases z : fa r w1 with
    | ok l1 w2 =>
      rw [z] at e
      have e : ResI.ok (d :: l1) w2 = ResI.ok l w' := e
      cases e
      rw [List.length_cons, h.l r w1 l1 w' z]
    | exc n fs w2 => rw [z] at e; cases e
    | bad => rw [z] at e; cases e
  · cases e
  · cases e⟩
section
variable {X : Cx} {W : WX} {e : Expr} {es : List Expr} {fa : IM} {p pos : Pos} {x : Str} {n k : Nat} {F : List D → Wd → Res}
theorem ve_fn (C : Callee X.prog X.w X.K X.mg X.base x k n F) (tk : Takes X W) (hr : Room k X.A) (ha : VA X rE W (e :: es) fa) (hl : AL fa n) (hg : Gl X x := by rfl) (hdb : (x == ("__debug__" : Str)) = false := by decide) (he : starEach (e :: es) X.env = (false, eval e X.env) :: starEach es X.env := by rfl) (hpl : (backTo pos (starEach es X.env)).any (·.1) = false := by rfl) :
    VE X rE W (.Call (.Name x p) (e :: es) [] pos) (dCall F fa) := by
  obtain ⟨f, fd, ps, G, hm, hk, hb⟩ := C.ex
  exact ve_call tk G hr hm hk hb ha hl.l hg hdb he hpl
theorem ve_fn0 (C : Callee X.prog X.w X.K X.mg X.base x k 0 F) (tk : Takes X W) (hr : Room k X.A) (hg : Gl X x := by rfl) (hdb : (x == ("__debug__" : Str)) = false := by decide) : VE X rE W (.Call (.Name x p) [] [] pos) (dCall F aNil) := by
  obtain ⟨f, fd, ps, G, hm, hk, hb⟩ := C.ex
  refine ⟨fun pins s σ H Q I ⟨B, A, r, w, hs, hp, q⟩ => ?_⟩
  refine wpAny_Call_Name_kw (ld_glob I hg hm ?_ hdb)
  exact PySem.W.callWith_K0 I.kIn hk (run_fnSD (us := []) (E := fun σ cls d H' => W cls d σ H') G hr hb .nil (passAt tk σ) I .nil (call_of hs hp .nil rfl q))
end
section
variable {X : Cx} {W : WX} {pos : Pos} {x : Str}
theorem ve_gstr {v : Str} (h : ∃ t, X.mg x = some (.str v t)) (hg : Gl X x := by rfl) (hdb : (x == ("__debug__" : Str)) = false := by decide) : VE X rE W (.Name x pos) (dC (.str v)) := by
  obtain ⟨t, h⟩ := h
  exact ve_glob (v := .str v) hg h ⟨t, rfl⟩ (fun _ _ _ => .str v) hdb
theorem ve_gint {v : Int} (h : ∃ t, X.mg x = some (.int v t)) (hg : Gl X x := by rfl) (hdb : (x == ("__debug__" : Str)) = false := by decide) : VE X rE W (.Name x pos) (dC (.int v)) := by
  obtain ⟨t, h⟩ := h
  exact ve_glob (v := .int v) hg h ⟨t, rfl⟩ (fun _ _ _ => .int v) hdb
/-- a tuple of texts of the module -/
theorem ve_gtup {l : List Str} {a : Addr} (h : X.mg x = some (.ref a)) (hq : ∀ H, SqT X.K H a (l.map V.str)) (hg : Gl X x := by rfl) (hdb : (x == ("__debug__" : Str)) = false := by decide) : VE X rE W (.Name x pos) (dC (.kup (l.map .str))) :=
  ve_glob (v := .ref a) hg h rfl (fun B A H => .tupK (hq noH) (RepL.strs l)) hdb
end
def tupS (K : PySem.W.Frag) (x : Str) (l : List Str) : Bool := He.tupB K x (l.map He.Dv.str)
theorem tupS_ok {K : PySem.W.Frag} {x : Str} {l : List Str} (h : tupS K x l = true) (H : Hp) : SqT K H (He.ga K x) (l.map V.str) := by
  have := He.tupB_ok h H
  rw [List.map_map] at this
  exact this
/-! which errors a clause takes -/
theorem hb_nil {K : PySem.W.Frag} {mg : Str → Option Value} {c : Value} : ∀ (n : Str) (b : Bool), (n, b) ∈ ([] : List (Str × Bool)) → ∀ C, mg n = some (.ref C) → PySem.W.exmOne K (.ref C) c = some b := fun _ _ h => by cases h
theorem hb_cons {K : PySem.W.Frag} {mg : Str → Option Value} {c : Value} {n0 : Str} {b0 : Bool} {C0 : Addr} {sb : List (Str × Bool)} (hm : mg n0 = some (.ref C0)) (hx : PySem.W.exmOne K (.ref C0) c = some b0) (r : ∀ (n : Str) (b : Bool), (n, b) ∈ sb → ∀ C, mg n = some (.ref C) → PySem.W.exmOne K (.ref C) c = some b) :
    ∀ (n : Str) (b : Bool), (n, b) ∈ (n0, b0) :: sb → ∀ C, mg n = some (.ref C) → PySem.W.exmOne K (.ref C) c = some b := fun n b h C hC => by
  rcases List.mem_cons.mp h with e | e
  · cases e
    rw [hm] at hC
    cases hC
    exact hx
  · exact r n b e C hC
/-! comparisons as tests -/
section
variable {X : Cx} {W : WX} {a b c : Expr} {fa fb fc : EM} {pos : Pos}
theorem test_of {R : RK} {t : TE} {σ : L2.St} {H : Hp} {Q : Bool → Hp → Prop} {f : EM} (h : tVT X.K X.mg W f σ H Q) (k : ∀ Q', tV X.K X.mg rE W f σ H Q' → t σ H Q') : t σ H fun v H' => ∃ d, v = .bl d ∧ Q d H' := by
  obtain ⟨B, A, r, w, hs, hp, q⟩ := h
  refine k _ ⟨B, A, r, w, hs, hp, ?_⟩
  cases z : f r w with
  | ok d w' =>
    rw [z] at q
    cases d <;> first | exact q.elim | skip
    exact fun v H' k p r => by cases r; exact ⟨_, rfl, q H' k p⟩
  | exc n fs w' => rw [z] at q; exact q
  | bad => rw [z] at q; exact q
theorem vt_cmp {op : CmpOp} {g : D → D → Option D} (ho : OpD X rE (compareOp op) g) (ha : VE X rO W a fa) (hb : VE X rO W b fb) (hm : behindInMarks op b = false := by rfl) : VT X W (.Compare a [op] [b] pos) (dBin g fa fb) :=
  weakT (pt_cmpR ho ha hb hm) fun σ H Q h => test_of (R := rE) h fun Q' ⟨B, A, r, w, hs, hp, q⟩ =>
  ⟨B, A, r, w, hs, hp, q.bind fun x w1 v H1 k1 p1 r1 q1 => ⟨B, A, r, w1, hs.keep k1, p1, q1.bind fun y w2 v2 H2 k2 p2 r2 q2 => by
    unfold Res.of at q2
    split at q2
    · rename_i d e
      exact ⟨B, A, x, y, d, (hs.keep (k1.trans k2)).fre, rO.keep hs.np k2 r1, r2, e, fun v' H' sm rr => q2 v' H' (.of sm) (p2.keep sm) rr⟩
    · exact q2.elim⟩⟩
theorem vt_chain {op op' : CmpOp} {g h : D → D → Option D} (ho : OpD X rE (compareOp op) g) (ho' : OpD X rE (compareOp op') h) (ha : VE X rO W a fa) (hb : VE X rO W b fb) (hc : VE X rO W c fc) (hm : lastMarks [op, op'] [b, c] = false := by rfl) :
    VT X W (.Compare a [op, op'] [b, c] pos) (dChain g h fa fb fc) := weakT (pt_chain ho ho' ha hb hc hm) fun σ H Q h0 => test_of (R := rE) h0 fun Q' ⟨B, A, r, w, hs, hp, q⟩ =>
  ⟨B, A, r, w, hs, hp, q.bind fun x w1 v H1 k1 p1 r1 q1 => ⟨B, A, r, w1, hs.keep k1, p1, q1.bind fun y w2 v2 H2 k2 p2 r2 q2 => by
    have hs2 := hs.keep (k1.trans k2)
    split at q2
    · rename_i e
      refine ⟨B, A, x, y, .bl true, hs2.fre, rO.keep hs.np k2 r1, r2, e, fun v' H' sm rr => ?_⟩
      cases rr
      refine ⟨true, rfl, ?_⟩
      rw [if_pos rfl]
      refine ⟨B, A, r, w2, hs2.keep (.of sm), p2.keep sm, Post.bind (Post.at (Kp.of sm) q2) fun z w3 v3 H3 k3 p3 r3 q3 => ?_⟩
      unfold Res.of at q3
      split at q3
      · rename_i d e
        exact ⟨B, A, y, z, d, (hs2.keep ((Kp.of sm).trans k3)).fre, rO.keep (H := H2) hs.np ((Kp.of sm).trans k3) r2, r3, e, fun v' H' sm rr => q3 v' H' (.of sm) (p3.keep sm) rr⟩
      · exact q3.elim
    · rename_i e
      refine ⟨B, A, x, y, .bl false, hs2.fre, rO.keep hs.np k2 r1, r2, e, fun v' H' sm rr => ?_⟩
      cases rr
      refine ⟨false, rfl, ?_⟩
      rw [if_neg Bool.false_ne_true]
      exact q2 _ H' (.of sm) (p2.keep sm) (.bl false)
    · exact q2.elim⟩⟩
end
theorem law_binds {K : PySem.W.Frag} {st : Stmt} {f : Addr} {fd : FuncData} (F : Fun K "law" "law" st f fd) (h : ∀ (kV doc pm : Value) (an : Option Addr) (cdv ct : Value) (s : Shared) (v : Value), BindsTo s (PySem.W.fnOf "law" "law" (defArgs st) (defBody st) (defScope st) .none kV doc pm an cdv ct) ⟨[v], []⟩ [("script", v)]) :
    ∀ (s : Shared) (v : Value), BindsTo s fd ⟨[v], []⟩ [("script", v)] := by
  obtain ⟨oc, od, kV, doc, pm, an, cdv, ct, osl, rfl, lk, hcd⟩ := F.ex
  exact h kV doc pm an cdv ct
/-- a def of the text is a callee -/
theorem callee_of {P : Program} {w : World} {K : PySem.W.Frag} {mg : Str → Option Value} {base : Heap} {x qual : Str} {st : Stmt} {f : Addr} {fd : FuncData} {N ps : List Str} {k n : Nat} {g : SM} (F : Fun K x qual st f fd) (S : FnScope N ps (defScope st)) (hm : mg x = some (.ref f)) (hn : ps.length = n)
    (hbi : Binds K fd ps [])
    (hb : ∀ (cdv : Value) (A : Around) (outer : List PySem.Env) (s : Shared) (H : Hp) (E : XK), Room k (A.deeper (envOfC qual (defScope st) s.heap.objs.size f cdv)) →
      VSs (cxOf (L2.CX P w) P w K mg base N qual (defScope st) f cdv A outer s H E) (fun cls d _ H => E cls d H) (defBody st) g) : Callee P w K mg base x (k + 1) n (runD N.length g) := by
  subst hn
  exact ⟨f, fd, ps, fun_v F S hb, hm, F.kp, hbi⟩

/-! ### the head: facts of the written part -/
abbrev FaB := PySem.W.Frag → Bool
abbrev AlQ : Type := Bool × List He.FnV
def dOk (K : PySem.W.Frag) (d : He.FnD) : Bool := (He.Fa.code d.at_ d.qual).ok K && PySem.W.keepIn K (.ref (He.fAd K d.at_))
def obsQ (fa : List FaB) (fn : List He.FnD) (K : PySem.W.Frag) : AlQ := ((fa.all fun f => f K) && fn.all fun d => dOk K d, fn.map fun d => He.fnObs K d.at_)
def valQ (fn : List He.FnD) : AlQ := (true, fn.map He.FnD.val)
def SaysQ (fa : List FaB) (fn : List He.FnD) (K : PySem.W.Frag) : Prop := obsQ fa fn K = valQ fn
def obsQG (n : Nat) (fa : List FaB) (fn : List He.FnD) (g : Addr → Option Obj) : AlQ := obsQ fa fn (He.frG g (He.asG g n))
def hookQ (n : Nat) (fa : List FaB) (fn : List He.FnD) : PySem.W.Hook where
  α := AlQ
  obs := fun s => obsQG n fa fn s.heap.get?
  val := fun _ => valQ fn
  says := fun _ h => ∃ K : PySem.W.Frag, K.In h ∧ SaysQ fa fn K
  of := fun _ _ e => ⟨_, He.frG_in, e⟩
  keeps := fun _ _ _ ⟨K, hK, c⟩ k => ⟨K, PySem.W.Frag.In.keeps hK k, c⟩
theorem obsQG_eq {n : Nat} {fa : List FaB} {fn : List He.FnD} {g : Addr → Option Obj} {s : Shared} (h : ∀ a, g a = s.heap.get? a) : obsQG n fa fn g = (hookQ n fa fn).obs s := by
  have e : g = s.heap.get? := funext h
  rw [e] <;> rfl
section
variable {fa : List FaB} {fn : List He.FnD} {K : PySem.W.Frag}
theorem SaysQ.fact (c : SaysQ fa fn K) (i : Nat) {f : FaB} (h : fa[i]? = some f := by rfl) : f K = true := by
  have c1 := (He.ba (show ((fa.all fun f => f K) && fn.all fun d => dOk K d) = true from congrArg (fun z : AlQ => z.1) c)).1
  exact List.all_eq_true.mp c1 f (List.mem_of_getElem? h)
theorem SaysQ.def_ (c : SaysQ fa fn K) (i : Nat) {d : He.FnD} (h : fn[i]? = some d := by rfl) : (∃ oc od osl kV doc pm an cdv ct, K.lookup (He.fAd K d.at_) = some ⟨oc, od, .func (PySem.W.fnOf d.name d.qual d.params d.body d.scope .none kV doc pm an cdv ct), osl⟩ ∧ PySem.W.codeIn K cdv d.qual = true) ∧ PySem.W.keepIn K (.ref (He.fAd K d.at_)) = true := by
  have c2 := (He.ba (show ((fa.all fun f => f K) && fn.all fun d => dOk K d) = true from congrArg (fun z : AlQ => z.1) c)).2
  have e : fn.map (fun d => He.fnObs K d.at_) = fn.map He.FnD.val := congrArg (fun z : AlQ => z.2) c
  have e2 : (fn.map fun d => He.fnObs K d.at_)[i]? = (fn.map He.FnD.val)[i]? := by rw [e]
  rw [List.getElem?_map, List.getElem?_map, h] at e2
  have c3 := He.ba (List.all_eq_true.mp c2 d (List.mem_of_getElem? h))
  exact ⟨He.fn_ok (Option.some.inj e2) c3.1, c3.2⟩
end
/-- a def of the top, by its datum -/
def dOf (x : Str) (st : Stmt) : He.FnD := ⟨(x, none), x, x, defArgs st, defBody st, defScope st⟩
/-- a class's __init__ -/
def dInit (C qual : Str) (st : Stmt) : He.FnD := ⟨(C, some "__init__"), "__init__", qual, defArgs st, defBody st, defScope st⟩
theorem fun_of {fa : List FaB} {fn : List He.FnD} {K : PySem.W.Frag} (c : SaysQ fa fn K) (i : Nat) {x : Str} {st : Stmt} (h : fn[i]? = some (dOf x st) := by rfl) : ∃ fd, Fun K x x st (He.ga K x) fd := by
  obtain ⟨⟨oc, od, osl, kV, doc, pm, an, cdv, ct, h1, h2⟩, h3⟩ := c.def_ i h
  exact ⟨_, fun_mk h1 h2 h3⟩
theorem fun_ofI {fa : List FaB} {fn : List He.FnD} {K : PySem.W.Frag} (c : SaysQ fa fn K) (i : Nat) {x q : Str} {st : Stmt} (h : fn[i]? = some (dInit x q st) := by rfl) : ∃ fd, Fun K "__init__" q st (He.ma K (He.ga K x) "__init__") fd := by
  obtain ⟨⟨oc, od, osl, kV, doc, pm, an, cdv, ct, h1, h2⟩, h3⟩ := c.def_ i h
  exact ⟨_, fun_mk h1 h2 h3⟩
/-! own errors -/
def oclB (K : PySem.W.Frag) (C : Addr) : Bool := match K.lookup C with
  | some ⟨.type "type", _, .cls cd, sl⟩ => (match cd.mro, sl.toList with
    | .ref C' :: bm, [_, _, _, _, some (.builtin n), _] => C' == C && (n == "ValueError.__new__" && (!cd.hasDel && (cd.hasDict && PySem.HandSPX.refsVE bm)))
    | _, _ => false)
  | _ => false
theorem oclB_ok {K : PySem.W.Frag} {C : Addr} (q : oclB K C = true) : ∃ nm q N bs bm sn sub ab col dd k0 k1 k2 k3 k5, K.lookup C = some (excClassObj nm q C N bs bm true sn sub ab col dd k0 k1 k2 k3 k5 "ValueError.__new__") ∧ PySem.HandSPX.refsVE bm = true := by
  unfold oclB at q
  split at q
  · rename_i dd cd sl ho
    split at q
    · rename_i C' bm k0 k1 k2 k3 n k5 hm hs
      simp only [Bool.and_eq_true, beq_iff_eq, Bool.not_eq_true'] at q
      obtain ⟨rfl, rfl, hdel, hd, hr⟩ := q
      obtain ⟨nm, bs, mro, ns, qn, hd', sn, sub, ab, col, del⟩ := cd
      dsimp only at hm hdel hd
      subst hm hdel hd
      have hsl : sl = #[k0, k1, k2, k3, some (.builtin "ValueError.__new__"), k5] := by
        obtain ⟨l⟩ := sl
        simp only at hs
        rw [hs]
      subst hsl
      exact ⟨_, _, _, _, bm, _, _, _, _, _, _, _, _, _, _, ho, hr⟩
    · cases q
  · cases q
/-- an own error's class with fields, all of it -/
def excB (n : Str) (fl : List Str) (K : PySem.W.Frag) : Bool := He.eqO (PySem.W.nsIn K mainGlobals n) (some (some (.ref (He.ga K n)))) && (oclB K (He.ga K n) && (He.eqO (PySem.W.findIn K (.ref (He.ga K n)) "__setattr__") (some (some (.builtin "object.__setattr__"))) &&
  (decide (PySem.W.subIn K (.ref (He.ga K n)) (.type "BaseException") = some true) && (decide (PySem.W.typeIn K (.ref (He.ga K n)) = some (.type "type")) && (PySem.W.keepIn K (.ref (He.ga K n)) &&
  (He.eqO (PySem.W.findIn K (.ref (He.ga K n)) "__init__") (some (some (.ref (He.ma K (He.ga K n) "__init__")))) && (decide (PySem.W.typeIn K (.ref (He.ma K (He.ga K n) "__init__")) = some (.type "function")) && (xfB K (He.ga K n) && fl.all fun f => He.eqO (PySem.W.findIn K (.ref (He.ga K n)) f) (some none)))))))))
structure ExcF (n : Str) (fl : List Str) (K : PySem.W.Frag) : Prop where
  glo : (He.Fa.glo n).ok K = true
  ox : OexC K (He.ga K n)
  iC : PySem.W.findIn K (.ref (He.ga K n)) "__init__" = some (some (.ref (He.ma K (He.ga K n) "__init__")))
  tI : PySem.W.typeIn K (.ref (He.ma K (He.ga K n) "__init__")) = some (.type "function")
  xf : XfC K (He.ga K n)
  no : ∀ f ∈ fl, PySem.W.findIn K (.ref (He.ga K n)) f = some none
theorem excB_ok {n : Str} {fl : List Str} {K : PySem.W.Frag} (h : excB n fl K = true) : ExcF n fl K := by
  obtain ⟨h1, h⟩ := He.ba h
  obtain ⟨h2, h⟩ := He.ba h
  obtain ⟨h3, h⟩ := He.ba h
  obtain ⟨h4, h⟩ := He.ba h
  obtain ⟨h5, h⟩ := He.ba h
  obtain ⟨h6, h⟩ := He.ba h
  obtain ⟨h7, h⟩ := He.ba h
  obtain ⟨h8, h⟩ := He.ba h
  obtain ⟨h9, h⟩ := He.ba h
  exact ⟨h1, ⟨oclB_ok h2, He.eqO_ok h3, of_decide_eq_true h4, of_decide_eq_true h5, h6⟩, He.eqO_ok h7, of_decide_eq_true h8, xfB_ok h9, fun f hf => He.eqO_ok (List.all_eq_true.mp h f hf)⟩
end DL

set_option Elab.async false
set_option linter.all false
set_option maxRecDepth 100000
set_option maxHeartbeats 2000000
namespace DL
open PySem PySem.SeqAt PySem.Spec PyProof.Rows L2

/-! ### the pen is made -/
abbrev rIntC : List V → Hp → VK → Prop := fun xs H Q => (∃ i, xs = [.int i] ∧ Q (.int i) H) ∨ ∃ k, xs = [.bl k] ∧ Q (.int (if k then 1 else 0)) H
abbrev rLstC (K : PySem.W.Frag) : List V → Hp → VK → Prop := fun xs H Q => ∃ p ys, xs = [.ref p] ∧ (SqL K H p ys ∨ SqT K H p ys) ∧ ∀ l, H l = none → Q (.ref l) (upd H l (.lst ys))
abbrev tPen (K : PySem.W.Frag) (a m : Int) : TS := tSeq (tAsg (tC (.int 0)) (gName 1))
  (tSeq (tFor (iList K (tVar 0)) (gName 2) (tAsg (tOp (rI (fun _ j => 0 < j) fun i j => .int (i % j)) (tCB rIntC (tCons (tOp (rI0 fun i j => .int (i + j)) (tOp (rI CMul fun i j => .int (i * j)) (tVar 1) (tC (.int a))) (tVar 2)) tNil)) (tC (.int m))) (gName 1)))
  (tRet (tDisp [(tC (.str "cells"), tCB (rLstC K) (tCons (tVar 0) tNil)), (tC (.str "at"), tC (.int 0)), (tC (.str "digits"), tC (.int 0)), (tC (.str "count"), tC (.int 0)), (tC (.str "fold"), tVar 1)])))
def spPen (K : PySem.W.Frag) : Sp := fun vs H Q _ => ∃ (a : Addr) (ns : List Int), vs = [.ref a] ∧ SqL K H a (ns.map V.int) ∧ ns.length ≤ 63 ∧
  ∀ (p lc : Addr) (w : Wd) (H' : Hp), H' p = some (.dK (penKvs lc w)) → H' lc = some (.lst (w.cells.map V.int)) → lc ≠ p → Q (.ref p) H'
section
variable {P : Program} {w : World} {K : PySem.W.Frag} {mg : Str → Option Value} {base : Heap}
theorem pen_ok {st : Stmt} {f : Addr} {fd : FuncData} {N ps : List Str} {a m : Int} (F : Fun K "_law_pen" "_law_pen" st f fd) (S : FnScope N ps (defScope st)) (hN : N.length = 3) (hps : ps.length = 1) (ha : 0 ≤ a ∧ a < 2 ^ 64) (hm : 0 < m ∧ m < 2 ^ 31)
    (hb : ∀ (cdv : Value) (A : Around) (outer : List PySem.Env) (s : Shared) (H : Hp) (E : XK), PSs (cxOf (L2.CX P w) P w K mg base N "_law_pen" (defScope st) f cdv A outer s H E) (defBody st) (tPen K a m)) :
    FnOk P w K mg base (L2.CX P w) 1 f fd ps (spPen K) := by
  refine F.okX S (fun vs H Q E h => ?_) (fun cdv A outer s H vs Q E hr h => ⟨_, hb cdv A outer s H E, ?_⟩)
  · obtain ⟨_, _, rfl, _⟩ := h
    rw [hps]; rfl
  · obtain ⟨x, ns, rfl, hS, hl, q⟩ := h
    obtain ⟨n0, n1, n2, rfl⟩ : ∃ n0 n1 n2, N = [n0, n1, n2] := by
      match N, hN with
      | [n0, n1, n2], _ => exact ⟨n0, n1, n2, rfl⟩
    refine ⟨.ref x, rfl, x, rfl, ⟨_, hS⟩, for_list (K := K) (a := x) (xs := ns.map V.int) (fun i σ H' => ∃ (z : Int) (v : Option V), σ = [some (.ref x), some (.int z), v] ∧ H' = H ∧ 0 ≤ z ∧ z < 2 ^ 31) ⟨0, none, rfl, rfl, by omega, by omega⟩ (fun i σ H' _ ⟨_, _, _, e, _⟩ => by subst e; exact hS) ?_ ?_⟩
    · rintro i y σ H' hi ⟨z, v, rfl, rfl, h0, h1⟩
      obtain ⟨u, rfl⟩ : ∃ u, y = V.int u := by
        rw [List.getElem?_map] at hi
        cases e : ns[i]? with
        | none => rw [e] at hi; cases hi
        | some u => rw [e] at hi; exact ⟨u, (Option.some.inj hi).symm⟩
      refine ⟨.int z, rfl, z, a, rfl, rfl, .inl ⟨by omega, by omega⟩, .int u, rfl, z * a, u, rfl, rfl, .inl ⟨_, rfl, _, m, rfl, rfl, hm.1, ?_⟩⟩
      exact ⟨(z * a + u) % m, some (.int u), rfl, rfl, Int.emod_nonneg _ (by omega), by have := Int.emod_lt_of_pos (z * a + u) hm.1; omega⟩
    · rintro σ H' ⟨z, v, rfl, rfl, h0, h1⟩
      intro p hp
      have hS2 : SqL K (upd H' p (.dK [])) x (ns.map V.int) := (same_new hp).seq hS
      refine ⟨.ref x, rfl, x, _, rfl, .inl hS2, fun l hll => ?_⟩
      have hlp : l ≠ p := fun e => by rw [e, upd_same] at hll; cases hll
      refine ⟨.int z, rfl, by rw [upd_ne (Ne.symm hlp), upd_same], [(.inr "cells", .ref l), (.inr "at", .int 0), (.inr "digits", .int 0), (.inr "count", .int 0), (.inr "fold", .int z)], rfl, (by show 5 ≤ 15; decide), ?_⟩
      exact q p l ⟨ns, 0, 0, 0, z, by omega, by omega, by omega, h0, h1, hl⟩ _ upd_same (by rw [upd_ne hlp, upd_same]) hlp
/-! ### the law -/
def spLaw (K : PySem.W.Frag) : Sp := fun vs H Q _ => ∃ (a : Addr) (ns : List Int), vs = [.ref a] ∧ SqL K H a (ns.map V.int) ∧ ns.length ≤ 63 ∧ ∀ H', Q (.bl true) H'
def lawE (n : Nat) : Env := none :: some (.pen, false) :: List.replicate (n - 2) none
theorem law_ok {st : Stmt} {f : Addr} {fd : FuncData} {N ps : List Str} {k : Nat} {g : SM} (F : Fun K "law" "law" st f fd) (S : FnScope N ps (defScope st)) (hN : 2 ≤ N.length) (hps : ps.length = 1)
    (hb : ∀ (cdv : Value) (A : Around) (outer : List PySem.Env) (s : Shared) (H : Hp) (E : XK), Room k (A.deeper (envOfC "law" (defScope st) s.heap.objs.size f cdv)) → PSs (cxOf (L2.CX P w) P w K mg base N "law" (defScope st) f cdv A outer s H E) (defBody st)
      (tSeq (tAsg (tCall (spPen K) [] E0 (tCons (tVar 0) tNil)) (gName 1)) (tVS K mg (fun cls d _ H => E cls d H) g)))
    (plain : ∀ w : Wd, ∃ w', (g (lawE N.length) w).res = .ok (.bl true) w') : FnOk P w K mg base (L2.CX P w) (k + 1) f fd ps (spLaw K) := by
  refine F.okX S (fun vs H Q E h => ?_) (fun cdv A outer s H vs Q E hr h => ⟨_, hb cdv A outer s H E hr, ?_⟩)
  · obtain ⟨_, _, rfl, _⟩ := h
    rw [hps]; rfl
  · obtain ⟨x, ns, rfl, hS, hl, q⟩ := h
    obtain ⟨n0, n1, N2, rfl⟩ : ∃ n0 n1 N2, N = n0 :: n1 :: N2 := by
      match N, hN with
      | n0 :: n1 :: N2, _ => exact ⟨n0, n1, N2, rfl⟩
    refine ⟨.ref x, rfl, x, ns, rfl, hS, hl, fun p lc w0 H' hp hlc ne => ?_⟩
    have e1 : (L2.start (n0 :: n1 :: N2) [.ref x]).set 1 (some (.ref p)) = some (.ref x) :: some (.ref p) :: List.replicate N2.length none := by
      unfold L2.start
      rfl
    show tVS K mg _ g _ ((L2.start (n0 :: n1 :: N2) [.ref x]).set 1 (some (.ref p))) H'
    rw [e1]
    refine ⟨⟨p, lc, fun _ => False, H'⟩, fun _ => False, lawE (n0 :: n1 :: N2).length, w0, ⟨.refl, ⟨_, hp⟩, fun _ z => z.elim, fun _ z => z, fun _ z => z.elim, fun _ z => z.elim, fun z => z, fun i d e => ?_, fun i d e => ?_, fun i j d d' b e => ?_, ?_⟩, ⟨w0.isOk, w0.cl, hp, hlc, fun z => z, fun z => z, ne⟩, ?_⟩
    · cases i with
      | zero => cases e
      | succ i => cases i with
        | zero => cases e; exact ⟨_, rfl, .pen⟩
        | succ i =>
          have e : (List.replicate N2.length (none : Slot))[i]? = some (some (d, false)) := e
          rw [List.getElem?_replicate] at e
          split at e <;> cases e
    · cases i with
      | zero => cases e
      | succ i => cases i with
        | zero => cases e
        | succ i =>
          have e : (List.replicate N2.length (none : Slot))[i]? = some (some (d, true)) := e
          rw [List.getElem?_replicate] at e
          split at e <;> cases e
    · cases i with
      | zero => cases e
      | succ i => cases i with
        | zero => cases e
        | succ i =>
          have e : (List.replicate N2.length (none : Slot))[i]? = some (some (d, true)) := e
          rw [List.getElem?_replicate] at e
          split at e <;> cases e
    · show (List.replicate N2.length (none : Slot)).length + 1 + 1 = (List.replicate N2.length (none : Option V)).length + 1 + 1
      rw [List.length_replicate, List.length_replicate]
    · obtain ⟨w', hw⟩ := plain w0
      cases z : g (lawE (n0 :: n1 :: N2).length) w0 with
      | rt d w1 =>
        rw [z] at hw
        cases hw
        intro v H1 k1 p1 r1
        cases r1
        exact q H1
      | nx r w1 => rw [z] at hw; cases hw
      | bk r w1 => rw [z] at hw; cases hw
      | ct r w1 => rw [z] at hw; cases hw
      | exc n fs r w1 => rw [z] at hw; cases hw
      | bad => rw [z] at hw; cases hw
end
/-- the law's end over a head by facts -/
theorem walk_ofQ {l : PySem.W.OpenLaw} {k : Nat} {q : Program} {loose : List Str} {XP : (Str → Option Value) → Heap → Prop} {fa : List FaB} {fn : List He.FnD} {d : DefRec} {ev : Nat}
    (hn : l.most = some 63) (hdf : d.params.defaults = []) (hdn : d.name = "law") (hr : Room k callerA)
    (F : ∀ (w : World) (mg : Str → Option Value) (a : Addr) (h : Heap) (K : PySem.W.Frag), K.In h → h.Ns mainGlobals mg → mg ("law" : Str) = some (.ref a) → SaysQ fa fn K →
      ∃ fd : FuncData, (∀ (s : Shared) (v : Value), BindsTo s fd ⟨[v], []⟩ [("script", v)]) ∧ ∀ base : Heap, K.In base → base.Ns mainGlobals mg → FnOk l.prog w K mg base (L2.CX l.prog w) k a fd ["script"] (spLaw K)) :
    PySem.W.WalkO q loose XP (hookQ ev fa fn).says l.row.toRowW d [] (fun f vs => PySem.call f vs) := by
  refine Att.attach_call hn hdf fun w s₀ s₁ mg mb f o pm cd doc a vs ns G Y ho hd hcd hmg hobj hints hlen hg => ?_
  obtain ⟨K, KX, c⟩ := Y
  rw [hdn] at hmg
  obtain ⟨fd, hb, hF⟩ := F w mg f _ K KX G.T.g hmg c
  exact law_call KX G.T.g G.T.b G.T.builtins G.T.nolimit hg hobj hints (Nat.le_trans hlen (by decide)) hr hF hb (fun H hO hS => ⟨a, ns, rfl, hS, hlen, fun _ => rfl⟩) fun H e s' => by
    intro h
    obtain ⟨_, _, _, _, _, _, _, _, _, _, _, _, z⟩ := h
    exact z.elim
end DL

set_option Elab.async false
set_option linter.all false
set_option maxRecDepth 100000
set_option maxHeartbeats 2000000
namespace DL
open PySem PySem.SeqAt PySem.Spec PyProof.Rows L2

/-! ### the plain side: comprehensions, loops -/
theorem lcL_pure {vs : List Nat} {g : GM} {ft fe : EM} {r : Env} {w : Wd} {r1 : D → Env} {p : D → Bool} {h : D → D} : ∀ {l acc : List D}, (∀ d ∈ l, g d (wipeE vs r) = some (r1 d)) → (∀ d ∈ l, ft (r1 d) w = .ok (.bl (p d)) w) → (∀ d ∈ l, p d = true → fe (r1 d) w = .ok (h d) w) → acc.length + l.length ≤ sizeLine →
    lcL vs g ft fe r l w acc = .ok (.lst (acc ++ (l.filter p).map h)) w
  | [], acc, _, _, _, _ => by unfold lcL; simp
  | d :: l, acc, h1, h2, h3, hz => by
    have hz' : acc.length + (l.length + 1) ≤ sizeLine := by simpa using hz
    unfold lcL
    rw [h1 d List.mem_cons_self]
    simp only
    rw [h2 d List.mem_cons_self]
    cases e : p d with
    | true =>
      simp only
      rw [h3 d List.mem_cons_self e]
      simp only
      rw [if_pos (by omega), lcL_pure (fun x hx => h1 x (List.mem_cons_of_mem _ hx)) (fun x hx => h2 x (List.mem_cons_of_mem _ hx)) (fun x hx => h3 x (List.mem_cons_of_mem _ hx)) (by rw [List.length_append, List.length_singleton]; omega)]
      rw [List.filter_cons_of_pos e, List.map_cons, List.append_assoc]; rfl
    | false =>
      simp only
      rw [lcL_pure (fun x hx => h1 x (List.mem_cons_of_mem _ hx)) (fun x hx => h2 x (List.mem_cons_of_mem _ hx)) (fun x hx => h3 x (List.mem_cons_of_mem _ hx)) (by omega)]
      rw [List.filter_cons_of_neg (by rw [e]; decide)]
/-- [h d for d in l] -/
theorem lcL_map {vs : List Nat} {g : GM} {fe : EM} {r : Env} {w : Wd} {l : List D} (r1 : D → Env) (h : D → D) (h1 : ∀ d ∈ l, g d (wipeE vs r) = some (r1 d)) (h3 : ∀ d ∈ l, fe (r1 d) w = .ok (h d) w) (hz : l.length ≤ sizeLine) : lcL vs g dYes fe r l w [] = .ok (.lst (l.map h)) w := by
  have := lcL_pure (vs := vs) (g := g) (ft := dYes) (fe := fe) (r := r) (w := w) (r1 := r1) (p := fun _ => true) (h := h) (l := l) (acc := []) h1 (fun _ _ => rfl) (fun d hd _ => h3 d hd) (by simpa using hz)
  rw [this, List.nil_append, List.filter_eq_self.mpr (fun _ _ => rfl)]
/-- [d for d in l if p d] -/
theorem lcL_filter {vs : List Nat} {g : GM} {ft fe : EM} {r : Env} {w : Wd} {l : List D} (r1 : D → Env) (p : D → Bool) (h1 : ∀ d ∈ l, g d (wipeE vs r) = some (r1 d)) (h2 : ∀ d ∈ l, ft (r1 d) w = .ok (.bl (p d)) w) (h3 : ∀ d ∈ l, p d = true → fe (r1 d) w = .ok d w) (hz : l.length ≤ sizeLine) : lcL vs g ft fe r l w [] = .ok (.lst (l.filter p)) w := by
  have := lcL_pure (vs := vs) (g := g) (ft := ft) (fe := fe) (r := r) (w := w) (r1 := r1) (p := p) (h := fun d => d) (l := l) (acc := []) h1 h2 h3 (by simpa using hz)
  rw [this, List.nil_append, List.map_id']
/-- elements that are drawn -/
theorem lcL_draw {vs : List Nat} {g : GM} {fe : EM} {r : Env} {r1 : D → Env} {Q : D → D → Prop} : ∀ {l acc : List D} {w : Wd}, (∀ d ∈ l, g d (wipeE vs r) = some (r1 d)) → (∀ d ∈ l, ∀ w, ∃ y w', fe (r1 d) w = .ok y w' ∧ Q d y) → acc.length + l.length ≤ sizeLine →
    ∃ ys w', lcL vs g dYes fe r l w acc = .ok (.lst (acc ++ ys)) w' ∧ Paired Q l ys
  | [], acc, w, _, _, _ => ⟨[], w, by unfold lcL; simp, .nil⟩
  | d :: l, acc, w, h1, h2, hz => by
    have hz' : acc.length + (l.length + 1) ≤ sizeLine := by simpa using hz
    obtain ⟨y, w1, e1, q1⟩ := h2 d List.mem_cons_self w
    obtain ⟨ys, w2, e2, q2⟩ := lcL_draw (vs := vs) (g := g) (fe := fe) (r := r) (r1 := r1) (Q := Q) (l := l) (acc := acc ++ [y]) (w := w1) (fun x hx => h1 x (List.mem_cons_of_mem _ hx)) (fun x hx => h2 x (List.mem_cons_of_mem _ hx)) (by rw [List.length_append, List.length_singleton]; omega)
    refine ⟨y :: ys, w2, ?_, .cons q1 q2⟩
    unfold lcL
    rw [h1 d List.mem_cons_self]
    simp only [dYes]
    rw [e1]
    simp only
    rw [if_pos (by omega), e2, List.append_assoc]; rfl
/-- elements and tests that are drawn; Q of what is kept -/
theorem lcL_drawF {vs : List Nat} {g : GM} {ft fe : EM} {r : Env} {r1 : D → Env} {Q : D → Prop} : ∀ {l acc : List D} {w : Wd}, (∀ d ∈ l, g d (wipeE vs r) = some (r1 d)) → (∀ d ∈ l, ∀ w, ∃ b w', ft (r1 d) w = .ok (.bl b) w' ∧ (b = true → ∀ w, ∃ y w', fe (r1 d) w = .ok y w' ∧ Q y)) → acc.length + l.length ≤ sizeLine →
    ∃ ys w', lcL vs g ft fe r l w acc = .ok (.lst (acc ++ ys)) w' ∧ ys.length ≤ l.length ∧ ∀ y ∈ ys, Q y
  | [], acc, w, _, _, _ => ⟨[], w, by unfold lcL; simp, by simp, by simp⟩
  | d :: l, acc, w, h1, h2, hz => by
    have hz' : acc.length + (l.length + 1) ≤ sizeLine := by simpa using hz
    obtain ⟨b, w1, e1, q1⟩ := h2 d List.mem_cons_self w
    unfold lcL
    rw [h1 d List.mem_cons_self]
    simp only
    rw [e1]
    cases b with
    | true =>
      obtain ⟨y, w2, e2, q2⟩ := q1 rfl w1
      obtain ⟨ys, w3, e3, l3, q3⟩ := lcL_drawF (vs := vs) (g := g) (ft := ft) (fe := fe) (r := r) (r1 := r1) (Q := Q) (l := l) (acc := acc ++ [y]) (w := w2) (fun x hx => h1 x (List.mem_cons_of_mem _ hx)) (fun x hx => h2 x (List.mem_cons_of_mem _ hx)) (by rw [List.length_append, List.length_singleton]; omega)
      refine ⟨y :: ys, w3, ?_, by simpa using l3, fun z hz => ?_⟩
      · simp only
        rw [e2]
        simp only
        rw [if_pos (by omega), e3, List.append_assoc]; rfl
      · rcases List.mem_cons.mp hz with rfl | hz
        · exact q2
        · exact q3 z hz
    | false =>
      obtain ⟨ys, w3, e3, l3, q3⟩ := lcL_drawF (vs := vs) (g := g) (ft := ft) (fe := fe) (r := r) (r1 := r1) (Q := Q) (l := l) (acc := acc) (w := w1) (fun x hx => h1 x (List.mem_cons_of_mem _ hx)) (fun x hx => h2 x (List.mem_cons_of_mem _ hx)) (by omega)
      exact ⟨ys, w3, e3, by simp; omega, q3⟩
/-- a loop that never leaves: I i holds ahead of the i-th turn -/
theorem forL_inv {g : GM} {f : SM} (I : Nat → Env → Prop) : ∀ {l : List D} {i : Nat} {r : Env} {w : Wd}, I i r → (∀ (j : Nat) (d : D) (r : Env) (w : Wd), l[j]? = some d → I (i + j) r → ∃ r1, g d r = some r1 ∧ ∃ r2 w2, f r1 w = .nx r2 w2 ∧ I (i + j + 1) r2) →
    ∃ r2 w2, forL g f l r w = .nx r2 w2 ∧ I (i + l.length) r2
  | [], i, r, w, h, _ => ⟨r, w, rfl, h⟩
  | d :: l, i, r, w, h, hs => by
    obtain ⟨r1, e1, r2, w2, e2, q⟩ := hs 0 d r w rfl h
    obtain ⟨r3, w3, e3, q3⟩ := forL_inv (g := g) (f := f) I (l := l) (i := i + 1) (r := r2) (w := w2) q fun j d' r' w' e h' => by
      have := hs (j + 1) d' r' w' (by simpa using e) (by rw [show i + (j + 1) = i + 1 + j by omega]; exact h')
      rw [show i + (j + 1) + 1 = i + 1 + j + 1 by omega] at this
      exact this
    refine ⟨r3, w3, ?_, by rw [List.length_cons, show i + (l.length + 1) = i + 1 + l.length by omega]; exact q3⟩
    unfold forL
    rw [e1]
    simp only
    rw [e2]
    exact e3
theorem paired_len {α β : Type} {Q : α → β → Prop} {l : List α} {m : List β} (h : Paired Q l m) : l.length = m.length := by
  induction h with
  | nil => rfl
  | cons _ _ ih => rw [List.length_cons, List.length_cons, ih]
theorem paired_mem {α β : Type} {Q : α → β → Prop} {l : List α} {m : List β} (h : Paired Q l m) : ∀ y ∈ m, ∃ x ∈ l, Q x y := by
  induction h with
  | nil => intro y hy; cases hy
  | cons q _ ih =>
    intro y hy
    rcases List.mem_cons.mp hy with rfl | hy
    · exact ⟨_, List.mem_cons_self, q⟩
    · obtain ⟨x, hx, hq⟩ := ih y hy
      exact ⟨x, List.mem_cons_of_mem _ hx, hq⟩
/-! equality -/
mutual
theorem eqv_self : ∀ d : D, d.pl = true → PyData.eqv d.py d.py = true
  | .non, _ => rfl
  | .bl b, _ => by cases b <;> rfl
  | .int i, _ => by simp [D.py, PyData.eqv]
  | .str s, _ => by simp [D.py, PyData.eqv]
  | .tup l, h => by
    have h : D.pls l = true := h
    show PyData.eqv (.tuple (D.pys l)) (.tuple (D.pys l)) = true
    rw [PyData.eqv]; exact eqv_selfs l h
  | .kup l, h => by
    have h : D.pls l = true := h
    show PyData.eqv (.tuple (D.pys l)) (.tuple (D.pys l)) = true
    rw [PyData.eqv]; exact eqv_selfs l h
  | .lst l, h => by
    have h : D.pls l = true := h
    show PyData.eqv (.list (D.pys l)) (.list (D.pys l)) = true
    rw [PyData.eqv]; exact eqv_selfs l h
  | .dic _, h => by cases h
  | .dit _, h => by cases h
  | .obj _ _, h => by cases h
  | .pen, h => by cases h
  | .clo _ _, h => by cases h
theorem eqv_selfs : ∀ l : List D, D.pls l = true → PyData.eqvAll (D.pys l) (D.pys l) = true
  | [], _ => rfl
  | d :: l, h => by
    have h : d.pl = true ∧ D.pls l = true := by simpa [D.pls] using h
    show PyData.eqvAll (d.py :: D.pys l) (d.py :: D.pys l) = true
    rw [PyData.eqvAll, eqv_self d h.1, eqv_selfs l h.2]; rfl
end
theorem eqD_self {d : D} (p : d.pl = true) (z : d.py.depth ≤ 64) : eqD d d = some (.bl true) := by
  unfold eqD
  rw [if_pos (by unfold eqOk; rw [p]; simpa using z), eqv_self d p]
theorem neD_self {d : D} (p : d.pl = true) (z : d.py.depth ≤ 64) : neD d d = some (.bl false) := by
  unfold neD
  rw [if_pos (by unfold eqOk; rw [p]; simpa using z), eqv_self d p]; rfl
theorem eqD_nil {l : List D} (p : D.pls l = true) : eqD (.lst l) (.lst []) = some (.bl l.isEmpty) := by
  unfold eqD
  rw [if_pos]
  · cases l with
    | nil => rfl
    | cons d l => 
      show some (D.bl (PyData.eqv (.list (d.py :: D.pys l)) (.list []))) = _
      rw [PyData.eqv]; rfl
  · unfold eqOk
    have p1 : (D.lst l).pl = true := p
    have p2 : (D.lst []).pl = true := rfl
    rw [p1, p2]
    have : (D.lst []).py.depth = 1 := rfl
    rw [this]
    simp
    omega
theorem neD_nil {l : List D} (p : D.pls l = true) : neD (.lst l) (.lst []) = some (.bl (!l.isEmpty)) := by
  have := eqD_nil p
  unfold eqD at this
  unfold neD
  split at this
  · rename_i h
    rw [if_pos h]
    simp only [Option.some.injEq, D.bl.injEq] at this
    rw [this]
  · cases this
theorem pls_of : ∀ {l : List D}, (∀ d ∈ l, d.pl = true) → D.pls l = true
  | [], _ => rfl
  | d :: l, h => by
    show (d.pl && D.pls l) = true
    rw [h d List.mem_cons_self, pls_of fun x hx => h x (List.mem_cons_of_mem _ hx)]; rfl
theorem eqD_str (a b : Str) : eqD (.str a) (.str b) = some (.bl (decide (a = b))) := by
  unfold eqD
  rw [if_pos (by rfl)]
  show some (D.bl (PyData.eqv (.str a) (.str b))) = _
  rw [PyData.eqv]
  congr 2
theorem neD_str (a b : Str) : neD (.str a) (.str b) = some (.bl (!decide (a = b))) := by
  unfold neD
  rw [if_pos (by rfl)]
  show some (D.bl (!PyData.eqv (.str a) (.str b))) = _
  rw [PyData.eqv]
  congr 3
theorem eqD_int (a b : Int) : eqD (.int a) (.int b) = some (.bl (decide (a = b))) := by
  unfold eqD
  rw [if_pos (by rfl)]
  show some (D.bl (PyData.eqv (.int a) (.int b))) = _
  simp [PyData.eqv]
  exact Bool.eq_iff_iff.mpr (by simp)
theorem neD_int (a b : Int) : neD (.int a) (.int b) = some (.bl (!decide (a = b))) := by
  unfold neD
  rw [if_pos (by rfl)]
  show some (D.bl (!PyData.eqv (.int a) (.int b))) = _
  simp [PyData.eqv]
  exact Bool.eq_iff_iff.mpr (by simp)
end DL

set_option Elab.async false
set_option linter.all false
set_option maxRecDepth 100000
set_option maxHeartbeats 2000000
namespace DL
open PySem PySem.SeqAt PySem.Spec PyProof.Rows L2
/-! ### the draw -/
def Ret (m : Int) (x : SR) : Prop := ∃ d w', x.res = .ok (.int d) w' ∧ 0 ≤ d ∧ d < m
theorem seq_ret {m : Int} {f g : SM} {r : DL.Env} {w : Wd} (P : DL.Env → Wd → Prop) (h : ∃ r1 w1, f r w = .nx r1 w1 ∧ P r1 w1) (k : ∀ r1 w1, P r1 w1 → Ret m (g r1 w1)) : Ret m (sSeq f g r w) := by
  obtain ⟨r1, w1, e, p⟩ := h
  have := k r1 w1 p
  unfold sSeq
  rw [e]
  exact this
theorem putCt_some {z : Int} {w : Wd} (h : 0 ≤ z) : ∃ w', putCt z w = some w' := by unfold putCt; rw [dif_pos h]; exact ⟨_, rfl⟩
theorem putAt_some {z : Int} {w : Wd} (h : 0 ≤ z) : ∃ w', DL.putAt z w = some w' := by unfold DL.putAt; rw [dif_pos h]; exact ⟨_, rfl⟩
theorem putDg_some {z : Int} {w : Wd} (h : 0 ≤ z) : ∃ w', putDg z w = some w' := by unfold putDg; rw [dif_pos h]; exact ⟨_, rfl⟩
theorem putFo_some {z : Int} {w : Wd} (h : 0 ≤ z) (h1 : z < 2 ^ 31) : ∃ w', putFo z w = some w' := by unfold putFo; rw [dif_pos ⟨h, h1⟩]; exact ⟨_, rfl⟩
theorem timesD_s {a b : Int} (h : a.natAbs < 2 ^ 63 ∨ b.natAbs < 2 ^ 63) : timesD (.int a) (.int b) = some (.int (a * b)) := by
  unfold timesD
  refine if_pos ?_
  rcases h with h | h
  · exact (CMul.ok (.inl ⟨by omega, by omega⟩))
  · exact (CMul.ok (.inr ⟨by omega, by omega⟩))
theorem modD_s {a b : Int} (h : b ≠ 0) : modD (.int a) (.int b) = some (.int (a.fmod b)) := by
  unfold modD
  exact if_pos h
theorem fdivD_s {a b : Int} (h : b ≠ 0) (h2 : b.natAbs.log2 < 9000) : fdivD (.int a) (.int b) = some (.int (a.fdiv b)) := by
  unfold fdivD
  exact if_pos ⟨h, h2⟩
theorem plusD_i {a b : Int} : plusD (.int a) (.int b) = some (.int (a + b)) := rfl
theorem subD_i {a b : Int} : subD (.int a) (.int b) = some (.int (a - b)) := rfl
theorem pow18 : powD (.int 10) (.int 18) = some (.int 1000000000000000000) := by
  show (if CPow 10 18 then some (D.int (10 ^ (18 : Int).toNat)) else none) = _
  rw [if_pos (by unfold CPow; decide)]
  rfl
theorem fm {m : Int} (a : Int) (h : 0 < m) : 0 ≤ a.fmod m ∧ a.fmod m < m := by
  rw [Int.fmod_eq_emod_of_nonneg a (by omega)]
  exact ⟨Int.emod_nonneg _ (by omega), Int.emod_lt_of_pos _ h⟩
theorem fd {a m : Int} (h : 0 < m) (h0 : 0 ≤ a) : 0 ≤ a.fdiv m := by
  rw [Int.fdiv_eq_ediv_of_nonneg a (by omega)]
  exact Int.ediv_nonneg h0 (by omega)
def drawG (a1 m1 a2 a3 a4 m2 a5 m3 a6 a7 m4 : Int) : SM := (sSeq (sPen 0 putCt (dBin plusD (dPen 0 Wd.ct) (dC (.int 1)))) (sSeq (sIf (dAnd (dBin eqD (dPen 0 Wd.dg) (dC (.int 0))) (dBin ltD (dPen 0 Wd.at_) (dPen 0 fun w => w.cells.length))) (sSeq (sSet 2 [] (dCell 0)) (sSeq (sPen 0 DL.putAt (dBin plusD (dPen 0 Wd.at_) (dC (.int 1)))) (sIf (dBin geD (dObs 2) (dBin powD (dC (.int 10)) (dC (.int 18)))) (sPen 0 putDg (dBin subD (dObs 2) (dBin powD (dC (.int 10)) (dC (.int 18))))) (sPen 0 putFo (dBin modD (dB intD (aCons (dBin plusD (dBin timesD (dPen 0 Wd.fo) (dC (.int a1))) (dObs 2)) aNil)) (dC (.int m1))))))) sNext) (sSeq (sIf (dBin gtD (dPen 0 Wd.dg) (dC (.int 0))) (sSeq (sSet 3 [] (dBin modD (dB intD (aCons (dPen 0 Wd.dg) aNil)) (dObs 1))) (sSeq (sPen 0 putDg (dBin fdivD (dPen 0 Wd.dg) (dObs 1))) (sRet (dVar 3)))) sNext) (sSeq (sSet 4 [] (dBin modD (dB intD (aCons (dBin plusD (dBin plusD (dBin timesD (dPen 0 Wd.fo) (dC (.int a2))) (dBin timesD (dPen 0 Wd.ct) (dC (.int a3)))) (dC (.int a4))) aNil)) (dC (.int m2)))) (sSeq (sSet 4 [] (dBin modD (dB intD (aCons (dBin plusD (dBin plusD (dBin timesD (dObs 4) (dObs 4)) (dBin timesD (dC (.int a5)) (dObs 4))) (dPen 0 Wd.ct)) aNil)) (dC (.int m3)))) (sSeq (sPen 0 putFo (dBin modD (dB intD (aCons (dBin plusD (dBin timesD (dObs 4) (dC (.int a6))) (dC (.int a7))) aNil)) (dC (.int m4)))) (sRet (dBin modD (dB intD (aCons (dBin fdivD (dObs 4) (dC (.int 64))) aNil)) (dObs 1)))))))))
theorem atI_some {l : List Int} {i : Int} (h0 : 0 ≤ i) (h1 : i < l.length) : ∃ c, L2.atI (l.map D.int) i = some (.int c) := by
  have h2 : i.toNat < l.length := by omega
  refine ⟨l[i.toNat], ?_⟩
  unfold L2.atI ixN
  rw [List.length_map, if_pos h0, if_pos h1]
  show (l.map D.int)[i.toNat]? = _
  rw [List.getElem?_map, List.getElem?_eq_getElem h2]; rfl
theorem draw_ok {a1 m1 a2 a3 a4 m2 a5 m3 a6 a7 m4 m : Int} (w : Wd) (h : 0 < m) (hz : m.natAbs.log2 < 9000) (hc : a1.natAbs < 2 ^ 63 ∧ a2.natAbs < 2 ^ 63 ∧ a3.natAbs < 2 ^ 63 ∧ a5.natAbs < 2 ^ 63 ∧ a6.natAbs < 2 ^ 63 ∧ 0 < m1 ∧ m1 < 2 ^ 31 ∧ 0 < m2 ∧ m2 < 2 ^ 31 ∧ 0 < m3 ∧ m3 < 2 ^ 31 ∧ 0 < m4 ∧ m4 < 2 ^ 31 := by decide) :
    ∃ d w', runD 5 (drawG a1 m1 a2 a3 a4 m2 a5 m3 a6 a7 m4) [.pen, .int m] w = .ok (.int d) w' ∧ 0 ≤ d ∧ d < m := by
  obtain ⟨c1, c2, c3, c4, c5, c6, c7, c8, c9, c10, c11, c12, c13⟩ := hc
  show Ret m (drawG a1 m1 a2 a3 a4 m2 a5 m3 a6 a7 m4 (startE 5 [.pen, .int m]) w)
  unfold drawG
  have hm0 : m ≠ 0 := by omega
  refine seq_ret (fun r _ => ∃ x, r = [some (.pen, false), some (.int m, false), x, none, none]) ?_ ?_
  · have := w.ct0
    obtain ⟨w1, e⟩ := putCt_some (z := w.ct + 1) (w := w) (by omega)
    exact ⟨_, w1, by simp only [sPen, dPen, penI, dCell, intD, geD, gtD, plusD_i, subD_i, pow18, runD, startE, SR.res, sSeq, SR.seq, sIf, Res.en, sRet, sSet, sSetO, sSetF, dVar, dObs, dC, dBin, dUn, Res.bind, Res.of, dNot, dAnd, dOr, dIf, dChain, dB, ResI.toR, aNil, aCons, ResI.mapA, dCall, dTup, dLst, sNext, rel, List.mapIdx_cons, List.mapIdx_nil, List.map_cons, List.map_nil, List.cons_append, List.nil_append, List.append_nil, List.length_cons, List.length_nil, List.replicate_succ, List.replicate_zero, List.getElem?_cons_zero, List.getElem?_cons_succ, all_, these, List.set_cons_zero, List.set_cons_succ, Bool.not_true, Bool.not_false, Bool.and_false, Bool.and_true, Bool.false_and, Bool.true_and, Nat.reduceAdd, Nat.reduceSub, dComp, iSigns, Res.toI, signsD, iSeq, itemsD, dM, leD, gtD, ltD, isiD, List.contains_nil, Int.reduceLE, Int.reduceLT, decide_true, decide_false, Option.map_some, if_true, if_false, Nat.zero_le, sizeLine_eq, Nat.reduceLeDiff, e], none, rfl⟩
  clear w
  rintro _ w ⟨x, rfl⟩
  refine seq_ret (fun r _ => ∃ x, r = [some (.pen, false), some (.int m, false), x, none, none]) ?_ ?_
  · cases b1 : decide (w.dg = 0) with
    | false => exact ⟨_, w, by simp only [sPen, dPen, penI, dCell, intD, geD, gtD, plusD_i, subD_i, pow18, runD, startE, SR.res, sSeq, SR.seq, sIf, Res.en, sRet, sSet, sSetO, sSetF, dVar, dObs, dC, dBin, dUn, Res.bind, Res.of, dNot, dAnd, dOr, dIf, dChain, dB, ResI.toR, aNil, aCons, ResI.mapA, dCall, dTup, dLst, sNext, rel, List.mapIdx_cons, List.mapIdx_nil, List.map_cons, List.map_nil, List.cons_append, List.nil_append, List.append_nil, List.length_cons, List.length_nil, List.replicate_succ, List.replicate_zero, List.getElem?_cons_zero, List.getElem?_cons_succ, all_, these, List.set_cons_zero, List.set_cons_succ, Bool.not_true, Bool.not_false, Bool.and_false, Bool.and_true, Bool.false_and, Bool.true_and, Nat.reduceAdd, Nat.reduceSub, dComp, iSigns, Res.toI, signsD, iSeq, itemsD, dM, leD, gtD, ltD, isiD, List.contains_nil, Int.reduceLE, Int.reduceLT, decide_true, decide_false, Option.map_some, if_true, if_false, Nat.zero_le, sizeLine_eq, Nat.reduceLeDiff, eqD_int, b1]; rfl, x, by cases x <;> rfl⟩
    | true =>
      by_cases b2 : w.at_ < w.cells.length
      · obtain ⟨c, ec⟩ := atI_some w.at0 b2
        have h0 := w.at0
        obtain ⟨w1, e1⟩ := putAt_some (z := w.at_ + 1) (w := w) (by omega)
        by_cases b3 : (1000000000000000000 : Int) ≤ c
        · obtain ⟨w2, e2⟩ := putDg_some (z := c - 1000000000000000000) (w := w1) (by omega)
          exact ⟨_, w2, by simp only [sPen, dPen, penI, dCell, intD, geD, gtD, plusD_i, subD_i, pow18, runD, startE, SR.res, sSeq, SR.seq, sIf, Res.en, sRet, sSet, sSetO, sSetF, dVar, dObs, dC, dBin, dUn, Res.bind, Res.of, dNot, dAnd, dOr, dIf, dChain, dB, ResI.toR, aNil, aCons, ResI.mapA, dCall, dTup, dLst, sNext, rel, List.mapIdx_cons, List.mapIdx_nil, List.map_cons, List.map_nil, List.cons_append, List.nil_append, List.append_nil, List.length_cons, List.length_nil, List.replicate_succ, List.replicate_zero, List.getElem?_cons_zero, List.getElem?_cons_succ, all_, these, List.set_cons_zero, List.set_cons_succ, Bool.not_true, Bool.not_false, Bool.and_false, Bool.and_true, Bool.false_and, Bool.true_and, Nat.reduceAdd, Nat.reduceSub, dComp, iSigns, Res.toI, signsD, iSeq, itemsD, dM, leD, gtD, ltD, isiD, List.contains_nil, Int.reduceLE, Int.reduceLT, decide_true, decide_false, Option.map_some, if_true, if_false, Nat.zero_le, sizeLine_eq, Nat.reduceLeDiff, eqD_int, b1, b2, ec, e1, b3, e2]; rfl, _, rfl⟩
        · have g := fm (m := m1) (w1.fo * a1 + c) c6
          obtain ⟨w2, e2⟩ := putFo_some (z := (w1.fo * a1 + c).fmod m1) (w := w1) g.1 (by omega)
          exact ⟨_, w2, by simp only [sPen, dPen, penI, dCell, intD, geD, gtD, plusD_i, subD_i, pow18, runD, startE, SR.res, sSeq, SR.seq, sIf, Res.en, sRet, sSet, sSetO, sSetF, dVar, dObs, dC, dBin, dUn, Res.bind, Res.of, dNot, dAnd, dOr, dIf, dChain, dB, ResI.toR, aNil, aCons, ResI.mapA, dCall, dTup, dLst, sNext, rel, List.mapIdx_cons, List.mapIdx_nil, List.map_cons, List.map_nil, List.cons_append, List.nil_append, List.append_nil, List.length_cons, List.length_nil, List.replicate_succ, List.replicate_zero, List.getElem?_cons_zero, List.getElem?_cons_succ, all_, these, List.set_cons_zero, List.set_cons_succ, Bool.not_true, Bool.not_false, Bool.and_false, Bool.and_true, Bool.false_and, Bool.true_and, Nat.reduceAdd, Nat.reduceSub, dComp, iSigns, Res.toI, signsD, iSeq, itemsD, dM, leD, gtD, ltD, isiD, List.contains_nil, Int.reduceLE, Int.reduceLT, decide_true, decide_false, Option.map_some, if_true, if_false, Nat.zero_le, sizeLine_eq, Nat.reduceLeDiff, eqD_int, b1, b2, ec, e1, b3, e2, timesD_s (.inr c1), modD_s (show m1 ≠ 0 by omega)]; rfl, _, rfl⟩
      · exact ⟨_, w, by simp only [sPen, dPen, penI, dCell, intD, geD, gtD, plusD_i, subD_i, pow18, runD, startE, SR.res, sSeq, SR.seq, sIf, Res.en, sRet, sSet, sSetO, sSetF, dVar, dObs, dC, dBin, dUn, Res.bind, Res.of, dNot, dAnd, dOr, dIf, dChain, dB, ResI.toR, aNil, aCons, ResI.mapA, dCall, dTup, dLst, sNext, rel, List.mapIdx_cons, List.mapIdx_nil, List.map_cons, List.map_nil, List.cons_append, List.nil_append, List.append_nil, List.length_cons, List.length_nil, List.replicate_succ, List.replicate_zero, List.getElem?_cons_zero, List.getElem?_cons_succ, all_, these, List.set_cons_zero, List.set_cons_succ, Bool.not_true, Bool.not_false, Bool.and_false, Bool.and_true, Bool.false_and, Bool.true_and, Nat.reduceAdd, Nat.reduceSub, dComp, iSigns, Res.toI, signsD, iSeq, itemsD, dM, leD, gtD, ltD, isiD, List.contains_nil, Int.reduceLE, Int.reduceLT, decide_true, decide_false, Option.map_some, if_true, if_false, Nat.zero_le, sizeLine_eq, Nat.reduceLeDiff, eqD_int, b1, b2]; rfl, x, by cases x <;> rfl⟩
  clear w x
  rintro _ w ⟨x, rfl⟩
  by_cases b1 : 0 < w.dg
  · have g := fm (m := m) w.dg h
    obtain ⟨w1, e1⟩ := putDg_some (z := w.dg.fdiv m) (w := w) (fd h w.dg0)
    exact ⟨_, w1, by cases x <;> simp only [sPen, dPen, penI, dCell, intD, geD, gtD, plusD_i, subD_i, pow18, runD, startE, SR.res, sSeq, SR.seq, sIf, Res.en, sRet, sSet, sSetO, sSetF, dVar, dObs, dC, dBin, dUn, Res.bind, Res.of, dNot, dAnd, dOr, dIf, dChain, dB, ResI.toR, aNil, aCons, ResI.mapA, dCall, dTup, dLst, sNext, rel, List.mapIdx_cons, List.mapIdx_nil, List.map_cons, List.map_nil, List.cons_append, List.nil_append, List.append_nil, List.length_cons, List.length_nil, List.replicate_succ, List.replicate_zero, List.getElem?_cons_zero, List.getElem?_cons_succ, all_, these, List.set_cons_zero, List.set_cons_succ, Bool.not_true, Bool.not_false, Bool.and_false, Bool.and_true, Bool.false_and, Bool.true_and, Nat.reduceAdd, Nat.reduceSub, dComp, iSigns, Res.toI, signsD, iSeq, itemsD, dM, leD, gtD, ltD, isiD, List.contains_nil, Int.reduceLE, Int.reduceLT, decide_true, decide_false, Option.map_some, if_true, if_false, Nat.zero_le, sizeLine_eq, Nat.reduceLeDiff, b1, modD_s hm0, fdivD_s hm0 hz, e1], g⟩
  · refine seq_ret (fun r _ => ∃ x, r = [some (.pen, false), some (.int m, false), x, none, none]) ⟨_, w, by simp only [sPen, dPen, penI, dCell, intD, geD, gtD, plusD_i, subD_i, pow18, runD, startE, SR.res, sSeq, SR.seq, sIf, Res.en, sRet, sSet, sSetO, sSetF, dVar, dObs, dC, dBin, dUn, Res.bind, Res.of, dNot, dAnd, dOr, dIf, dChain, dB, ResI.toR, aNil, aCons, ResI.mapA, dCall, dTup, dLst, sNext, rel, List.mapIdx_cons, List.mapIdx_nil, List.map_cons, List.map_nil, List.cons_append, List.nil_append, List.append_nil, List.length_cons, List.length_nil, List.replicate_succ, List.replicate_zero, List.getElem?_cons_zero, List.getElem?_cons_succ, all_, these, List.set_cons_zero, List.set_cons_succ, Bool.not_true, Bool.not_false, Bool.and_false, Bool.and_true, Bool.false_and, Bool.true_and, Nat.reduceAdd, Nat.reduceSub, dComp, iSigns, Res.toI, signsD, iSeq, itemsD, dM, leD, gtD, ltD, isiD, List.contains_nil, Int.reduceLE, Int.reduceLT, decide_true, decide_false, Option.map_some, if_true, if_false, Nat.zero_le, sizeLine_eq, Nat.reduceLeDiff, b1]; rfl, x, by cases x <;> rfl⟩ ?_
    clear w x b1
    rintro _ w ⟨x, rfl⟩
    refine seq_ret (fun r _ => ∃ x z, r = [some (.pen, false), some (.int m, false), x, none, some (.int z, false)] ∧ 0 ≤ z ∧ z < 2 ^ 31) ?_ ?_
    · have g := fm (m := m2) (w.fo * a2 + w.ct * a3 + a4) c8
      exact ⟨_, w, by simp only [sPen, dPen, penI, dCell, intD, geD, gtD, plusD_i, subD_i, pow18, runD, startE, SR.res, sSeq, SR.seq, sIf, Res.en, sRet, sSet, sSetO, sSetF, dVar, dObs, dC, dBin, dUn, Res.bind, Res.of, dNot, dAnd, dOr, dIf, dChain, dB, ResI.toR, aNil, aCons, ResI.mapA, dCall, dTup, dLst, sNext, rel, List.mapIdx_cons, List.mapIdx_nil, List.map_cons, List.map_nil, List.cons_append, List.nil_append, List.append_nil, List.length_cons, List.length_nil, List.replicate_succ, List.replicate_zero, List.getElem?_cons_zero, List.getElem?_cons_succ, all_, these, List.set_cons_zero, List.set_cons_succ, Bool.not_true, Bool.not_false, Bool.and_false, Bool.and_true, Bool.false_and, Bool.true_and, Nat.reduceAdd, Nat.reduceSub, dComp, iSigns, Res.toI, signsD, iSeq, itemsD, dM, leD, gtD, ltD, isiD, List.contains_nil, Int.reduceLE, Int.reduceLT, decide_true, decide_false, Option.map_some, if_true, if_false, Nat.zero_le, sizeLine_eq, Nat.reduceLeDiff, timesD_s (.inr c2), timesD_s (.inr c3), modD_s (show m2 ≠ 0 by omega)]; rfl, x, _, by cases x <;> rfl, g.1, by omega⟩
    clear w x
    rintro _ w ⟨x, z, rfl, z0, z1⟩
    refine seq_ret (fun r _ => ∃ x z, r = [some (.pen, false), some (.int m, false), x, none, some (.int z, false)] ∧ 0 ≤ z ∧ z < 2 ^ 31) ?_ ?_
    · have g := fm (m := m3) (z * z + a5 * z + w.ct) c10
      exact ⟨_, w, by simp only [sPen, dPen, penI, dCell, intD, geD, gtD, plusD_i, subD_i, pow18, runD, startE, SR.res, sSeq, SR.seq, sIf, Res.en, sRet, sSet, sSetO, sSetF, dVar, dObs, dC, dBin, dUn, Res.bind, Res.of, dNot, dAnd, dOr, dIf, dChain, dB, ResI.toR, aNil, aCons, ResI.mapA, dCall, dTup, dLst, sNext, rel, List.mapIdx_cons, List.mapIdx_nil, List.map_cons, List.map_nil, List.cons_append, List.nil_append, List.append_nil, List.length_cons, List.length_nil, List.replicate_succ, List.replicate_zero, List.getElem?_cons_zero, List.getElem?_cons_succ, all_, these, List.set_cons_zero, List.set_cons_succ, Bool.not_true, Bool.not_false, Bool.and_false, Bool.and_true, Bool.false_and, Bool.true_and, Nat.reduceAdd, Nat.reduceSub, dComp, iSigns, Res.toI, signsD, iSeq, itemsD, dM, leD, gtD, ltD, isiD, List.contains_nil, Int.reduceLE, Int.reduceLT, decide_true, decide_false, Option.map_some, if_true, if_false, Nat.zero_le, sizeLine_eq, Nat.reduceLeDiff, timesD_s (.inl (show z.natAbs < 2 ^ 63 by omega)), timesD_s (.inl c4), modD_s (show m3 ≠ 0 by omega)]; rfl, x, _, by cases x <;> rfl, g.1, by omega⟩
    clear w x z0 z1 z
    rintro _ w ⟨x, z, rfl, z0, z1⟩
    have g := fm (m := m4) (z * a6 + a7) c12
    obtain ⟨w1, e1⟩ := putFo_some (z := (z * a6 + a7).fmod m4) (w := w) g.1 (by omega)
    have g2 := fm (m := m) (z.fdiv 64) h
    exact ⟨_, w1, by cases x <;> simp only [sPen, dPen, penI, dCell, intD, geD, gtD, plusD_i, subD_i, pow18, runD, startE, SR.res, sSeq, SR.seq, sIf, Res.en, sRet, sSet, sSetO, sSetF, dVar, dObs, dC, dBin, dUn, Res.bind, Res.of, dNot, dAnd, dOr, dIf, dChain, dB, ResI.toR, aNil, aCons, ResI.mapA, dCall, dTup, dLst, sNext, rel, List.mapIdx_cons, List.mapIdx_nil, List.map_cons, List.map_nil, List.cons_append, List.nil_append, List.append_nil, List.length_cons, List.length_nil, List.replicate_succ, List.replicate_zero, List.getElem?_cons_zero, List.getElem?_cons_succ, all_, these, List.set_cons_zero, List.set_cons_succ, Bool.not_true, Bool.not_false, Bool.and_false, Bool.and_true, Bool.false_and, Bool.true_and, Nat.reduceAdd, Nat.reduceSub, dComp, iSigns, Res.toI, signsD, iSeq, itemsD, dM, leD, gtD, ltD, isiD, List.contains_nil, Int.reduceLE, Int.reduceLT, decide_true, decide_false, Option.map_some, if_true, if_false, Nat.zero_le, sizeLine_eq, Nat.reduceLeDiff, timesD_s (.inr c5), modD_s (show m4 ≠ 0 by omega), e1, fdivD_s (show (64 : Int) ≠ 0 by decide) (by decide), modD_s hm0], g2⟩
theorem log2_s {m : Int} (h0 : 0 < m) (h : m < 2 ^ 60) : m.natAbs.log2 < 9000 := by
  have h2 : m.natAbs ≠ 0 := by omega
  exact Nat.lt_of_lt_of_le ((Nat.log2_lt h2).mpr (show m.natAbs < 2 ^ 60 by omega)) (by decide)
/-- a draw below m -/
def DrawOk (Fd : List D → Wd → Res) : Prop := ∀ (m : Int) (w : Wd), 0 < m → m.natAbs.log2 < 9000 → ∃ d w', Fd [.pen, .int m] w = .ok (.int d) w' ∧ 0 ≤ d ∧ d < m
def pickG (Fd : List D → Wd → Res) : SM := (sRet (dBin ixD (dObs 1) (dCall Fd (aCons (dVar 0) (aCons (dB lenD (aCons (dObs 1) aNil)) aNil)))))
theorem atI_mem {α : Type} {l : List α} {i : Int} (h0 : 0 ≤ i) (h1 : i < l.length) : ∃ x, L2.atI l i = some x ∧ x ∈ l := by
  have h2 : i.toNat < l.length := by omega
  refine ⟨l[i.toNat], ?_, List.getElem_mem h2⟩
  unfold L2.atI ixN
  rw [if_pos h0, if_pos h1]
  show l[i.toNat]? = _
  rw [List.getElem?_eq_getElem h2]
theorem pick_l {Fd : List D → Wd → Res} (hd : DrawOk Fd) {l : List D} (w : Wd) (h : l ≠ []) (hz : l.length < 2 ^ 60) : ∃ x w', runD 2 (pickG Fd) [.pen, .lst l] w = .ok x w' ∧ x ∈ l := by
  have hl : 0 < l.length := List.length_pos_iff.mpr h
  obtain ⟨d, w', e, d0, d1⟩ := hd (l.length : Int) w (by omega) (log2_s (by omega) (by omega))
  obtain ⟨x, ex, hx⟩ := atI_mem (l := l) d0 d1
  refine ⟨x, w', ?_, hx⟩
  unfold pickG
  simp only [runD, startE, SR.res, sSeq, SR.seq, sIf, Res.en, sRet, sSet, sSetO, sSetF, dVar, dObs, dC, dBin, dUn, Res.bind, Res.of, dNot, dAnd, dOr, dIf, dChain, dB, ResI.toR, aNil, aCons, ResI.mapA, dCall, dTup, dLst, sNext, rel, List.mapIdx_cons, List.mapIdx_nil, List.map_cons, List.map_nil, List.cons_append, List.nil_append, List.append_nil, List.length_cons, List.length_nil, List.replicate_succ, List.replicate_zero, List.getElem?_cons_zero, List.getElem?_cons_succ, all_, these, List.set_cons_zero, List.set_cons_succ, Bool.not_true, Bool.not_false, Bool.and_false, Bool.and_true, Bool.false_and, Bool.true_and, Nat.reduceAdd, Nat.reduceSub, dComp, iSigns, Res.toI, signsD, iSeq, itemsD, dM, leD, gtD, ltD, isiD, List.contains_nil, Int.reduceLE, Int.reduceLT, decide_true, decide_false, Option.map_some, if_true, if_false, Nat.zero_le, sizeLine_eq, Nat.reduceLeDiff, lenD, e, ixD, ex]
theorem pick_s {Fd : List D → Wd → Res} (hd : DrawOk Fd) {s : Str} (w : Wd) (h : s.cps.toList ≠ []) (hz : s.length ≤ 16777216) : ∃ c w', runD 2 (pickG Fd) [.pen, .str s] w = .ok (.str ⟨#[c]⟩) w' ∧ c ∈ s.cps.toList := by
  have hl : 0 < s.cps.toList.length := List.length_pos_iff.mpr h
  have e0 : s.length = s.cps.toList.length := TL.len_tl s
  obtain ⟨d, w', e, d0, d1⟩ := hd (s.length : Int) w (by omega) (log2_s (by omega) (by omega))
  obtain ⟨c, ex, hx⟩ := atI_mem (l := s.cps.toList) d0 (by omega)
  refine ⟨c, w', ?_, hx⟩
  have e1 : lenD [.str s] = some (.int s.length) := if_pos hz
  have e2 : ixD (.str s) (.int d) = some (.str ⟨#[c]⟩) := by
    show (if s.length ≤ sizeLine then (L2.atI s.cps.toList d).map fun c => D.str ⟨#[c]⟩ else none) = _
    rw [if_pos (show s.length ≤ sizeLine from hz), ex]; rfl
  unfold pickG
  simp only [runD, startE, SR.res, sSeq, SR.seq, sIf, Res.en, sRet, sSet, sSetO, sSetF, dVar, dObs, dC, dBin, dUn, Res.bind, Res.of, dNot, dAnd, dOr, dIf, dChain, dB, ResI.toR, aNil, aCons, ResI.mapA, dCall, dTup, dLst, sNext, rel, List.mapIdx_cons, List.mapIdx_nil, List.map_cons, List.map_nil, List.cons_append, List.nil_append, List.append_nil, List.length_cons, List.length_nil, List.replicate_succ, List.replicate_zero, List.getElem?_cons_zero, List.getElem?_cons_succ, all_, these, List.set_cons_zero, List.set_cons_succ, Bool.not_true, Bool.not_false, Bool.and_false, Bool.and_true, Bool.false_and, Bool.true_and, Nat.reduceAdd, Nat.reduceSub, dComp, iSigns, Res.toI, signsD, iSeq, itemsD, dM, leD, gtD, ltD, isiD, List.contains_nil, Int.reduceLE, Int.reduceLT, decide_true, decide_false, Option.map_some, if_true, if_false, Nat.zero_le, sizeLine_eq, Nat.reduceLeDiff, e1, e, e2]
end DL

set_option Elab.async false
set_option linter.all false
set_option maxRecDepth 100000
set_option maxHeartbeats 4000000
namespace L_k13
open PySem PySem.SeqAt PySem.Spec PyProof.Rows L2 DL
/-! ### the text by places -/
def top (i : Nat) : Stmt := PySem.Challenge.pw_leastwaits_k13_words.main.body.getD i (.Pass ⟨0, 0, 0, 0⟩)
abbrev s__law_pen : Stmt := top 18
abbrev s__law_draw : Stmt := top 19
abbrev s__law_pick : Stmt := top 20
abbrev s__law_keywords : Stmt := top 21
abbrev s__law_sign : Stmt := top 26
abbrev s__law_strange : Stmt := top 27
abbrev s__law_drawn_text : Stmt := top 31
abbrev s_split_words : Stmt := top 14
abbrev s_words_of : Stmt := top 15
abbrev s_text_of : Stmt := top 16
abbrev s_is_made_of : Stmt := top 10
abbrev s_is_word : Stmt := top 11
abbrev s_is_name : Stmt := top 12
abbrev s_is_numeral : Stmt := top 13
abbrev s__law_answers : Stmt := top 29
abbrev s__law_fault : Stmt := top 30
abbrev s__law_is_of : Stmt := top 22
abbrev s__law_is_word : Stmt := top 23
abbrev s__law_is_name : Stmt := top 24
abbrev s__law_is_numeral : Stmt := top 25
abbrev s__law_look : Stmt := top 28
abbrev s_law : Stmt := top 32
abbrev si_BadText : Stmt := inClass (top 2) 0
abbrev N__law_pen : List Str := ["script", "fold", "cell"]
abbrev N__law_draw : List Str := ["pen", "many", "cell", "digit", "blend"]
abbrev N__law_pick : List Str := ["pen", "some"]
abbrev N__law_keywords : List Str := ["first"]
abbrev N__law_sign : List Str := ["pen"]
abbrev N__law_strange : List Str := ["pen", "way", "some", "word", "at", "k"]
abbrev N__law_drawn_text : List Str := ["pen", "lines", "due", "number", "words", "line", "word", "k"]
abbrev N_split_words : List Str := ["line", "word"]
abbrev N_words_of : List Str := ["text", "found", "number", "line", "words"]
abbrev N_text_of : List Str := ["lines", "words"]
abbrev N_is_made_of : List Str := ["text", "signs", "sign"]
abbrev N_is_word : List Str := ["value"]
abbrev N_is_name : List Str := ["value"]
abbrev N_is_numeral : List Str := ["value"]
abbrev N__law_answers : List Str := ["value"]
abbrev N__law_fault : List Str := ["value", "found", "error"]
abbrev N__law_is_of : List Str := ["word", "signs", "sign"]
abbrev N__law_is_word : List Str := ["word"]
abbrev N__law_is_name : List Str := ["word"]
abbrev N__law_is_numeral : List Str := ["word"]
abbrev N__law_look : List Str := ["word"]
abbrev N_law : List Str := ["script", "pen", "lap", "word", "answers", "value", "text", "due", "told", "rows", "passed", "plain", "odd", "one", "pair", "number", "words", "k"]
abbrev L_KEYWORDS : List Str := ["sort", "whole", "flag", "sum", "most", "least", "mark", "of", "text", "item", "kind", "number", "from", "set", "clear", "add", "to", "raise", "lower", "word", "rule", "and", "or", "not"]
/-! ### what they come to -/
def g__law_draw : SM := (sSeq (sPen 0 putCt (dBin plusD (dPen 0 Wd.ct) (dC (.int 1)))) (sSeq (sIf (dAnd (dBin eqD (dPen 0 Wd.dg) (dC (.int 0))) (dBin ltD (dPen 0 Wd.at_) (dPen 0 fun w => w.cells.length))) (sSeq (sSet 2 [] (dCell 0)) (sSeq (sPen 0 putAt (dBin plusD (dPen 0 Wd.at_) (dC (.int 1)))) (sIf (dBin geD (dObs 2) (dBin powD (dC (.int 10)) (dC (.int 18)))) (sPen 0 putDg (dBin subD (dObs 2) (dBin powD (dC (.int 10)) (dC (.int 18))))) (sPen 0 putFo (dBin modD (dB intD (aCons (dBin plusD (dBin timesD (dPen 0 Wd.fo) (dC (.int 69069))) (dObs 2)) aNil)) (dC (.int 2147483587))))))) sNext) (sSeq (sIf (dBin gtD (dPen 0 Wd.dg) (dC (.int 0))) (sSeq (sSet 3 [] (dBin modD (dB intD (aCons (dPen 0 Wd.dg) aNil)) (dObs 1))) (sSeq (sPen 0 putDg (dBin fdivD (dPen 0 Wd.dg) (dObs 1))) (sRet (dVar 3)))) sNext) (sSeq (sSet 4 [] (dBin modD (dB intD (aCons (dBin plusD (dBin plusD (dBin timesD (dPen 0 Wd.fo) (dC (.int 16807))) (dBin timesD (dPen 0 Wd.ct) (dC (.int 7853)))) (dC (.int 31))) aNil)) (dC (.int 2147483647)))) (sSeq (sSet 4 [] (dBin modD (dB intD (aCons (dBin plusD (dBin plusD (dBin timesD (dObs 4) (dObs 4)) (dBin timesD (dC (.int 53)) (dObs 4))) (dPen 0 Wd.ct)) aNil)) (dC (.int 2147483629)))) (sSeq (sPen 0 putFo (dBin modD (dB intD (aCons (dBin plusD (dBin timesD (dObs 4) (dC (.int 16807))) (dC (.int 23))) aNil)) (dC (.int 2147483647)))) (sRet (dBin modD (dB intD (aCons (dBin fdivD (dObs 4) (dC (.int 64))) aNil)) (dObs 1)))))))))
def F__law_draw : List D → Wd → Res := runD 5 g__law_draw
def g__law_pick : SM := (sRet (dBin ixD (dObs 1) (dCall F__law_draw (aCons (dVar 0) (aCons (dB lenD (aCons (dObs 1) aNil)) aNil)))))
def F__law_pick : List D → Wd → Res := runD 2 g__law_pick
def g__law_keywords : SM := (sSeq (sSet 0 [] (dLst (aCons (dC (.str "sort")) (aCons (dC (.str "whole")) (aCons (dC (.str "flag")) (aCons (dC (.str "sum")) (aCons (dC (.str "most")) (aCons (dC (.str "least")) (aCons (dC (.str "mark")) (aCons (dC (.str "of")) (aCons (dC (.str "text")) (aCons (dC (.str "item")) (aCons (dC (.str "kind")) (aCons (dC (.str "number")) (aCons (dC (.str "from")) aNil))))))))))))))) (sRet (dBin plusD (dObs 0) (dLst (aCons (dC (.str "set")) (aCons (dC (.str "clear")) (aCons (dC (.str "add")) (aCons (dC (.str "to")) (aCons (dC (.str "raise")) (aCons (dC (.str "lower")) (aCons (dC (.str "word")) (aCons (dC (.str "rule")) (aCons (dC (.str "and")) (aCons (dC (.str "or")) (aCons (dC (.str "not")) aNil)))))))))))))))
def F__law_keywords : List D → Wd → Res := runD 1 g__law_keywords
def g__law_sign : SM := (sRet (dCall F__law_pick (aCons (dVar 0) (aCons (dC (.str "abcdefghijklmnopqrstuvwxyz0123456789ABZ_.-+*()<>=,:~!#")) aNil))))
def F__law_sign : List D → Wd → Res := runD 1 g__law_sign
def g__law_strange : SM := (sSeq (sSet 1 [] (dCall F__law_draw (aCons (dVar 0) (aCons (dC (.int 7)) aNil)))) (sSeq (sIf (dBin eqD (dObs 1) (dC (.int 0))) (sRet (dBin plusD (dCall F__law_pick (aCons (dVar 0) (aCons (dCall F__law_keywords aNil) aNil))) (dCall F__law_pick (aCons (dVar 0) (aCons (dLst (aCons (dC (.str "")) (aCons (dC (.str "")) (aCons (dC (.str "1")) (aCons (dC (.str "s")) aNil))))) aNil))))) sNext) (sSeq (sIf (dBin eqD (dObs 1) (dC (.int 1))) (sRet (dM joinD (dC (.str "")) (dComp [5] (iRange1 (aCons (dCall F__law_pick (aCons (dVar 0) (aCons (dLst (aCons (dC (.int 1)) (aCons (dC (.int 2)) (aCons (dC (.int 39)) (aCons (dC (.int 40)) (aCons (dC (.int 41)) aNil)))))) aNil))) aNil)) (gN 5) dYes (dCall F__law_pick (aCons (dVar 0) (aCons (dC (.str "0123456789")) aNil)))))) sNext) (sSeq (sIf (dBin eqD (dObs 1) (dC (.int 2))) (sRet (dM joinD (dC (.str "")) (dComp [5] (iRange1 (aCons (dCall F__law_draw (aCons (dVar 0) (aCons (dC (.int 5)) aNil))) aNil)) (gN 5) dYes (dCall F__law_sign (aCons (dVar 0) aNil))))) sNext) (sSeq (sSet 2 [] (dC (.str "abcdefghijklmnopqrstuvwxyz0123456789"))) (sSeq (sSet 3 [2] (dM joinD (dC (.str "")) (dComp [5] (iRange1 (aCons (dCall F__law_pick (aCons (dVar 0) (aCons (dLst (aCons (dC (.int 1)) (aCons (dC (.int 2)) (aCons (dC (.int 11)) (aCons (dC (.int 12)) (aCons (dC (.int 13)) (aCons (dC (.int 19)) (aCons (dC (.int 20)) (aCons (dC (.int 21)) (aCons (dC (.int 42)) aNil)))))))))) aNil))) aNil)) (gN 5) dYes (dCall F__law_pick (aCons (dVar 0) (aCons (dVar 2) aNil)))))) (sSeq (sIf (dBin eqD (dObs 1) (dC (.int 3))) (sSeq (sSet 4 [] (dCall F__law_draw (aCons (dVar 0) (aCons (dB lenD (aCons (dObs 3) aNil)) aNil)))) (sSet 3 [] (dBin plusD (dBin plusD (dSl slD (dObs 3) (dC .non) (dIntOnly (dObs 4))) (dCall F__law_sign (aCons (dVar 0) aNil))) (dSl slD (dObs 3) (dIntOnly (dBin plusD (dObs 4) (dC (.int 1)))) (dC .non))))) sNext) (sRet (dVar 3)))))))))
def F__law_strange : List D → Wd → Res := runD 6 g__law_strange
def g__law_drawn_text : SM := (sSeq (sPar 1 2 [] true true (dLst aNil) (dLst aNil)) (sSeq (sFor [] (iRange1 (aCons (dCall F__law_draw (aCons (dVar 0) (aCons (dC (.int 8)) aNil))) aNil)) (gN 3) (sSeq (sSetO 4 [] (dComp [7] (iRange1 (aCons (dCall F__law_pick (aCons (dVar 0) (aCons (dLst (aCons (dC (.int 0)) (aCons (dC (.int 0)) (aCons (dC (.int 1)) (aCons (dC (.int 2)) (aCons (dC (.int 5)) aNil)))))) aNil))) aNil)) (gN 7) dYes (dCall F__law_strange (aCons (dVar 0) aNil)))) (sSeq (sSetO 4 [] (dComp [6] (iSeq (dObs 4)) (gN 6) (dBin neD (dObs 6) (dC (.str ""))) (dBin plusD (dObs 6) (dCall F__law_pick (aCons (dVar 0) (aCons (dLst (aCons (dC (.str "")) (aCons (dC (.str "")) (aCons (dC (.str "\t")) aNil)))) aNil)))))) (sSeq (sSet 5 [] (dCall F__law_pick (aCons (dVar 0) (aCons (dLst (aCons (dC (.str "")) (aCons (dC (.str " ")) (aCons (dC (.str "   ")) aNil)))) aNil)))) (sSeq (sFor [4] (iSeq (dVar 4)) (gN 6) (sSet 5 [] (dBin plusD (dBin plusD (dObs 5) (dObs 6)) (dCall F__law_pick (aCons (dVar 0) (aCons (dLst (aCons (dC (.str " ")) (aCons (dC (.str "  ")) aNil))) aNil)))))) (sSeq (sApp 1 [5] (dIf (dBin eqD (dCall F__law_draw (aCons (dVar 0) (aCons (dC (.int 2)) aNil))) (dC (.int 0))) (dVar 5) (dM rstripD (dObs 5) (dC (.str " "))))) (sIf (dBin neD (dObs 4) (dLst aNil)) (sApp 2 [] (dTup (aCons (dBin plusD (dObs 3) (dC (.int 1))) (aCons (dB tupleD (aCons (dObs 4) aNil)) aNil)))) sNext))))))) (sRet (dTup (aCons (dBin plusD (dM joinD (dC (.str "\n")) (dObs 1)) (dCall F__law_pick (aCons (dVar 0) (aCons (dLst (aCons (dC (.str "")) (aCons (dC (.str "\n")) (aCons (dC (.str "\n\n")) aNil)))) aNil)))) (aCons (dB tupleD (aCons (dObs 2) aNil)) aNil))))))
def F__law_drawn_text : List D → Wd → Res := runD 8 g__law_drawn_text
def g_split_words : SM := (sRet (dComp [1] (iSeq (dM splitD (dObs 0) (dC (.str " ")))) (gN 1) (dBin neD (dObs 1) (dC (.str ""))) (dVar 1)))
def F_split_words : List D → Wd → Res := runD 2 g_split_words
def g_words_of : SM := (sSeq (sIf (dNot (isiD ["str"] (dObs 0))) (sRaise "BadText" ["line", "word"] (aCons (dC (.int 0)) (aCons (dC (.int 0)) aNil))) sNext) (sSeq (sSetO 1 [] (dLst aNil)) (sSeq (sFor [] (iEnum (aCons (dM splitD (dObs 0) (dC (.str "\n"))) aNil)) (gTupD 2 (gCo (gN 2) (gCo (gN 3) gNo))) (sSeq (sSet 4 [3] (dCall F_split_words (aCons (dVar 3) aNil))) (sIf (dBin gtD (dB lenD (aCons (dObs 4) aNil)) (dC (.int 0))) (sApp 1 [] (dTup (aCons (dBin plusD (dObs 2) (dC (.int 1))) (aCons (dB tupleD (aCons (dObs 4) aNil)) aNil)))) sNext))) (sRet (dB tupleD (aCons (dObs 1) aNil))))))
def F_words_of : List D → Wd → Res := runD 5 g_words_of
def g_text_of : SM := (sRet (dM joinD (dC (.str "")) (dComp [1] (iSeq (dObs 0)) (gN 1) dYes (dBin plusD (dM joinD (dC (.str " ")) (dObs 1)) (dC (.str "\n"))))))
def F_text_of : List D → Wd → Res := runD 2 g_text_of
def g_is_made_of : SM := (sRet (dB allD (aCons (dComp [2] (iSigns (dObs 0)) (gN 2) dYes (dBin inD (dObs 2) (dObs 1))) aNil)))
def F_is_made_of : List D → Wd → Res := runD 3 g_is_made_of
def g_is_word : SM := (sRet (dAnd (isiD ["str"] (dObs 0)) (dAnd (dChain leD leD (dC (.int 1)) (dB lenD (aCons (dObs 0) aNil)) (dC (.int 20))) (dCall F_is_made_of (aCons (dVar 0) (aCons (dBin plusD (dC (.str "abcdefghijklmnopqrstuvwxyz")) (dC (.str "0123456789"))) aNil))))))
def F_is_word : List D → Wd → Res := runD 1 g_is_word
def g_is_name : SM := (sSeq (sIf (dOr (dNot (dCall F_is_word (aCons (dVar 0) aNil))) (dBin gtD (dB lenD (aCons (dObs 0) aNil)) (dC (.int 12)))) (sRet (dC (.bl false))) sNext) (sRet (dAnd (dBin inD (dBin ixD (dObs 0) (dC (.int 0))) (dC (.str "abcdefghijklmnopqrstuvwxyz"))) (dBin notInD (dObs 0) (dC (.kup (L_KEYWORDS.map .str)))))))
def F_is_name : List D → Wd → Res := runD 1 g_is_name
def g_is_numeral : SM := (sSeq (sIf (dOr (dNot (isiD ["str"] (dObs 0))) (dOr (dNot (dChain leD leD (dC (.int 1)) (dB lenD (aCons (dObs 0) aNil)) (dC (.int 40)))) (dNot (dCall F_is_made_of (aCons (dVar 0) (aCons (dC (.str "0123456789")) aNil)))))) (sRet (dC (.bl false))) sNext) (sRet (dOr (dBin eqD (dObs 0) (dC (.str "0"))) (dBin neD (dBin ixD (dObs 0) (dC (.int 0))) (dC (.str "0"))))))
def F_is_numeral : List D → Wd → Res := runD 1 g_is_numeral
def g__law_answers : SM := (sRet (dLst (aCons (dCall F_is_name (aCons (dVar 0) aNil)) (aCons (dCall F_is_word (aCons (dVar 0) aNil)) (aCons (dCall F_is_numeral (aCons (dVar 0) aNil)) aNil)))))
def F__law_answers : List D → Wd → Res := runD 1 g__law_answers
def g__law_fault : SM := (sSeq (sSet 1 [] (dC .non)) (sSeq (sTry (sDrop (dCall F_words_of (aCons (dVar 0) aNil))) [([("BadText", true)], (some 2), (fun n fs => sSet 1 [] ((fun n fs => dTup (aCons ((xF "BadText" "line") n fs) (aCons ((xF "BadText" "word") n fs) aNil))) n fs)))]) (sRet (dVar 1))))
def F__law_fault : List D → Wd → Res := runD 3 g__law_fault
def g__law_is_of : SM := (sRet (dBin eqD (dComp [2] (iSigns (dObs 0)) (gN 2) (dBin notInD (dObs 2) (dObs 1)) (dVar 2)) (dLst aNil)))
def F__law_is_of : List D → Wd → Res := runD 3 g__law_is_of
def g__law_is_word : SM := (sRet (dAnd (dChain leD leD (dC (.int 1)) (dB lenD (aCons (dObs 0) aNil)) (dC (.int 20))) (dCall F__law_is_of (aCons (dVar 0) (aCons (dC (.str "abcdefghijklmnopqrstuvwxyz0123456789")) aNil)))))
def F__law_is_word : List D → Wd → Res := runD 1 g__law_is_word
def g__law_is_name : SM := (sRet (dAnd (dCall F__law_is_word (aCons (dVar 0) aNil)) (dAnd (dBin leD (dB lenD (aCons (dObs 0) aNil)) (dC (.int 12))) (dAnd (dBin notInD (dBin ixD (dObs 0) (dC (.int 0))) (dC (.str "0123456789"))) (dBin notInD (dObs 0) (dCall F__law_keywords aNil))))))
def F__law_is_name : List D → Wd → Res := runD 1 g__law_is_name
def g__law_is_numeral : SM := (sRet (dAnd (dChain leD leD (dC (.int 1)) (dB lenD (aCons (dObs 0) aNil)) (dC (.int 40))) (dAnd (dCall F__law_is_of (aCons (dVar 0) (aCons (dC (.str "0123456789")) aNil))) (dOr (dBin eqD (dObs 0) (dC (.str "0"))) (dBin neD (dBin ixD (dObs 0) (dC (.int 0))) (dC (.str "0")))))))
def F__law_is_numeral : List D → Wd → Res := runD 1 g__law_is_numeral
def g__law_look : SM := (sSeq (sIf (dBin eqD (dObs 0) (dC (.str ""))) (sRet (dLst (aCons (dC (.bl false)) (aCons (dC (.bl false)) (aCons (dC (.bl false)) aNil))))) sNext) (sRet (dLst (aCons (dCall F__law_is_name (aCons (dVar 0) aNil)) (aCons (dCall F__law_is_word (aCons (dVar 0) aNil)) (aCons (dCall F__law_is_numeral (aCons (dVar 0) aNil)) aNil))))))
def F__law_look : List D → Wd → Res := runD 1 g__law_look
def g_law : SM := (sSeq (sFor [] (iRange1 (aCons (dC (.int 8)) aNil)) (gN 2) (sSeq (sSet 3 [] (dCall F__law_strange (aCons (dVar 1) aNil))) (sSeq (sSet 4 [3] (dCall F__law_answers (aCons (dVar 3) aNil))) (sIf (dOr (dBin neD (dComp [13] (iSeq (dObs 4)) (gN 13) (dNot (isiD ["bool"] (dObs 13))) (dVar 13)) (dLst aNil)) (dBin neD (dObs 4) (dCall F__law_look (aCons (dVar 3) aNil)))) (sRet (dC (.bl false))) sNext)))) (sSeq (sFor [] (iSeq (dLst (aCons (dC .non) (aCons (dC (.int 5)) (aCons (dTup (aCons (dC (.str "a")) aNil)) (aCons (dLst (aCons (dC (.str "a")) aNil)) (aCons (dC (.bl true)) (aCons (dC (.int 0)) (aCons (dC (.dic [])) (aCons (dC (.str "")) aNil)))))))))) (gN 5) (sIf (dBin neD (dCall F__law_answers (aCons (dVar 5) aNil)) (dLst (aCons (dC (.bl false)) (aCons (dC (.bl false)) (aCons (dC (.bl false)) aNil))))) (sRet (dC (.bl false))) sNext)) (sSeq (sTo [] (gTupD 2 (gCo (gN 6) (gCo (gN 7) gNo))) (dCall F__law_drawn_text (aCons (dVar 1) aNil))) (sSeq (sSet 8 [6] (dCall F_words_of (aCons (dVar 6) aNil))) (sSeq (sIf (dOr (dNot (isiD ["tuple"] (dObs 8))) (dOr (dBin neD (dObs 8) (dObs 7)) (dOr (dBin neD (dCall F_words_of (aCons (dC (.str "")) aNil)) (dTup aNil)) (dBin neD (dCall F_words_of (aCons (dC (.str "\n \n")) aNil)) (dTup aNil))))) (sRet (dC (.bl false))) sNext) (sSeq (sIf (dBin neD (dComp [14] (iSeq (dObs 8)) (gN 14) (dOr (dNot (isiD ["tuple"] (dObs 14))) (dNot (isiD ["tuple"] (dBin ixD (dObs 14) (dC (.int 1)))))) (dVar 14)) (dLst aNil)) (sRet (dC (.bl false))) sNext) (sSeq (sSetO 9 [] (dComp [15, 16] (iSeq (dObs 7)) (gTupD 2 (gCo (gN 15) (gCo (gN 16) gNo))) dYes (dB listD (aCons (dObs 16) aNil)))) (sSeq (sSet 10 [9] (dIf (dBin eqD (dCall F__law_draw (aCons (dVar 1) (aCons (dC (.int 2)) aNil))) (dC (.int 0))) (dVar 9) (dB tupleD (aCons (dComp [16] (iSeq (dObs 9)) (gN 16) dYes (dB tupleD (aCons (dObs 16) aNil))) aNil)))) (sSeq (sSet 11 [10] (dCall F_text_of (aCons (dVar 10) aNil))) (sSeq (sIf (dOr (dNot (isiD ["str"] (dObs 11))) (dOr (dBin neD (dObs 11) (dM joinD (dC (.str "")) (dComp [16] (iSeq (dObs 9)) (gN 16) dYes (dBin plusD (dM joinD (dC (.str " ")) (dObs 16)) (dC (.str "\n")))))) (dBin neD (dCall F_text_of (aCons (dLst aNil) aNil)) (dC (.str ""))))) (sRet (dC (.bl false))) sNext) (sSeq (sIf (dBin neD (dCall F_words_of (aCons (dVar 11) aNil)) (dB tupleD (aCons (dComp [17, 16] (iEnum (aCons (dObs 9) aNil)) (gTupD 2 (gCo (gN 17) (gCo (gN 16) gNo))) dYes (dTup (aCons (dBin plusD (dObs 17) (dC (.int 1))) (aCons (dB tupleD (aCons (dObs 16) aNil)) aNil)))) aNil))) (sRet (dC (.bl false))) sNext) (sSeq (sSet 12 [] (dCall F__law_pick (aCons (dVar 1) (aCons (dLst (aCons (dC .non) (aCons (dC (.int 5)) (aCons (dLst (aCons (dC (.str "sort a")) aNil)) (aCons (dTup (aCons (dC (.str "sort a")) aNil)) (aCons (dC (.bl true)) (aCons (dC (.dic [])) aNil))))))) aNil)))) (sRet (dAnd (dBin eqD (dCall F__law_fault (aCons (dVar 12) aNil)) (dTup (aCons (dC (.int 0)) (aCons (dC (.int 0)) aNil)))) (dBin isNoneD (dCall F__law_fault (aCons (dVar 6) aNil)) (dC .non))))))))))))))))
/-! ### what the written part says -/
structure TX (K : PySem.W.Frag) (mg : Str → Option Value) : Prop where
  b_all : mg "all" = none
  b_bool : mg "bool" = none
  b_enumerate : mg "enumerate" = none
  b_int : mg "int" = none
  b_isinstance : mg "isinstance" = none
  b_len : mg "len" = none
  b_list : mg "list" = none
  b_range : mg "range" = none
  b_str : mg "str" = none
  b_tuple : mg "tuple" = none
  c_DIGITS : ∃ t, mg "DIGITS" = some (.str "0123456789" t)
  c_KEYWORDS : mg "KEYWORDS" = some (.ref (He.ga K "KEYWORDS"))
  q_KEYWORDS : ∀ H, SqT K H (He.ga K "KEYWORDS") (L_KEYWORDS.map V.str)
  c_LETTERS : ∃ t, mg "LETTERS" = some (.str "abcdefghijklmnopqrstuvwxyz" t)
  c_MOST_DIGITS : ∃ t, mg "MOST_DIGITS" = some (.int 40 t)
  c_MOST_NAME : ∃ t, mg "MOST_NAME" = some (.int 12 t)
  c_MOST_WORD : ∃ t, mg "MOST_WORD" = some (.int 20 t)
  m_BadText : mg "BadText" = some (.ref (He.ga K "BadText"))
  e_BadText : ExcF "BadText" ["line", "word"] K
  x_BadText_BadText : PySem.W.exmOne K (.ref (He.ga K "BadText")) (.ref (He.ga K "BadText")) = some true
section
variable {P : Program} {w : World} {K : PySem.W.Frag} {mg : Str → Option Value} {base : Heap} {fd : FuncData}
theorem sc__law_pen : FnScope N__law_pen ["script"] (defScope s__law_pen) := ⟨rfl, rfl, rfl, by decide +kernel, rfl, by decide +kernel, by decide +kernel⟩
theorem sc__law_draw : FnScope N__law_draw ["pen", "many"] (defScope s__law_draw) := ⟨rfl, rfl, rfl, by decide +kernel, rfl, by decide +kernel, by decide +kernel⟩
theorem sc__law_pick : FnScope N__law_pick ["pen", "some"] (defScope s__law_pick) := ⟨rfl, rfl, rfl, by decide +kernel, rfl, by decide +kernel, by decide +kernel⟩
theorem sc__law_keywords : FnScope N__law_keywords [] (defScope s__law_keywords) := ⟨rfl, rfl, rfl, by decide +kernel, rfl, by decide +kernel, by decide +kernel⟩
theorem sc__law_sign : FnScope N__law_sign ["pen"] (defScope s__law_sign) := ⟨rfl, rfl, rfl, by decide +kernel, rfl, by decide +kernel, by decide +kernel⟩
theorem sc__law_strange : FnScope N__law_strange ["pen"] (defScope s__law_strange) := ⟨rfl, rfl, rfl, by decide +kernel, rfl, by decide +kernel, by decide +kernel⟩
theorem sc__law_drawn_text : FnScope N__law_drawn_text ["pen"] (defScope s__law_drawn_text) := ⟨rfl, rfl, rfl, by decide +kernel, rfl, by decide +kernel, by decide +kernel⟩
theorem sc_split_words : FnScope N_split_words ["line"] (defScope s_split_words) := ⟨rfl, rfl, rfl, by decide +kernel, rfl, by decide +kernel, by decide +kernel⟩
theorem sc_words_of : FnScope N_words_of ["text"] (defScope s_words_of) := ⟨rfl, rfl, rfl, by decide +kernel, rfl, by decide +kernel, by decide +kernel⟩
theorem sc_text_of : FnScope N_text_of ["lines"] (defScope s_text_of) := ⟨rfl, rfl, rfl, by decide +kernel, rfl, by decide +kernel, by decide +kernel⟩
theorem sc_is_made_of : FnScope N_is_made_of ["text", "signs"] (defScope s_is_made_of) := ⟨rfl, rfl, rfl, by decide +kernel, rfl, by decide +kernel, by decide +kernel⟩
theorem sc_is_word : FnScope N_is_word ["value"] (defScope s_is_word) := ⟨rfl, rfl, rfl, by decide +kernel, rfl, by decide +kernel, by decide +kernel⟩
theorem sc_is_name : FnScope N_is_name ["value"] (defScope s_is_name) := ⟨rfl, rfl, rfl, by decide +kernel, rfl, by decide +kernel, by decide +kernel⟩
theorem sc_is_numeral : FnScope N_is_numeral ["value"] (defScope s_is_numeral) := ⟨rfl, rfl, rfl, by decide +kernel, rfl, by decide +kernel, by decide +kernel⟩
theorem sc__law_answers : FnScope N__law_answers ["value"] (defScope s__law_answers) := ⟨rfl, rfl, rfl, by decide +kernel, rfl, by decide +kernel, by decide +kernel⟩
theorem sc__law_fault : FnScope N__law_fault ["value"] (defScope s__law_fault) := ⟨rfl, rfl, rfl, by decide +kernel, rfl, by decide +kernel, by decide +kernel⟩
theorem sc__law_is_of : FnScope N__law_is_of ["word", "signs"] (defScope s__law_is_of) := ⟨rfl, rfl, rfl, by decide +kernel, rfl, by decide +kernel, by decide +kernel⟩
theorem sc__law_is_word : FnScope N__law_is_word ["word"] (defScope s__law_is_word) := ⟨rfl, rfl, rfl, by decide +kernel, rfl, by decide +kernel, by decide +kernel⟩
theorem sc__law_is_name : FnScope N__law_is_name ["word"] (defScope s__law_is_name) := ⟨rfl, rfl, rfl, by decide +kernel, rfl, by decide +kernel, by decide +kernel⟩
theorem sc__law_is_numeral : FnScope N__law_is_numeral ["word"] (defScope s__law_is_numeral) := ⟨rfl, rfl, rfl, by decide +kernel, rfl, by decide +kernel, by decide +kernel⟩
theorem sc__law_look : FnScope N__law_look ["word"] (defScope s__law_look) := ⟨rfl, rfl, rfl, by decide +kernel, rfl, by decide +kernel, by decide +kernel⟩
theorem sc_law : FnScope N_law ["script"] (defScope s_law) := ⟨rfl, rfl, rfl, by decide +kernel, rfl, by decide +kernel, by decide +kernel⟩
theorem sci_BadText : FnScope ["self", "line", "word"] ["self", "line", "word"] (defScope si_BadText) := ⟨rfl, rfl, rfl, by decide +kernel, rfl, by decide +kernel, by decide +kernel⟩
theorem xc_BadText (F : Fun K "__init__" "BadText.__init__" si_BadText (He.ma K (He.ga K "BadText") "__init__") fd) (T : ExcF "BadText" ["line", "word"] K) (hm : mg "BadText" = some (.ref (He.ga K "BadText"))) : XC P w K mg base "BadText" ["line", "word"] :=
  ⟨_, _, fd, ["self", "line", "word"], hm, T.ox, T.iC, T.tI, xinit2_ok F sci_BadText rfl rfl T.ox (T.no _ (by decide)) (T.no _ (by decide)) (fun _ _ _ _ _ _ => pss_cons (ps_ost (pv 0) (pv 1)) (pss_one (ps_ost (pv 0) (pv 2)))), F.binds (ps := ["self", "line", "word"]) fun _ _ _ _ _ _ us hl => match us, hl with | [_, _, _], _ => rfl⟩
theorem ok__law_pen (F : Fun K "_law_pen" "_law_pen" s__law_pen (He.ga K "_law_pen") fd) (T : TX K mg) : FnOk P w K mg base (L2.CX P w) 1 (He.ga K "_law_pen") fd ["script"] (spPen K) :=
  pen_ok (a := 71) (m := 1000000087) F sc__law_pen rfl rfl (by decide) (by decide) fun cdv A outer s H E => pss_cons (ps_set sc__law_pen.nd rfl (Or.inl rfl) pe_int) (pss_cons (ps_for (passes_of rfl) rfl (pi_list (pv 0)) (pg_name (i := 2) sc__law_pen.nd rfl (Or.inl rfl))
    (pss_one (ps_set sc__law_pen.nd rfl (Or.inl rfl) (pe_op op_mod (pe_callTy call_int1 rfl T.b_int boot_int (pa_cons (pe_op op_add (pe_op op_mul (pv 1) pe_int) (pv 2)) pa_nil)) pe_int))))
    (pss_one (ps_ret (pe_disp (pps_cons pe_str (pe_callTy call_list_of rfl T.b_list boot_list (pa_cons (pv 0) pa_nil)) (pps_cons pe_str pe_int (pps_cons pe_str pe_int (pps_cons pe_str pe_int (pps_cons pe_str (pv 1) pps_nil))))) rfl rfl (by decide) (by decide)))))
theorem ok__law_draw (F : Fun K "_law_draw" "_law_draw" s__law_draw (He.ga K "_law_draw") fd) (hm : mg "_law_draw" = some (.ref (He.ga K "_law_draw"))) (T : TX K mg) : Callee P w K mg base "_law_draw" 2 2 F__law_draw := by
  have S := sc__law_draw
  refine callee_of (k := 1) F S hm rfl (F.binds (ps := ["pen", "many"]) fun _ _ _ _ _ _ us hl => match us, hl with | [_, _], _ => rfl) fun cdv A outer s H E hr => ?_
  have tk : Takes (cxOf (L2.CX P w) P w K mg base N__law_draw "_law_draw" (defScope s__law_draw) (He.ga K "_law_draw") cdv A outer s H E) (fun cls d _ H => E cls d H) := takes_of rfl rfl rfl rfl
  have hu : ((cxOf (L2.CX P w) P w K mg base N__law_draw "_law_draw" (defScope s__law_draw) (He.ga K "_law_draw") cdv A outer s H E)).A.units + 64 < cLine := by have := hr.un; show (A.deeper _).units + 64 < cLine; omega
  have hu1 : ((cxOf (L2.CX P w) P w K mg base N__law_draw "_law_draw" (defScope s__law_draw) (He.ga K "_law_draw") cdv A outer s H E)).A.units + 1 < cLine := by omega
  exact (vs_cons (vp_put 0 hu1 putCt_ok (ve_bin od_plus (ve_o (vp_get 0 Wd.ct hu1)) (ve_o ve_int))) (vs_cons (vs_if (vt_w (vw_and (vt_cmp (od_eq hu) (ve_o (vp_get 0 Wd.dg hu1)) (ve_o ve_int)) (vw_and1 (vt_cmp od_lt (ve_o (vp_get 0 Wd.at_ hu1)) (ve_o (vp_len 0 hu1 T.b_len)))))) (vs_cons (vs_set (i := 2) [] S.nd (vp_cell 0 hu1)) (vs_cons (vp_put 0 hu1 putAt_ok (ve_bin od_plus (ve_o (vp_get 0 Wd.at_ hu1)) (ve_o ve_int))) (vs_one (vs_if (vt_cmp od_ge (vo_var 2) (ve_o (ve_bin od_pow (ve_o ve_int) (ve_o ve_int)))) (vs_one (vp_put 0 hu1 putDg_ok (ve_bin od_sub (vo_var 2) (ve_o (ve_bin od_pow (ve_o ve_int) (ve_o ve_int)))))) (vs_one (vp_put 0 hu1 putFo_ok (ve_bin od_mod (ve_o (ve_callTy cd_int T.b_int boot_int (va_cons (ve_o (ve_bin od_plus (ve_o (ve_bin od_times (ve_o (vp_get 0 Wd.fo hu1)) (ve_o ve_int))) (vo_var 2))) va_nil))) (ve_o ve_int)))))))) vs_nil) (vs_cons (vs_if (vt_cmp od_gt (ve_o (vp_get 0 Wd.dg hu1)) (ve_o ve_int)) (vs_cons (vs_set (i := 3) [] S.nd (ve_bin od_mod (ve_o (ve_callTy cd_int T.b_int boot_int (va_cons (ve_o (vp_get 0 Wd.dg hu1)) va_nil))) (vo_var 1))) (vs_cons (vp_put 0 hu1 putDg_ok (ve_bin od_fdiv (ve_o (vp_get 0 Wd.dg hu1)) (vo_var 1))) (vs_one (vs_ret (ve_var 3))))) vs_nil) (vs_cons (vs_set (i := 4) [] S.nd (ve_bin od_mod (ve_o (ve_callTy cd_int T.b_int boot_int (va_cons (ve_o (ve_bin od_plus (ve_o (ve_bin od_plus (ve_o (ve_bin od_times (ve_o (vp_get 0 Wd.fo hu1)) (ve_o ve_int))) (ve_o (ve_bin od_times (ve_o (vp_get 0 Wd.ct hu1)) (ve_o ve_int))))) (ve_o ve_int))) va_nil))) (ve_o ve_int))) (vs_cons (vs_set (i := 4) [] S.nd (ve_bin od_mod (ve_o (ve_callTy cd_int T.b_int boot_int (va_cons (ve_o (ve_bin od_plus (ve_o (ve_bin od_plus (ve_o (ve_bin od_times (vo_var 4) (vo_var 4))) (ve_o (ve_bin od_times (ve_o ve_int) (vo_var 4))))) (ve_o (vp_get 0 Wd.ct hu1)))) va_nil))) (ve_o ve_int))) (vs_cons (vp_put 0 hu1 putFo_ok (ve_bin od_mod (ve_o (ve_callTy cd_int T.b_int boot_int (va_cons (ve_o (ve_bin od_plus (ve_o (ve_bin od_times (vo_var 4) (ve_o ve_int))) (ve_o ve_int))) va_nil))) (ve_o ve_int))) (vs_one (vs_ret (ve_bin od_mod (ve_o (ve_callTy cd_int T.b_int boot_int (va_cons (ve_o (ve_bin od_fdiv (vo_var 4) (ve_o ve_int))) va_nil))) (vo_var 1))))))))))
theorem ok__law_pick (F : Fun K "_law_pick" "_law_pick" s__law_pick (He.ga K "_law_pick") fd) (hm : mg "_law_pick" = some (.ref (He.ga K "_law_pick"))) (T : TX K mg) (C__law_draw : Callee P w K mg base "_law_draw" 2 2 F__law_draw) : Callee P w K mg base "_law_pick" 3 2 F__law_pick := by
  have S := sc__law_pick
  refine callee_of (k := 2) F S hm rfl (F.binds (ps := ["pen", "some"]) fun _ _ _ _ _ _ us hl => match us, hl with | [_, _], _ => rfl) fun cdv A outer s H E hr => ?_
  have tk : Takes (cxOf (L2.CX P w) P w K mg base N__law_pick "_law_pick" (defScope s__law_pick) (He.ga K "_law_pick") cdv A outer s H E) (fun cls d _ H => E cls d H) := takes_of rfl rfl rfl rfl
  have hu : ((cxOf (L2.CX P w) P w K mg base N__law_pick "_law_pick" (defScope s__law_pick) (He.ga K "_law_pick") cdv A outer s H E)).A.units + 64 < cLine := by have := hr.un; show (A.deeper _).units + 64 < cLine; omega
  have hu1 : ((cxOf (L2.CX P w) P w K mg base N__law_pick "_law_pick" (defScope s__law_pick) (He.ga K "_law_pick") cdv A outer s H E)).A.units + 1 < cLine := by omega
  exact (vs_one (vs_ret (ve_ix (vo_var 1) (ve_o (ve_fn C__law_draw tk (hr.mono (by decide)) (va_cons (ve_var 0) (va_cons (ve_callB cd_len T.b_len boot_len (va_cons (vo_var 1) va_nil)) va_nil)) (al (al al_nil)))))))
theorem ok__law_keywords (F : Fun K "_law_keywords" "_law_keywords" s__law_keywords (He.ga K "_law_keywords") fd) (hm : mg "_law_keywords" = some (.ref (He.ga K "_law_keywords"))) (T : TX K mg) : Callee P w K mg base "_law_keywords" 2 0 F__law_keywords := by
  have S := sc__law_keywords
  refine callee_of (k := 1) F S hm rfl (F.binds (ps := []) fun _ _ _ _ _ _ us hl => match us, hl with | [], _ => rfl) fun cdv A outer s H E hr => ?_
  have tk : Takes (cxOf (L2.CX P w) P w K mg base N__law_keywords "_law_keywords" (defScope s__law_keywords) (He.ga K "_law_keywords") cdv A outer s H E) (fun cls d _ H => E cls d H) := takes_of rfl rfl rfl rfl
  have hu : ((cxOf (L2.CX P w) P w K mg base N__law_keywords "_law_keywords" (defScope s__law_keywords) (He.ga K "_law_keywords") cdv A outer s H E)).A.units + 64 < cLine := by have := hr.un; show (A.deeper _).units + 64 < cLine; omega
  have hu1 : ((cxOf (L2.CX P w) P w K mg base N__law_keywords "_law_keywords" (defScope s__law_keywords) (He.ga K "_law_keywords") cdv A outer s H E)).A.units + 1 < cLine := by omega
  exact (vs_cons (vs_set (i := 0) [] S.nd (ve_f (vf_lst (va_cons ve_str (va_cons ve_str (va_cons ve_str (va_cons ve_str (va_cons ve_str (va_cons ve_str (va_cons ve_str (va_cons ve_str (va_cons ve_str (va_cons ve_str (va_cons ve_str (va_cons ve_str (va_cons ve_str va_nil)))))))))))))))) (vs_one (vs_ret (ve_bin od_plus (vo_var 0) (ve_o (ve_f (vf_lst (va_cons ve_str (va_cons ve_str (va_cons ve_str (va_cons ve_str (va_cons ve_str (va_cons ve_str (va_cons ve_str (va_cons ve_str (va_cons ve_str (va_cons ve_str (va_cons ve_str va_nil))))))))))))))))))
theorem ok__law_sign (F : Fun K "_law_sign" "_law_sign" s__law_sign (He.ga K "_law_sign") fd) (hm : mg "_law_sign" = some (.ref (He.ga K "_law_sign"))) (T : TX K mg) (C__law_pick : Callee P w K mg base "_law_pick" 3 2 F__law_pick) : Callee P w K mg base "_law_sign" 4 1 F__law_sign := by
  have S := sc__law_sign
  refine callee_of (k := 3) F S hm rfl (F.binds (ps := ["pen"]) fun _ _ _ _ _ _ us hl => match us, hl with | [_], _ => rfl) fun cdv A outer s H E hr => ?_
  have tk : Takes (cxOf (L2.CX P w) P w K mg base N__law_sign "_law_sign" (defScope s__law_sign) (He.ga K "_law_sign") cdv A outer s H E) (fun cls d _ H => E cls d H) := takes_of rfl rfl rfl rfl
  have hu : ((cxOf (L2.CX P w) P w K mg base N__law_sign "_law_sign" (defScope s__law_sign) (He.ga K "_law_sign") cdv A outer s H E)).A.units + 64 < cLine := by have := hr.un; show (A.deeper _).units + 64 < cLine; omega
  have hu1 : ((cxOf (L2.CX P w) P w K mg base N__law_sign "_law_sign" (defScope s__law_sign) (He.ga K "_law_sign") cdv A outer s H E)).A.units + 1 < cLine := by omega
  exact (vs_one (vs_ret (ve_fn C__law_pick tk (hr.mono (by decide)) (va_cons (ve_var 0) (va_cons ve_str va_nil)) (al (al al_nil)))))
theorem ok__law_strange (F : Fun K "_law_strange" "_law_strange" s__law_strange (He.ga K "_law_strange") fd) (hm : mg "_law_strange" = some (.ref (He.ga K "_law_strange"))) (T : TX K mg) (C__law_draw : Callee P w K mg base "_law_draw" 2 2 F__law_draw) (C__law_keywords : Callee P w K mg base "_law_keywords" 2 0 F__law_keywords) (C__law_pick : Callee P w K mg base "_law_pick" 3 2 F__law_pick) (C__law_sign : Callee P w K mg base "_law_sign" 4 1 F__law_sign) : Callee P w K mg base "_law_strange" 5 1 F__law_strange := by
  have S := sc__law_strange
  refine callee_of (k := 4) F S hm rfl (F.binds (ps := ["pen"]) fun _ _ _ _ _ _ us hl => match us, hl with | [_], _ => rfl) fun cdv A outer s H E hr => ?_
  have tk : Takes (cxOf (L2.CX P w) P w K mg base N__law_strange "_law_strange" (defScope s__law_strange) (He.ga K "_law_strange") cdv A outer s H E) (fun cls d _ H => E cls d H) := takes_of rfl rfl rfl rfl
  have hu : ((cxOf (L2.CX P w) P w K mg base N__law_strange "_law_strange" (defScope s__law_strange) (He.ga K "_law_strange") cdv A outer s H E)).A.units + 64 < cLine := by have := hr.un; show (A.deeper _).units + 64 < cLine; omega
  have hu1 : ((cxOf (L2.CX P w) P w K mg base N__law_strange "_law_strange" (defScope s__law_strange) (He.ga K "_law_strange") cdv A outer s H E)).A.units + 1 < cLine := by omega
  exact (vs_cons (vs_set (i := 1) [] S.nd (ve_fn C__law_draw tk (hr.mono (by decide)) (va_cons (ve_var 0) (va_cons ve_int va_nil)) (al (al al_nil)))) (vs_cons (vs_if (vt_cmp (od_eq hu) (vo_var 1) (ve_o ve_int)) (vs_one (vs_ret (ve_bin od_plus (ve_o (ve_fn C__law_pick tk (hr.mono (by decide)) (va_cons (ve_var 0) (va_cons (ve_fn0 C__law_keywords tk (hr.mono (by decide))) va_nil)) (al (al al_nil)))) (ve_o (ve_fn C__law_pick tk (hr.mono (by decide)) (va_cons (ve_var 0) (va_cons (ve_f (vf_lst (va_cons ve_str (va_cons ve_str (va_cons ve_str (va_cons ve_str va_nil)))))) va_nil)) (al (al al_nil))))))) vs_nil) (vs_cons (vs_if (vt_cmp (od_eq hu) (vo_var 1) (ve_o ve_int)) (vs_one (vs_ret (ve_join (ve_o ve_str) (ve_o (ve_f (vf_comp (own := [("k", 5)]) rfl S.nd (vi_range1 T.b_range (va_cons (ve_o (ve_fn C__law_pick tk (hr.mono (by decide)) (va_cons (ve_var 0) (va_cons (ve_f (vf_lst (va_cons ve_int (va_cons ve_int (va_cons ve_int (va_cons ve_int (va_cons ve_int va_nil))))))) va_nil)) (al (al al_nil)))) va_nil)) (blkOk_by rfl) (fun _ _ _ _ _ => (vg_name 5 S.nd)) (fun _ _ _ _ _ => vts_nil) (fun _ _ _ _ _ => (ve_fn C__law_pick takes0 (hr.mono (by decide)) (va_cons (ve_var 0) (va_cons ve_str va_nil)) (al (al al_nil)))))))))) vs_nil) (vs_cons (vs_if (vt_cmp (od_eq hu) (vo_var 1) (ve_o ve_int)) (vs_one (vs_ret (ve_join (ve_o ve_str) (ve_o (ve_f (vf_comp (own := [("k", 5)]) rfl S.nd (vi_range1 T.b_range (va_cons (ve_o (ve_fn C__law_draw tk (hr.mono (by decide)) (va_cons (ve_var 0) (va_cons ve_int va_nil)) (al (al al_nil)))) va_nil)) (blkOk_by rfl) (fun _ _ _ _ _ => (vg_name 5 S.nd)) (fun _ _ _ _ _ => vts_nil) (fun _ _ _ _ _ => (ve_fn C__law_sign takes0 (hr.mono (by decide)) (va_cons (ve_var 0) va_nil) (al al_nil))))))))) vs_nil) (vs_cons (vs_set (i := 2) [] S.nd ve_str) (vs_cons (vs_set (i := 3) [2] S.nd (ve_join (ve_o ve_str) (ve_o (ve_f (vf_comp (own := [("k", 5)]) rfl S.nd (vi_range1 T.b_range (va_cons (ve_o (ve_fn C__law_pick tk (hr.mono (by decide)) (va_cons (ve_var 0) (va_cons (ve_f (vf_lst (va_cons ve_int (va_cons ve_int (va_cons ve_int (va_cons ve_int (va_cons ve_int (va_cons ve_int (va_cons ve_int (va_cons ve_int (va_cons ve_int va_nil))))))))))) va_nil)) (al (al al_nil)))) va_nil)) (blkOk_by rfl) (fun _ _ _ _ _ => (vg_name 5 S.nd)) (fun _ _ _ _ _ => vts_nil) (fun _ _ _ _ _ => (ve_fn C__law_pick takes0 (hr.mono (by decide)) (va_cons (ve_var 0) (va_cons (ve_var 2) va_nil)) (al (al al_nil))))))))) (vs_cons (vs_if (vt_cmp (od_eq hu) (vo_var 1) (ve_o ve_int)) (vs_cons (vs_set (i := 4) [] S.nd (ve_fn C__law_draw tk (hr.mono (by decide)) (va_cons (ve_var 0) (va_cons (ve_callB cd_len T.b_len boot_len (va_cons (vo_var 3) va_nil)) va_nil)) (al (al al_nil)))) (vs_one (vs_set (i := 3) [] S.nd (ve_bin od_plus (ve_o (ve_bin od_plus (ve_o (ve_sl (vo_var 3) vo_none (vo_some (vo_var 4)) part_none part_some)) (ve_o (ve_fn C__law_sign tk (hr.mono (by decide)) (va_cons (ve_var 0) va_nil) (al al_nil))))) (ve_o (ve_sl (vo_var 3) (vo_some (ve_o (ve_bin od_plus (vo_var 4) (ve_o ve_int)))) vo_none part_some part_none)))))) vs_nil) (vs_one (vs_ret (ve_var 3))))))))))
theorem ok__law_drawn_text (F : Fun K "_law_drawn_text" "_law_drawn_text" s__law_drawn_text (He.ga K "_law_drawn_text") fd) (hm : mg "_law_drawn_text" = some (.ref (He.ga K "_law_drawn_text"))) (T : TX K mg) (C__law_draw : Callee P w K mg base "_law_draw" 2 2 F__law_draw) (C__law_pick : Callee P w K mg base "_law_pick" 3 2 F__law_pick) (C__law_strange : Callee P w K mg base "_law_strange" 5 1 F__law_strange) : Callee P w K mg base "_law_drawn_text" 6 1 F__law_drawn_text := by
  have S := sc__law_drawn_text
  refine callee_of (k := 5) F S hm rfl (F.binds (ps := ["pen"]) fun _ _ _ _ _ _ us hl => match us, hl with | [_], _ => rfl) fun cdv A outer s H E hr => ?_
  have tk : Takes (cxOf (L2.CX P w) P w K mg base N__law_drawn_text "_law_drawn_text" (defScope s__law_drawn_text) (He.ga K "_law_drawn_text") cdv A outer s H E) (fun cls d _ H => E cls d H) := takes_of rfl rfl rfl rfl
  have hu : ((cxOf (L2.CX P w) P w K mg base N__law_drawn_text "_law_drawn_text" (defScope s__law_drawn_text) (He.ga K "_law_drawn_text") cdv A outer s H E)).A.units + 64 < cLine := by have := hr.un; show (A.deeper _).units + 64 < cLine; omega
  have hu1 : ((cxOf (L2.CX P w) P w K mg base N__law_drawn_text "_law_drawn_text" (defScope s__law_drawn_text) (He.ga K "_law_drawn_text") cdv A outer s H E)).A.units + 1 < cLine := by omega
  exact (vs_cons (vs_par (i := 1) (j := 2) [] true true rfl S.nd (by decide) rfl rfl (vf_lst va_nil) (vf_lst va_nil)) (vs_cons (vs_for [] (passes_of rfl) rfl (vi_range1 T.b_range (va_cons (ve_o (ve_fn C__law_draw tk (hr.mono (by decide)) (va_cons (ve_var 0) (va_cons ve_int va_nil)) (al (al al_nil)))) va_nil)) (vg_name 3 S.nd) (vs_cons (vs_setC (i := 4) (own := [("k", 7)]) [] rfl S.nd rfl rfl (vi_range1 T.b_range (va_cons (ve_o (ve_fn C__law_pick tk (hr.mono (by decide)) (va_cons (ve_var 0) (va_cons (ve_f (vf_lst (va_cons ve_int (va_cons ve_int (va_cons ve_int (va_cons ve_int (va_cons ve_int va_nil))))))) va_nil)) (al (al al_nil)))) va_nil)) (blkOk_by rfl) (fun _ _ _ _ _ => (vg_name 7 S.nd)) (fun _ _ _ _ _ => vts_nil) (fun _ _ _ _ _ => (ve_fn C__law_strange takes0 (hr.mono (by decide)) (va_cons (ve_var 0) va_nil) (al al_nil)))) (vs_cons (vs_setC (i := 4) (own := [("word", 6)]) [] rfl S.nd rfl rfl (vi_seq st_o (vo_var 4)) (blkOk_by rfl) (fun _ _ _ _ _ => (vg_name 6 S.nd)) (fun _ _ _ _ _ => (vts_one (vt_cmp (od_ne hu) (vo_var 6) (ve_o ve_str)))) (fun _ _ _ _ _ => (ve_bin od_plus (vo_var 6) (ve_o (ve_fn C__law_pick takes0 (hr.mono (by decide)) (va_cons (ve_var 0) (va_cons (ve_f (vf_lst (va_cons ve_str (va_cons ve_str (va_cons ve_str va_nil))))) va_nil)) (al (al al_nil))))))) (vs_cons (vs_set (i := 5) [] S.nd (ve_fn C__law_pick tk (hr.mono (by decide)) (va_cons (ve_var 0) (va_cons (ve_f (vf_lst (va_cons ve_str (va_cons ve_str (va_cons ve_str va_nil))))) va_nil)) (al (al al_nil)))) (vs_cons (vs_for [4] (passes_of rfl) rfl (vi_seq st_e (ve_var 4)) (vg_name 6 S.nd) (vs_one (vs_set (i := 5) [] S.nd (ve_bin od_plus (ve_o (ve_bin od_plus (vo_var 5) (vo_var 6))) (ve_o (ve_fn C__law_pick tk (hr.mono (by decide)) (va_cons (ve_var 0) (va_cons (ve_f (vf_lst (va_cons ve_str (va_cons ve_str va_nil)))) va_nil)) (al (al al_nil)))))))) (vs_cons (vs_app (i := 1) [5] (ve_if (vt_cmp (od_eq hu) (ve_o (ve_fn C__law_draw tk (hr.mono (by decide)) (va_cons (ve_var 0) (va_cons ve_int va_nil)) (al (al al_nil)))) (ve_o ve_int)) (ve_var 5) (ve_rstrip (vo_var 5) (ve_o ve_str)))) (vs_one (vs_if (vt_cmp (od_ne hu) (vo_var 4) (ve_o (ve_f (vf_lst va_nil)))) (vs_one (vs_app (i := 2) [] (ve_tup (va_cons (ve_bin od_plus (vo_var 3) (ve_o ve_int)) (va_cons (ve_callTy cd_tuple T.b_tuple boot_tuple (va_cons (vo_var 4) va_nil)) va_nil))))) vs_nil)))))))) (vs_one (vs_ret (ve_tup (va_cons (ve_bin od_plus (ve_o (ve_join (ve_o ve_str) (vo_var 1))) (ve_o (ve_fn C__law_pick tk (hr.mono (by decide)) (va_cons (ve_var 0) (va_cons (ve_f (vf_lst (va_cons ve_str (va_cons ve_str (va_cons ve_str va_nil))))) va_nil)) (al (al al_nil))))) (va_cons (ve_callTy cd_tuple T.b_tuple boot_tuple (va_cons (vo_var 2) va_nil)) va_nil)))))))
theorem ok_split_words (F : Fun K "split_words" "split_words" s_split_words (He.ga K "split_words") fd) (hm : mg "split_words" = some (.ref (He.ga K "split_words"))) (T : TX K mg) : Callee P w K mg base "split_words" 2 1 F_split_words := by
  have S := sc_split_words
  refine callee_of (k := 1) F S hm rfl (F.binds (ps := ["line"]) fun _ _ _ _ _ _ us hl => match us, hl with | [_], _ => rfl) fun cdv A outer s H E hr => ?_
  have tk : Takes (cxOf (L2.CX P w) P w K mg base N_split_words "split_words" (defScope s_split_words) (He.ga K "split_words") cdv A outer s H E) (fun cls d _ H => E cls d H) := takes_of rfl rfl rfl rfl
  have hu : ((cxOf (L2.CX P w) P w K mg base N_split_words "split_words" (defScope s_split_words) (He.ga K "split_words") cdv A outer s H E)).A.units + 64 < cLine := by have := hr.un; show (A.deeper _).units + 64 < cLine; omega
  have hu1 : ((cxOf (L2.CX P w) P w K mg base N_split_words "split_words" (defScope s_split_words) (He.ga K "split_words") cdv A outer s H E)).A.units + 1 < cLine := by omega
  exact (vs_one (vs_ret (ve_f (vf_comp (own := [("word", 1)]) rfl S.nd (vi_seq st_o (ve_o (ve_f (vf_split (vo_var 0) (ve_o ve_str))))) (blkOk_by rfl) (fun _ _ _ _ _ => (vg_name 1 S.nd)) (fun _ _ _ _ _ => (vts_one (vt_cmp (od_ne hu) (vo_var 1) (ve_o ve_str)))) (fun _ _ _ _ _ => (ve_var 1))))))
theorem ok_words_of (F : Fun K "words_of" "words_of" s_words_of (He.ga K "words_of") fd) (hm : mg "words_of" = some (.ref (He.ga K "words_of"))) (T : TX K mg) (C_split_words : Callee P w K mg base "split_words" 2 1 F_split_words) (X_BadText : XC P w K mg base "BadText" ["line", "word"]) : Callee P w K mg base "words_of" 3 1 F_words_of := by
  have S := sc_words_of
  refine callee_of (k := 2) F S hm rfl (F.binds (ps := ["text"]) fun _ _ _ _ _ _ us hl => match us, hl with | [_], _ => rfl) fun cdv A outer s H E hr => ?_
  have tk : Takes (cxOf (L2.CX P w) P w K mg base N_words_of "words_of" (defScope s_words_of) (He.ga K "words_of") cdv A outer s H E) (fun cls d _ H => E cls d H) := takes_of rfl rfl rfl rfl
  have hu : ((cxOf (L2.CX P w) P w K mg base N_words_of "words_of" (defScope s_words_of) (He.ga K "words_of") cdv A outer s H E)).A.units + 64 < cLine := by have := hr.un; show (A.deeper _).units + 64 < cLine; omega
  have hu1 : ((cxOf (L2.CX P w) P w K mg base N_words_of "words_of" (defScope s_words_of) (He.ga K "words_of") cdv A outer s H E)).A.units + 1 < cLine := by omega
  exact (vs_cons (vs_if (vt_not (vt_val (ve_o (ve_isi T.b_isinstance T.b_str boot_str (vo_var 0))))) (vs_one (vs_raise X_BadText tk (hr.mono (by decide)) (by decide) (va_cons ve_int (va_cons ve_int va_nil)))) vs_nil) (vs_cons (vs_setO (i := 1) [] S.nd (vf_lst va_nil)) (vs_cons (vs_for [] (passes_of rfl) rfl (vi_enum st_e T.b_enumerate (va_cons (ve_f (vf_split (vo_var 0) (ve_o ve_str))) va_nil)) (vg_tup rfl (vgs_cons (vg_name 2 S.nd) (vgs_cons (vg_name 3 S.nd) vgs_nil))) (vs_cons (vs_set (i := 4) [3] S.nd (ve_fn C_split_words tk (hr.mono (by decide)) (va_cons (ve_var 3) va_nil) (al al_nil))) (vs_one (vs_if (vt_cmp od_gt (ve_o (ve_callB cd_len T.b_len boot_len (va_cons (vo_var 4) va_nil))) (ve_o ve_int)) (vs_one (vs_app (i := 1) [] (ve_tup (va_cons (ve_bin od_plus (vo_var 2) (ve_o ve_int)) (va_cons (ve_callTy cd_tuple T.b_tuple boot_tuple (va_cons (vo_var 4) va_nil)) va_nil))))) vs_nil)))) (vs_one (vs_ret (ve_callTy cd_tuple T.b_tuple boot_tuple (va_cons (vo_var 1) va_nil)))))))
theorem ok_text_of (F : Fun K "text_of" "text_of" s_text_of (He.ga K "text_of") fd) (hm : mg "text_of" = some (.ref (He.ga K "text_of"))) (T : TX K mg) : Callee P w K mg base "text_of" 2 1 F_text_of := by
  have S := sc_text_of
  refine callee_of (k := 1) F S hm rfl (F.binds (ps := ["lines"]) fun _ _ _ _ _ _ us hl => match us, hl with | [_], _ => rfl) fun cdv A outer s H E hr => ?_
  have tk : Takes (cxOf (L2.CX P w) P w K mg base N_text_of "text_of" (defScope s_text_of) (He.ga K "text_of") cdv A outer s H E) (fun cls d _ H => E cls d H) := takes_of rfl rfl rfl rfl
  have hu : ((cxOf (L2.CX P w) P w K mg base N_text_of "text_of" (defScope s_text_of) (He.ga K "text_of") cdv A outer s H E)).A.units + 64 < cLine := by have := hr.un; show (A.deeper _).units + 64 < cLine; omega
  have hu1 : ((cxOf (L2.CX P w) P w K mg base N_text_of "text_of" (defScope s_text_of) (He.ga K "text_of") cdv A outer s H E)).A.units + 1 < cLine := by omega
  exact (vs_one (vs_ret (ve_join (ve_o ve_str) (ve_o (ve_f (vf_comp (own := [("words", 1)]) rfl S.nd (vi_seq st_o (vo_var 0)) (blkOk_by rfl) (fun _ _ _ _ _ => (vg_name 1 S.nd)) (fun _ _ _ _ _ => vts_nil) (fun _ _ _ _ _ => (ve_bin od_plus (ve_o (ve_join (ve_o ve_str) (vo_var 1))) (ve_o ve_str)))))))))
theorem ok_is_made_of (F : Fun K "is_made_of" "is_made_of" s_is_made_of (He.ga K "is_made_of") fd) (hm : mg "is_made_of" = some (.ref (He.ga K "is_made_of"))) (T : TX K mg) : Callee P w K mg base "is_made_of" 2 2 F_is_made_of := by
  have S := sc_is_made_of
  refine callee_of (k := 1) F S hm rfl (F.binds (ps := ["text", "signs"]) fun _ _ _ _ _ _ us hl => match us, hl with | [_, _], _ => rfl) fun cdv A outer s H E hr => ?_
  have tk : Takes (cxOf (L2.CX P w) P w K mg base N_is_made_of "is_made_of" (defScope s_is_made_of) (He.ga K "is_made_of") cdv A outer s H E) (fun cls d _ H => E cls d H) := takes_of rfl rfl rfl rfl
  have hu : ((cxOf (L2.CX P w) P w K mg base N_is_made_of "is_made_of" (defScope s_is_made_of) (He.ga K "is_made_of") cdv A outer s H E)).A.units + 64 < cLine := by have := hr.un; show (A.deeper _).units + 64 < cLine; omega
  have hu1 : ((cxOf (L2.CX P w) P w K mg base N_is_made_of "is_made_of" (defScope s_is_made_of) (He.ga K "is_made_of") cdv A outer s H E)).A.units + 1 < cLine := by omega
  exact (vs_one (vs_ret (ve_callB (cd_all rfl) T.b_all boot_all (va_cons (ve_o (ve_f (vf_comp (own := [("sign", 2)]) rfl S.nd (vi_str (vo_var 0)) (blkOk_by rfl) (fun _ _ _ _ _ => (vg_name 2 S.nd)) (fun _ _ _ _ _ => vts_nil) (fun _ _ _ _ _ => (ve_cmp (od_in hu) (vo_var 2) (vo_var 1)))))) va_nil))))
theorem ok_is_word (F : Fun K "is_word" "is_word" s_is_word (He.ga K "is_word") fd) (hm : mg "is_word" = some (.ref (He.ga K "is_word"))) (T : TX K mg) (C_is_made_of : Callee P w K mg base "is_made_of" 2 2 F_is_made_of) : Callee P w K mg base "is_word" 3 1 F_is_word := by
  have S := sc_is_word
  refine callee_of (k := 2) F S hm rfl (F.binds (ps := ["value"]) fun _ _ _ _ _ _ us hl => match us, hl with | [_], _ => rfl) fun cdv A outer s H E hr => ?_
  have tk : Takes (cxOf (L2.CX P w) P w K mg base N_is_word "is_word" (defScope s_is_word) (He.ga K "is_word") cdv A outer s H E) (fun cls d _ H => E cls d H) := takes_of rfl rfl rfl rfl
  have hu : ((cxOf (L2.CX P w) P w K mg base N_is_word "is_word" (defScope s_is_word) (He.ga K "is_word") cdv A outer s H E)).A.units + 64 < cLine := by have := hr.un; show (A.deeper _).units + 64 < cLine; omega
  have hu1 : ((cxOf (L2.CX P w) P w K mg base N_is_word "is_word" (defScope s_is_word) (He.ga K "is_word") cdv A outer s H E)).A.units + 1 < cLine := by omega
  exact (vs_one (vs_ret (ve_and rE_bl (ve_o (ve_isi T.b_isinstance T.b_str boot_str (vo_var 0))) (ve_and rE_bl (ve_o (ve_chain od_le od_le (ve_o ve_int) (ve_o (ve_callB cd_len T.b_len boot_len (va_cons (vo_var 0) va_nil))) (ve_o (ve_gint T.c_MOST_WORD)))) (ve_one (ve_fn C_is_made_of tk (hr.mono (by decide)) (va_cons (ve_var 0) (va_cons (ve_bin od_plus (ve_o (ve_gstr T.c_LETTERS)) (ve_o (ve_gstr T.c_DIGITS))) va_nil)) (al (al al_nil))))))))
theorem ok_is_name (F : Fun K "is_name" "is_name" s_is_name (He.ga K "is_name") fd) (hm : mg "is_name" = some (.ref (He.ga K "is_name"))) (T : TX K mg) (C_is_word : Callee P w K mg base "is_word" 3 1 F_is_word) : Callee P w K mg base "is_name" 4 1 F_is_name := by
  have S := sc_is_name
  refine callee_of (k := 3) F S hm rfl (F.binds (ps := ["value"]) fun _ _ _ _ _ _ us hl => match us, hl with | [_], _ => rfl) fun cdv A outer s H E hr => ?_
  have tk : Takes (cxOf (L2.CX P w) P w K mg base N_is_name "is_name" (defScope s_is_name) (He.ga K "is_name") cdv A outer s H E) (fun cls d _ H => E cls d H) := takes_of rfl rfl rfl rfl
  have hu : ((cxOf (L2.CX P w) P w K mg base N_is_name "is_name" (defScope s_is_name) (He.ga K "is_name") cdv A outer s H E)).A.units + 64 < cLine := by have := hr.un; show (A.deeper _).units + 64 < cLine; omega
  have hu1 : ((cxOf (L2.CX P w) P w K mg base N_is_name "is_name" (defScope s_is_name) (He.ga K "is_name") cdv A outer s H E)).A.units + 1 < cLine := by omega
  exact (vs_cons (vs_if (vt_w (vw_or (vt_not (vt_val (ve_o (ve_fn C_is_word tk (hr.mono (by decide)) (va_cons (ve_var 0) va_nil) (al al_nil))))) (vw_or1 (vt_cmp od_gt (ve_o (ve_callB cd_len T.b_len boot_len (va_cons (vo_var 0) va_nil))) (ve_o (ve_gint T.c_MOST_NAME)))))) (vs_one (vs_ret ve_bl)) vs_nil) (vs_one (vs_ret (ve_and rE_bl (ve_o (ve_cmp (od_in hu) (ve_o (ve_ix (vo_var 0) (ve_o ve_int))) (ve_o (ve_gstr T.c_LETTERS)))) (ve_one (ve_cmp (od_notIn hu) (vo_var 0) (ve_o (ve_gtup T.c_KEYWORDS T.q_KEYWORDS))))))))
theorem ok_is_numeral (F : Fun K "is_numeral" "is_numeral" s_is_numeral (He.ga K "is_numeral") fd) (hm : mg "is_numeral" = some (.ref (He.ga K "is_numeral"))) (T : TX K mg) (C_is_made_of : Callee P w K mg base "is_made_of" 2 2 F_is_made_of) : Callee P w K mg base "is_numeral" 3 1 F_is_numeral := by
  have S := sc_is_numeral
  refine callee_of (k := 2) F S hm rfl (F.binds (ps := ["value"]) fun _ _ _ _ _ _ us hl => match us, hl with | [_], _ => rfl) fun cdv A outer s H E hr => ?_
  have tk : Takes (cxOf (L2.CX P w) P w K mg base N_is_numeral "is_numeral" (defScope s_is_numeral) (He.ga K "is_numeral") cdv A outer s H E) (fun cls d _ H => E cls d H) := takes_of rfl rfl rfl rfl
  have hu : ((cxOf (L2.CX P w) P w K mg base N_is_numeral "is_numeral" (defScope s_is_numeral) (He.ga K "is_numeral") cdv A outer s H E)).A.units + 64 < cLine := by have := hr.un; show (A.deeper _).units + 64 < cLine; omega
  have hu1 : ((cxOf (L2.CX P w) P w K mg base N_is_numeral "is_numeral" (defScope s_is_numeral) (He.ga K "is_numeral") cdv A outer s H E)).A.units + 1 < cLine := by omega
  exact (vs_cons (vs_if (vt_w (vw_or (vt_not (vt_val (ve_o (ve_isi T.b_isinstance T.b_str boot_str (vo_var 0))))) (vw_or (vt_not (vt_chain od_le od_le (ve_o ve_int) (ve_o (ve_callB cd_len T.b_len boot_len (va_cons (vo_var 0) va_nil))) (ve_o (ve_gint T.c_MOST_DIGITS)))) (vw_or1 (vt_not (vt_val (ve_o (ve_fn C_is_made_of tk (hr.mono (by decide)) (va_cons (ve_var 0) (va_cons (ve_gstr T.c_DIGITS) va_nil)) (al (al al_nil)))))))))) (vs_one (vs_ret ve_bl)) vs_nil) (vs_one (vs_ret (ve_or rE_bl (ve_o (ve_cmp (od_eq hu) (vo_var 0) (ve_o ve_str))) (ve_one (ve_cmp (od_ne hu) (ve_o (ve_ix (vo_var 0) (ve_o ve_int))) (ve_o ve_str)))))))
theorem ok__law_answers (F : Fun K "_law_answers" "_law_answers" s__law_answers (He.ga K "_law_answers") fd) (hm : mg "_law_answers" = some (.ref (He.ga K "_law_answers"))) (T : TX K mg) (C_is_name : Callee P w K mg base "is_name" 4 1 F_is_name) (C_is_numeral : Callee P w K mg base "is_numeral" 3 1 F_is_numeral) (C_is_word : Callee P w K mg base "is_word" 3 1 F_is_word) : Callee P w K mg base "_law_answers" 5 1 F__law_answers := by
  have S := sc__law_answers
  refine callee_of (k := 4) F S hm rfl (F.binds (ps := ["value"]) fun _ _ _ _ _ _ us hl => match us, hl with | [_], _ => rfl) fun cdv A outer s H E hr => ?_
  have tk : Takes (cxOf (L2.CX P w) P w K mg base N__law_answers "_law_answers" (defScope s__law_answers) (He.ga K "_law_answers") cdv A outer s H E) (fun cls d _ H => E cls d H) := takes_of rfl rfl rfl rfl
  have hu : ((cxOf (L2.CX P w) P w K mg base N__law_answers "_law_answers" (defScope s__law_answers) (He.ga K "_law_answers") cdv A outer s H E)).A.units + 64 < cLine := by have := hr.un; show (A.deeper _).units + 64 < cLine; omega
  have hu1 : ((cxOf (L2.CX P w) P w K mg base N__law_answers "_law_answers" (defScope s__law_answers) (He.ga K "_law_answers") cdv A outer s H E)).A.units + 1 < cLine := by omega
  exact (vs_one (vs_ret (ve_f (vf_lst (va_cons (ve_fn C_is_name tk (hr.mono (by decide)) (va_cons (ve_var 0) va_nil) (al al_nil)) (va_cons (ve_fn C_is_word tk (hr.mono (by decide)) (va_cons (ve_var 0) va_nil) (al al_nil)) (va_cons (ve_fn C_is_numeral tk (hr.mono (by decide)) (va_cons (ve_var 0) va_nil) (al al_nil)) va_nil)))))))
theorem ok__law_fault (F : Fun K "_law_fault" "_law_fault" s__law_fault (He.ga K "_law_fault") fd) (hm : mg "_law_fault" = some (.ref (He.ga K "_law_fault"))) (T : TX K mg) (C_words_of : Callee P w K mg base "words_of" 3 1 F_words_of) : Callee P w K mg base "_law_fault" 4 1 F__law_fault := by
  have S := sc__law_fault
  refine callee_of (k := 3) F S hm rfl (F.binds (ps := ["value"]) fun _ _ _ _ _ _ us hl => match us, hl with | [_], _ => rfl) fun cdv A outer s H E hr => ?_
  have tk : Takes (cxOf (L2.CX P w) P w K mg base N__law_fault "_law_fault" (defScope s__law_fault) (He.ga K "_law_fault") cdv A outer s H E) (fun cls d _ H => E cls d H) := takes_of rfl rfl rfl rfl
  have hu : ((cxOf (L2.CX P w) P w K mg base N__law_fault "_law_fault" (defScope s__law_fault) (He.ga K "_law_fault") cdv A outer s H E)).A.units + 64 < cLine := by have := hr.un; show (A.deeper _).units + 64 < cLine; omega
  have hu1 : ((cxOf (L2.CX P w) P w K mg base N__law_fault "_law_fault" (defScope s__law_fault) (He.ga K "_law_fault") cdv A outer s H E)).A.units + 1 < cLine := by omega
  exact (vs_cons (vs_set (i := 1) [] S.nd ve_non) (vs_cons (vs_try rfl rfl tk (fun W pn xe tk po => (vs_one (vs_drop (ve_o (ve_fn C_words_of tk (hr.mono (by decide)) (va_cons (ve_var 0) va_nil) (al al_nil)))))) (.named ⟨rfl, by decide, .inl T.m_BadText⟩ (hb_cons T.m_BadText T.x_BadText_BadText hb_nil) S.nd rfl rfl (fun e eo cls d pn z fz => xs_set (i := 1) [] S.nd (xe_tup (xa_cons (xe_fld T.e_BadText.xf T.m_BadText (T.e_BadText.no _ (by decide)) z fz) (xa_cons (xe_fld T.e_BadText.xf T.m_BadText (T.e_BadText.no _ (by decide)) z fz) xa_nil)))) .nil)) (vs_one (vs_ret (ve_var 1)))))
theorem ok__law_is_of (F : Fun K "_law_is_of" "_law_is_of" s__law_is_of (He.ga K "_law_is_of") fd) (hm : mg "_law_is_of" = some (.ref (He.ga K "_law_is_of"))) (T : TX K mg) : Callee P w K mg base "_law_is_of" 2 2 F__law_is_of := by
  have S := sc__law_is_of
  refine callee_of (k := 1) F S hm rfl (F.binds (ps := ["word", "signs"]) fun _ _ _ _ _ _ us hl => match us, hl with | [_, _], _ => rfl) fun cdv A outer s H E hr => ?_
  have tk : Takes (cxOf (L2.CX P w) P w K mg base N__law_is_of "_law_is_of" (defScope s__law_is_of) (He.ga K "_law_is_of") cdv A outer s H E) (fun cls d _ H => E cls d H) := takes_of rfl rfl rfl rfl
  have hu : ((cxOf (L2.CX P w) P w K mg base N__law_is_of "_law_is_of" (defScope s__law_is_of) (He.ga K "_law_is_of") cdv A outer s H E)).A.units + 64 < cLine := by have := hr.un; show (A.deeper _).units + 64 < cLine; omega
  have hu1 : ((cxOf (L2.CX P w) P w K mg base N__law_is_of "_law_is_of" (defScope s__law_is_of) (He.ga K "_law_is_of") cdv A outer s H E)).A.units + 1 < cLine := by omega
  exact (vs_one (vs_ret (ve_cmp (od_eq hu) (ve_o (ve_f (vf_comp (own := [("sign", 2)]) rfl S.nd (vi_str (vo_var 0)) (blkOk_by rfl) (fun _ _ _ _ _ => (vg_name 2 S.nd)) (fun _ _ _ _ _ => (vts_one (vt_cmp (od_notIn hu) (vo_var 2) (vo_var 1)))) (fun _ _ _ _ _ => (ve_var 2))))) (ve_o (ve_f (vf_lst va_nil))))))
theorem ok__law_is_word (F : Fun K "_law_is_word" "_law_is_word" s__law_is_word (He.ga K "_law_is_word") fd) (hm : mg "_law_is_word" = some (.ref (He.ga K "_law_is_word"))) (T : TX K mg) (C__law_is_of : Callee P w K mg base "_law_is_of" 2 2 F__law_is_of) : Callee P w K mg base "_law_is_word" 3 1 F__law_is_word := by
  have S := sc__law_is_word
  refine callee_of (k := 2) F S hm rfl (F.binds (ps := ["word"]) fun _ _ _ _ _ _ us hl => match us, hl with | [_], _ => rfl) fun cdv A outer s H E hr => ?_
  have tk : Takes (cxOf (L2.CX P w) P w K mg base N__law_is_word "_law_is_word" (defScope s__law_is_word) (He.ga K "_law_is_word") cdv A outer s H E) (fun cls d _ H => E cls d H) := takes_of rfl rfl rfl rfl
  have hu : ((cxOf (L2.CX P w) P w K mg base N__law_is_word "_law_is_word" (defScope s__law_is_word) (He.ga K "_law_is_word") cdv A outer s H E)).A.units + 64 < cLine := by have := hr.un; show (A.deeper _).units + 64 < cLine; omega
  have hu1 : ((cxOf (L2.CX P w) P w K mg base N__law_is_word "_law_is_word" (defScope s__law_is_word) (He.ga K "_law_is_word") cdv A outer s H E)).A.units + 1 < cLine := by omega
  exact (vs_one (vs_ret (ve_and rE_bl (ve_o (ve_chain od_le od_le (ve_o ve_int) (ve_o (ve_callB cd_len T.b_len boot_len (va_cons (vo_var 0) va_nil))) (ve_o ve_int))) (ve_one (ve_fn C__law_is_of tk (hr.mono (by decide)) (va_cons (ve_var 0) (va_cons ve_str va_nil)) (al (al al_nil)))))))
theorem ok__law_is_name (F : Fun K "_law_is_name" "_law_is_name" s__law_is_name (He.ga K "_law_is_name") fd) (hm : mg "_law_is_name" = some (.ref (He.ga K "_law_is_name"))) (T : TX K mg) (C__law_is_word : Callee P w K mg base "_law_is_word" 3 1 F__law_is_word) (C__law_keywords : Callee P w K mg base "_law_keywords" 2 0 F__law_keywords) : Callee P w K mg base "_law_is_name" 4 1 F__law_is_name := by
  have S := sc__law_is_name
  refine callee_of (k := 3) F S hm rfl (F.binds (ps := ["word"]) fun _ _ _ _ _ _ us hl => match us, hl with | [_], _ => rfl) fun cdv A outer s H E hr => ?_
  have tk : Takes (cxOf (L2.CX P w) P w K mg base N__law_is_name "_law_is_name" (defScope s__law_is_name) (He.ga K "_law_is_name") cdv A outer s H E) (fun cls d _ H => E cls d H) := takes_of rfl rfl rfl rfl
  have hu : ((cxOf (L2.CX P w) P w K mg base N__law_is_name "_law_is_name" (defScope s__law_is_name) (He.ga K "_law_is_name") cdv A outer s H E)).A.units + 64 < cLine := by have := hr.un; show (A.deeper _).units + 64 < cLine; omega
  have hu1 : ((cxOf (L2.CX P w) P w K mg base N__law_is_name "_law_is_name" (defScope s__law_is_name) (He.ga K "_law_is_name") cdv A outer s H E)).A.units + 1 < cLine := by omega
  exact (vs_one (vs_ret (ve_and rE_bl (ve_o (ve_fn C__law_is_word tk (hr.mono (by decide)) (va_cons (ve_var 0) va_nil) (al al_nil))) (ve_and rE_bl (ve_o (ve_cmp od_le (ve_o (ve_callB cd_len T.b_len boot_len (va_cons (vo_var 0) va_nil))) (ve_o ve_int))) (ve_and rE_bl (ve_o (ve_cmp (od_notIn hu) (ve_o (ve_ix (vo_var 0) (ve_o ve_int))) (ve_o ve_str))) (ve_one (ve_cmp (od_notIn hu) (vo_var 0) (ve_o (ve_fn0 C__law_keywords tk (hr.mono (by decide)))))))))))
theorem ok__law_is_numeral (F : Fun K "_law_is_numeral" "_law_is_numeral" s__law_is_numeral (He.ga K "_law_is_numeral") fd) (hm : mg "_law_is_numeral" = some (.ref (He.ga K "_law_is_numeral"))) (T : TX K mg) (C__law_is_of : Callee P w K mg base "_law_is_of" 2 2 F__law_is_of) : Callee P w K mg base "_law_is_numeral" 3 1 F__law_is_numeral := by
  have S := sc__law_is_numeral
  refine callee_of (k := 2) F S hm rfl (F.binds (ps := ["word"]) fun _ _ _ _ _ _ us hl => match us, hl with | [_], _ => rfl) fun cdv A outer s H E hr => ?_
  have tk : Takes (cxOf (L2.CX P w) P w K mg base N__law_is_numeral "_law_is_numeral" (defScope s__law_is_numeral) (He.ga K "_law_is_numeral") cdv A outer s H E) (fun cls d _ H => E cls d H) := takes_of rfl rfl rfl rfl
  have hu : ((cxOf (L2.CX P w) P w K mg base N__law_is_numeral "_law_is_numeral" (defScope s__law_is_numeral) (He.ga K "_law_is_numeral") cdv A outer s H E)).A.units + 64 < cLine := by have := hr.un; show (A.deeper _).units + 64 < cLine; omega
  have hu1 : ((cxOf (L2.CX P w) P w K mg base N__law_is_numeral "_law_is_numeral" (defScope s__law_is_numeral) (He.ga K "_law_is_numeral") cdv A outer s H E)).A.units + 1 < cLine := by omega
  exact (vs_one (vs_ret (ve_and rE_bl (ve_o (ve_chain od_le od_le (ve_o ve_int) (ve_o (ve_callB cd_len T.b_len boot_len (va_cons (vo_var 0) va_nil))) (ve_o ve_int))) (ve_and rE_bl (ve_o (ve_fn C__law_is_of tk (hr.mono (by decide)) (va_cons (ve_var 0) (va_cons ve_str va_nil)) (al (al al_nil)))) (ve_one (ve_or rE_bl (ve_o (ve_cmp (od_eq hu) (vo_var 0) (ve_o ve_str))) (ve_one (ve_cmp (od_ne hu) (ve_o (ve_ix (vo_var 0) (ve_o ve_int))) (ve_o ve_str)))))))))
theorem ok__law_look (F : Fun K "_law_look" "_law_look" s__law_look (He.ga K "_law_look") fd) (hm : mg "_law_look" = some (.ref (He.ga K "_law_look"))) (T : TX K mg) (C__law_is_name : Callee P w K mg base "_law_is_name" 4 1 F__law_is_name) (C__law_is_numeral : Callee P w K mg base "_law_is_numeral" 3 1 F__law_is_numeral) (C__law_is_word : Callee P w K mg base "_law_is_word" 3 1 F__law_is_word) : Callee P w K mg base "_law_look" 5 1 F__law_look := by
  have S := sc__law_look
  refine callee_of (k := 4) F S hm rfl (F.binds (ps := ["word"]) fun _ _ _ _ _ _ us hl => match us, hl with | [_], _ => rfl) fun cdv A outer s H E hr => ?_
  have tk : Takes (cxOf (L2.CX P w) P w K mg base N__law_look "_law_look" (defScope s__law_look) (He.ga K "_law_look") cdv A outer s H E) (fun cls d _ H => E cls d H) := takes_of rfl rfl rfl rfl
  have hu : ((cxOf (L2.CX P w) P w K mg base N__law_look "_law_look" (defScope s__law_look) (He.ga K "_law_look") cdv A outer s H E)).A.units + 64 < cLine := by have := hr.un; show (A.deeper _).units + 64 < cLine; omega
  have hu1 : ((cxOf (L2.CX P w) P w K mg base N__law_look "_law_look" (defScope s__law_look) (He.ga K "_law_look") cdv A outer s H E)).A.units + 1 < cLine := by omega
  exact (vs_cons (vs_if (vt_cmp (od_eq hu) (vo_var 0) (ve_o ve_str)) (vs_one (vs_ret (ve_f (vf_lst (va_cons ve_bl (va_cons ve_bl (va_cons ve_bl va_nil))))))) vs_nil) (vs_one (vs_ret (ve_f (vf_lst (va_cons (ve_fn C__law_is_name tk (hr.mono (by decide)) (va_cons (ve_var 0) va_nil) (al al_nil)) (va_cons (ve_fn C__law_is_word tk (hr.mono (by decide)) (va_cons (ve_var 0) va_nil) (al al_nil)) (va_cons (ve_fn C__law_is_numeral tk (hr.mono (by decide)) (va_cons (ve_var 0) va_nil) (al al_nil)) va_nil))))))))
theorem ok_law {fdp : FuncData} (F : Fun K "law" "law" s_law (He.ga K "law") fd) (T : TX K mg) (Fp : Fun K "_law_pen" "_law_pen" s__law_pen (He.ga K "_law_pen") fdp) (hmp : mg "_law_pen" = some (.ref (He.ga K "_law_pen"))) (C__law_answers : Callee P w K mg base "_law_answers" 5 1 F__law_answers) (C__law_draw : Callee P w K mg base "_law_draw" 2 2 F__law_draw) (C__law_drawn_text : Callee P w K mg base "_law_drawn_text" 6 1 F__law_drawn_text) (C__law_fault : Callee P w K mg base "_law_fault" 4 1 F__law_fault) (C__law_look : Callee P w K mg base "_law_look" 5 1 F__law_look) (C__law_pick : Callee P w K mg base "_law_pick" 3 2 F__law_pick) (C__law_strange : Callee P w K mg base "_law_strange" 5 1 F__law_strange) (C_text_of : Callee P w K mg base "text_of" 2 1 F_text_of) (C_words_of : Callee P w K mg base "words_of" 3 1 F_words_of)
    (plain : ∀ w : Wd, ∃ w', (g_law (lawE 18) w).res = .ok (.bl true) w') : FnOk P w K mg base (L2.CX P w) 7 (He.ga K "law") fd ["script"] (spLaw K) := by
  have S := sc_law
  refine law_ok (k := 6) F S (by decide) rfl (fun cdv A outer s H E hr => ?_) plain
  have tk : Takes (cxOf (L2.CX P w) P w K mg base N_law "law" (defScope s_law) (He.ga K "law") cdv A outer s H E) (fun cls d _ H => E cls d H) := takes_of rfl rfl rfl rfl
  have hu : ((cxOf (L2.CX P w) P w K mg base N_law "law" (defScope s_law) (He.ga K "law") cdv A outer s H E)).A.units + 64 < cLine := by have := hr.un; show (A.deeper _).units + 64 < cLine; omega
  have hu1 : ((cxOf (L2.CX P w) P w K mg base N_law "law" (defScope s_law) (He.ga K "law") cdv A outer s H E)).A.units + 1 < cLine := by omega
  exact pss_cons (ps_set S.nd rfl (Or.inl rfl) (pe_call (ok__law_pen Fp T) (hr.mono (by decide)) rfl hmp Fp.kp (Fp.binds (ps := ["script"]) fun _ _ _ _ _ _ us hl => match us, hl with | [_], _ => rfl) .nil passL (pa_cons (pv 0) pa_nil))) (vs_cons (vs_for [] (passes_of rfl) rfl (vi_range1 T.b_range (va_cons (ve_o ve_int) va_nil)) (vg_name 2 S.nd) (vs_cons (vs_set (i := 3) [] S.nd (ve_fn C__law_strange tk (hr.mono (by decide)) (va_cons (ve_var 1) va_nil) (al al_nil))) (vs_cons (vs_set (i := 4) [3] S.nd (ve_fn C__law_answers tk (hr.mono (by decide)) (va_cons (ve_var 3) va_nil) (al al_nil))) (vs_one (vs_if (vt_w (vw_or (vt_cmp (od_ne hu) (ve_o (ve_f (vf_comp (own := [("one", 13)]) rfl S.nd (vi_seq st_o (vo_var 4)) (blkOk_by rfl) (fun _ _ _ _ _ => (vg_name 13 S.nd)) (fun _ _ _ _ _ => (vts_one (vt_not (vt_val (ve_o (ve_isi T.b_isinstance T.b_bool boot_bool (vo_var 13))))))) (fun _ _ _ _ _ => (ve_var 13))))) (ve_o (ve_f (vf_lst va_nil)))) (vw_or1 (vt_cmp (od_ne hu) (vo_var 4) (ve_o (ve_fn C__law_look tk (hr.mono (by decide)) (va_cons (ve_var 3) va_nil) (al al_nil))))))) (vs_one (vs_ret ve_bl)) vs_nil))))) (vs_cons (vs_for [] (passes_of rfl) rfl (vi_seq st_e (ve_f (vf_lst (va_cons ve_non (va_cons ve_int (va_cons (ve_tup (va_cons ve_str va_nil)) (va_cons (ve_f (vf_lst (va_cons ve_str va_nil))) (va_cons ve_bl (va_cons ve_int (va_cons (ve_f vf_dnew) (va_cons ve_str va_nil))))))))))) (vg_name 5 S.nd) (vs_one (vs_if (vt_cmp (od_ne hu) (ve_o (ve_fn C__law_answers tk (hr.mono (by decide)) (va_cons (ve_var 5) va_nil) (al al_nil))) (ve_o (ve_f (vf_lst (va_cons ve_bl (va_cons ve_bl (va_cons ve_bl va_nil))))))) (vs_one (vs_ret ve_bl)) vs_nil))) (vs_cons (vs_to [] (ve_fn C__law_drawn_text tk (hr.mono (by decide)) (va_cons (ve_var 1) va_nil) (al al_nil)) (vg_tup rfl (vgs_cons (vg_name 6 S.nd) (vgs_cons (vg_name 7 S.nd) vgs_nil)))) (vs_cons (vs_set (i := 8) [6] S.nd (ve_fn C_words_of tk (hr.mono (by decide)) (va_cons (ve_var 6) va_nil) (al al_nil))) (vs_cons (vs_if (vt_w (vw_or (vt_not (vt_val (ve_o (ve_isi T.b_isinstance T.b_tuple boot_tuple (vo_var 8))))) (vw_or (vt_cmp (od_ne hu) (vo_var 8) (vo_var 7)) (vw_or (vt_cmp (od_ne hu) (ve_o (ve_fn C_words_of tk (hr.mono (by decide)) (va_cons ve_str va_nil) (al al_nil))) (ve_o (ve_tup va_nil))) (vw_or1 (vt_cmp (od_ne hu) (ve_o (ve_fn C_words_of tk (hr.mono (by decide)) (va_cons ve_str va_nil) (al al_nil))) (ve_o (ve_tup va_nil)))))))) (vs_one (vs_ret ve_bl)) vs_nil) (vs_cons (vs_if (vt_cmp (od_ne hu) (ve_o (ve_f (vf_comp (own := [("pair", 14)]) rfl S.nd (vi_seq st_o (vo_var 8)) (blkOk_by rfl) (fun _ _ _ _ _ => (vg_name 14 S.nd)) (fun _ _ _ _ _ => (vts_one (vt_w (vw_or (vt_not (vt_val (ve_o (ve_isi T.b_isinstance T.b_tuple boot_tuple (vo_var 14))))) (vw_or1 (vt_not (vt_val (ve_o (ve_isi T.b_isinstance T.b_tuple boot_tuple (ve_o (ve_ix (vo_var 14) (ve_o ve_int)))))))))))) (fun _ _ _ _ _ => (ve_var 14))))) (ve_o (ve_f (vf_lst va_nil)))) (vs_one (vs_ret ve_bl)) vs_nil) (vs_cons (vs_setC (i := 9) (own := [("number", 15), ("words", 16)]) [] rfl S.nd rfl rfl (vi_seq st_o (vo_var 7)) (blkOk_by rfl) (fun _ _ _ _ _ => (vg_tup rfl (vgs_cons (vg_name 15 S.nd) (vgs_cons (vg_name 16 S.nd) vgs_nil)))) (fun _ _ _ _ _ => vts_nil) (fun _ _ _ _ _ => (ve_f (ve_callTy cd_list T.b_list boot_list (va_cons (vo_var 16) va_nil))))) (vs_cons (vs_set (i := 10) [9] S.nd (ve_if (vt_cmp (od_eq hu) (ve_o (ve_fn C__law_draw tk (hr.mono (by decide)) (va_cons (ve_var 1) (va_cons ve_int va_nil)) (al (al al_nil)))) (ve_o ve_int)) (ve_var 9) (ve_callTy cd_tuple T.b_tuple boot_tuple (va_cons (ve_o (ve_f (vf_comp (own := [("words", 16)]) rfl S.nd (vi_seq st_o (vo_var 9)) (blkOk_by rfl) (fun _ _ _ _ _ => (vg_name 16 S.nd)) (fun _ _ _ _ _ => vts_nil) (fun _ _ _ _ _ => (ve_callTy cd_tuple T.b_tuple boot_tuple (va_cons (vo_var 16) va_nil)))))) va_nil)))) (vs_cons (vs_set (i := 11) [10] S.nd (ve_fn C_text_of tk (hr.mono (by decide)) (va_cons (ve_var 10) va_nil) (al al_nil))) (vs_cons (vs_if (vt_w (vw_or (vt_not (vt_val (ve_o (ve_isi T.b_isinstance T.b_str boot_str (vo_var 11))))) (vw_or (vt_cmp (od_ne hu) (vo_var 11) (ve_o (ve_join (ve_o ve_str) (ve_o (ve_f (vf_comp (own := [("words", 16)]) rfl S.nd (vi_seq st_o (vo_var 9)) (blkOk_by rfl) (fun _ _ _ _ _ => (vg_name 16 S.nd)) (fun _ _ _ _ _ => vts_nil) (fun _ _ _ _ _ => (ve_bin od_plus (ve_o (ve_join (ve_o ve_str) (vo_var 16))) (ve_o ve_str))))))))) (vw_or1 (vt_cmp (od_ne hu) (ve_o (ve_fn C_text_of tk (hr.mono (by decide)) (va_cons (ve_f (vf_lst va_nil)) va_nil) (al al_nil))) (ve_o ve_str)))))) (vs_one (vs_ret ve_bl)) vs_nil) (vs_cons (vs_if (vt_cmp (od_ne hu) (ve_o (ve_fn C_words_of tk (hr.mono (by decide)) (va_cons (ve_var 11) va_nil) (al al_nil))) (ve_o (ve_callTy cd_tuple T.b_tuple boot_tuple (va_cons (ve_o (ve_f (vf_comp (own := [("k", 17), ("words", 16)]) rfl S.nd (vi_enum st_o T.b_enumerate (va_cons (vo_var 9) va_nil)) (blkOk_by rfl) (fun _ _ _ _ _ => (vg_tup rfl (vgs_cons (vg_name 17 S.nd) (vgs_cons (vg_name 16 S.nd) vgs_nil)))) (fun _ _ _ _ _ => vts_nil) (fun _ _ _ _ _ => (ve_tup (va_cons (ve_bin od_plus (vo_var 17) (ve_o ve_int)) (va_cons (ve_callTy cd_tuple T.b_tuple boot_tuple (va_cons (vo_var 16) va_nil)) va_nil))))))) va_nil)))) (vs_one (vs_ret ve_bl)) vs_nil) (vs_cons (vs_set (i := 12) [] S.nd (ve_fn C__law_pick tk (hr.mono (by decide)) (va_cons (ve_var 1) (va_cons (ve_f (vf_lst (va_cons ve_non (va_cons ve_int (va_cons (ve_f (vf_lst (va_cons ve_str va_nil))) (va_cons (ve_tup (va_cons ve_str va_nil)) (va_cons ve_bl (va_cons (ve_f vf_dnew) va_nil)))))))) va_nil)) (al (al al_nil)))) (vs_one (vs_ret (ve_and rE_bl (ve_o (ve_cmp (od_eq hu) (ve_o (ve_fn C__law_fault tk (hr.mono (by decide)) (va_cons (ve_var 12) va_nil) (al al_nil))) (ve_o (ve_tup (va_cons ve_int (va_cons ve_int va_nil)))))) (ve_one (ve_cmp od_isN (ve_o (ve_fn C__law_fault tk (hr.mono (by decide)) (va_cons (ve_var 6) va_nil) (al al_nil))) (ve_o ve_non))))))))))))))))))
end
/-! ### the head -/
def fa : List FaB := [fun K => (He.Fa.free "all").ok K,
  fun K => (He.Fa.free "bool").ok K,
  fun K => (He.Fa.free "enumerate").ok K,
  fun K => (He.Fa.free "int").ok K,
  fun K => (He.Fa.free "isinstance").ok K,
  fun K => (He.Fa.free "len").ok K,
  fun K => (He.Fa.free "list").ok K,
  fun K => (He.Fa.free "range").ok K,
  fun K => (He.Fa.free "str").ok K,
  fun K => (He.Fa.free "tuple").ok K,
  fun K => (He.Fa.str "DIGITS" "0123456789").ok K,
  fun K => (He.Fa.glo "KEYWORDS").ok K,
  fun K => tupS K "KEYWORDS" L_KEYWORDS,
  fun K => (He.Fa.str "LETTERS" "abcdefghijklmnopqrstuvwxyz").ok K,
  fun K => (He.Fa.int "MOST_DIGITS" 40).ok K,
  fun K => (He.Fa.int "MOST_NAME" 12).ok K,
  fun K => (He.Fa.int "MOST_WORD" 20).ok K,
  fun K => (He.Fa.glo "BadText").ok K,
  excB "BadText" ["line", "word"],
  fun K => (He.Fa.exm "BadText" "BadText" true).ok K,
  fun K => (He.Fa.glo "_law_pen").ok K,
  fun K => (He.Fa.glo "_law_draw").ok K,
  fun K => (He.Fa.glo "_law_pick").ok K,
  fun K => (He.Fa.glo "_law_keywords").ok K,
  fun K => (He.Fa.glo "_law_sign").ok K,
  fun K => (He.Fa.glo "_law_strange").ok K,
  fun K => (He.Fa.glo "_law_drawn_text").ok K,
  fun K => (He.Fa.glo "split_words").ok K,
  fun K => (He.Fa.glo "words_of").ok K,
  fun K => (He.Fa.glo "text_of").ok K,
  fun K => (He.Fa.glo "is_made_of").ok K,
  fun K => (He.Fa.glo "is_word").ok K,
  fun K => (He.Fa.glo "is_name").ok K,
  fun K => (He.Fa.glo "is_numeral").ok K,
  fun K => (He.Fa.glo "_law_answers").ok K,
  fun K => (He.Fa.glo "_law_fault").ok K,
  fun K => (He.Fa.glo "_law_is_of").ok K,
  fun K => (He.Fa.glo "_law_is_word").ok K,
  fun K => (He.Fa.glo "_law_is_name").ok K,
  fun K => (He.Fa.glo "_law_is_numeral").ok K,
  fun K => (He.Fa.glo "_law_look").ok K,
  fun K => (He.Fa.glo "law").ok K]
def fn : List He.FnD := [dOf "_law_pen" s__law_pen, dOf "_law_draw" s__law_draw, dOf "_law_pick" s__law_pick, dOf "_law_keywords" s__law_keywords, dOf "_law_sign" s__law_sign, dOf "_law_strange" s__law_strange, dOf "_law_drawn_text" s__law_drawn_text, dOf "split_words" s_split_words, dOf "words_of" s_words_of, dOf "text_of" s_text_of, dOf "is_made_of" s_is_made_of, dOf "is_word" s_is_word, dOf "is_name" s_is_name, dOf "is_numeral" s_is_numeral, dOf "_law_answers" s__law_answers, dOf "_law_fault" s__law_fault, dOf "_law_is_of" s__law_is_of, dOf "_law_is_word" s__law_is_word, dOf "_law_is_name" s__law_is_name, dOf "_law_is_numeral" s__law_is_numeral, dOf "_law_look" s__law_look, dOf "law" s_law, dInit "BadText" "BadText.__init__" si_BadText]
theorem tx_of {K : PySem.W.Frag} {h : Heap} {mg : Str → Option Value} (X : K.In h) (G : h.Ns mainGlobals mg) (c : SaysQ fa fn K) : TX K mg where
  b_all := He.free_ok X G (c.fact 0)
  b_bool := He.free_ok X G (c.fact 1)
  b_enumerate := He.free_ok X G (c.fact 2)
  b_int := He.free_ok X G (c.fact 3)
  b_isinstance := He.free_ok X G (c.fact 4)
  b_len := He.free_ok X G (c.fact 5)
  b_list := He.free_ok X G (c.fact 6)
  b_range := He.free_ok X G (c.fact 7)
  b_str := He.free_ok X G (c.fact 8)
  b_tuple := He.free_ok X G (c.fact 9)
  c_DIGITS := He.str_ok X G (c.fact 10)
  c_KEYWORDS := He.glo_ok X G (c.fact 11)
  q_KEYWORDS := tupS_ok (c.fact 12)
  c_LETTERS := He.str_ok X G (c.fact 13)
  c_MOST_DIGITS := He.int_ok X G (c.fact 14)
  c_MOST_NAME := He.int_ok X G (c.fact 15)
  c_MOST_WORD := He.int_ok X G (c.fact 16)
  m_BadText := He.glo_ok X G (c.fact 17)
  e_BadText := excB_ok (c.fact 18)
  x_BadText_BadText := He.exm_ok (c.fact 19)
theorem facts {P : Program} {w : World} {K : PySem.W.Frag} {h : Heap} {mg : Str → Option Value} {a : Addr} (X : K.In h) (G : h.Ns mainGlobals mg) (hfa : mg ("law" : Str) = some (.ref a)) (c : SaysQ fa fn K) (plain : ∀ w : Wd, ∃ w', (g_law (lawE 18) w).res = .ok (.bl true) w') :
    ∃ fd : FuncData, (∀ (s : Shared) (v : Value), BindsTo s fd ⟨[v], []⟩ [("script", v)]) ∧ ∀ base : Heap, K.In base → base.Ns mainGlobals mg → FnOk P w K mg base (L2.CX P w) 7 a fd ["script"] (spLaw K) := by
  have T := tx_of X G c
  have f__law_pen := He.glo_ok X G (c.fact 20)
  have f__law_draw := He.glo_ok X G (c.fact 21)
  have f__law_pick := He.glo_ok X G (c.fact 22)
  have f__law_keywords := He.glo_ok X G (c.fact 23)
  have f__law_sign := He.glo_ok X G (c.fact 24)
  have f__law_strange := He.glo_ok X G (c.fact 25)
  have f__law_drawn_text := He.glo_ok X G (c.fact 26)
  have f_split_words := He.glo_ok X G (c.fact 27)
  have f_words_of := He.glo_ok X G (c.fact 28)
  have f_text_of := He.glo_ok X G (c.fact 29)
  have f_is_made_of := He.glo_ok X G (c.fact 30)
  have f_is_word := He.glo_ok X G (c.fact 31)
  have f_is_name := He.glo_ok X G (c.fact 32)
  have f_is_numeral := He.glo_ok X G (c.fact 33)
  have f__law_answers := He.glo_ok X G (c.fact 34)
  have f__law_fault := He.glo_ok X G (c.fact 35)
  have f__law_is_of := He.glo_ok X G (c.fact 36)
  have f__law_is_word := He.glo_ok X G (c.fact 37)
  have f__law_is_name := He.glo_ok X G (c.fact 38)
  have f__law_is_numeral := He.glo_ok X G (c.fact 39)
  have f__law_look := He.glo_ok X G (c.fact 40)
  have f_law := He.glo_ok X G (c.fact 41)
  obtain ⟨fd__law_pen, F__law_pen_⟩ := fun_of c 0 (x := "_law_pen") (st := s__law_pen)
  obtain ⟨fd__law_draw, F__law_draw_⟩ := fun_of c 1 (x := "_law_draw") (st := s__law_draw)
  obtain ⟨fd__law_pick, F__law_pick_⟩ := fun_of c 2 (x := "_law_pick") (st := s__law_pick)
  obtain ⟨fd__law_keywords, F__law_keywords_⟩ := fun_of c 3 (x := "_law_keywords") (st := s__law_keywords)
  obtain ⟨fd__law_sign, F__law_sign_⟩ := fun_of c 4 (x := "_law_sign") (st := s__law_sign)
  obtain ⟨fd__law_strange, F__law_strange_⟩ := fun_of c 5 (x := "_law_strange") (st := s__law_strange)
  obtain ⟨fd__law_drawn_text, F__law_drawn_text_⟩ := fun_of c 6 (x := "_law_drawn_text") (st := s__law_drawn_text)
  obtain ⟨fd_split_words, F_split_words_⟩ := fun_of c 7 (x := "split_words") (st := s_split_words)
  obtain ⟨fd_words_of, F_words_of_⟩ := fun_of c 8 (x := "words_of") (st := s_words_of)
  obtain ⟨fd_text_of, F_text_of_⟩ := fun_of c 9 (x := "text_of") (st := s_text_of)
  obtain ⟨fd_is_made_of, F_is_made_of_⟩ := fun_of c 10 (x := "is_made_of") (st := s_is_made_of)
  obtain ⟨fd_is_word, F_is_word_⟩ := fun_of c 11 (x := "is_word") (st := s_is_word)
  obtain ⟨fd_is_name, F_is_name_⟩ := fun_of c 12 (x := "is_name") (st := s_is_name)
  obtain ⟨fd_is_numeral, F_is_numeral_⟩ := fun_of c 13 (x := "is_numeral") (st := s_is_numeral)
  obtain ⟨fd__law_answers, F__law_answers_⟩ := fun_of c 14 (x := "_law_answers") (st := s__law_answers)
  obtain ⟨fd__law_fault, F__law_fault_⟩ := fun_of c 15 (x := "_law_fault") (st := s__law_fault)
  obtain ⟨fd__law_is_of, F__law_is_of_⟩ := fun_of c 16 (x := "_law_is_of") (st := s__law_is_of)
  obtain ⟨fd__law_is_word, F__law_is_word_⟩ := fun_of c 17 (x := "_law_is_word") (st := s__law_is_word)
  obtain ⟨fd__law_is_name, F__law_is_name_⟩ := fun_of c 18 (x := "_law_is_name") (st := s__law_is_name)
  obtain ⟨fd__law_is_numeral, F__law_is_numeral_⟩ := fun_of c 19 (x := "_law_is_numeral") (st := s__law_is_numeral)
  obtain ⟨fd__law_look, F__law_look_⟩ := fun_of c 20 (x := "_law_look") (st := s__law_look)
  obtain ⟨fd_law, F_law_⟩ := fun_of c 21 (x := "law") (st := s_law)
  obtain ⟨fdi_BadText, Fi_BadText⟩ := fun_ofI c 22 (x := "BadText") (q := "BadText.__init__") (st := si_BadText)
  have e := hfa.symm.trans f_law
  cases e
  have b := law_binds F_law_ fun _ _ _ _ _ _ s v => .of_eq rfl
  refine ⟨fd_law, b, fun base _ _ => ?_⟩
  have X_BadText : XC P w K mg base "BadText" ["line", "word"] := xc_BadText Fi_BadText T.e_BadText T.m_BadText
  have C__law_draw : Callee P w K mg base "_law_draw" 2 2 F__law_draw := ok__law_draw F__law_draw_ f__law_draw T
  have C__law_pick : Callee P w K mg base "_law_pick" 3 2 F__law_pick := ok__law_pick F__law_pick_ f__law_pick T C__law_draw
  have C__law_keywords : Callee P w K mg base "_law_keywords" 2 0 F__law_keywords := ok__law_keywords F__law_keywords_ f__law_keywords T
  have C__law_sign : Callee P w K mg base "_law_sign" 4 1 F__law_sign := ok__law_sign F__law_sign_ f__law_sign T C__law_pick
  have C__law_strange : Callee P w K mg base "_law_strange" 5 1 F__law_strange := ok__law_strange F__law_strange_ f__law_strange T C__law_draw C__law_keywords C__law_pick C__law_sign
  have C__law_drawn_text : Callee P w K mg base "_law_drawn_text" 6 1 F__law_drawn_text := ok__law_drawn_text F__law_drawn_text_ f__law_drawn_text T C__law_draw C__law_pick C__law_strange
  have C_split_words : Callee P w K mg base "split_words" 2 1 F_split_words := ok_split_words F_split_words_ f_split_words T
  have C_words_of : Callee P w K mg base "words_of" 3 1 F_words_of := ok_words_of F_words_of_ f_words_of T C_split_words X_BadText
  have C_text_of : Callee P w K mg base "text_of" 2 1 F_text_of := ok_text_of F_text_of_ f_text_of T
  have C_is_made_of : Callee P w K mg base "is_made_of" 2 2 F_is_made_of := ok_is_made_of F_is_made_of_ f_is_made_of T
  have C_is_word : Callee P w K mg base "is_word" 3 1 F_is_word := ok_is_word F_is_word_ f_is_word T C_is_made_of
  have C_is_name : Callee P w K mg base "is_name" 4 1 F_is_name := ok_is_name F_is_name_ f_is_name T C_is_word
  have C_is_numeral : Callee P w K mg base "is_numeral" 3 1 F_is_numeral := ok_is_numeral F_is_numeral_ f_is_numeral T C_is_made_of
  have C__law_answers : Callee P w K mg base "_law_answers" 5 1 F__law_answers := ok__law_answers F__law_answers_ f__law_answers T C_is_name C_is_numeral C_is_word
  have C__law_fault : Callee P w K mg base "_law_fault" 4 1 F__law_fault := ok__law_fault F__law_fault_ f__law_fault T C_words_of
  have C__law_is_of : Callee P w K mg base "_law_is_of" 2 2 F__law_is_of := ok__law_is_of F__law_is_of_ f__law_is_of T
  have C__law_is_word : Callee P w K mg base "_law_is_word" 3 1 F__law_is_word := ok__law_is_word F__law_is_word_ f__law_is_word T C__law_is_of
  have C__law_is_name : Callee P w K mg base "_law_is_name" 4 1 F__law_is_name := ok__law_is_name F__law_is_name_ f__law_is_name T C__law_is_word C__law_keywords
  have C__law_is_numeral : Callee P w K mg base "_law_is_numeral" 3 1 F__law_is_numeral := ok__law_is_numeral F__law_is_numeral_ f__law_is_numeral T C__law_is_of
  have C__law_look : Callee P w K mg base "_law_look" 5 1 F__law_look := ok__law_look F__law_look_ f__law_look T C__law_is_name C__law_is_numeral C__law_is_word
  exact ok_law F_law_ T F__law_pen_ f__law_pen C__law_answers C__law_draw C__law_drawn_text C__law_fault C__law_look C__law_pick C__law_strange C_text_of C_words_of plain
abbrev R : PySem.W.OpenRow := PySem.W.OpenLaw.row PySem.Challenge.rw_leastwaits_k13_words
abbrev hk : PySem.W.Hook := hookQ 5 fa fn
def ob (s : PySem.W.SharedT) : AlQ := obsQG 5 fa fn (HandSHeadRun.getT s)
theorem ob_eq (s : PySem.W.SharedT) : ob s = hk.obs s.abs := obsQG_eq (HandSHeadRun.getT_eq s)
def names0 : List Str := ["__name__", "WaitsError", "BadText", "LETTERS", "DIGITS", "KEYWORDS", "MOST_NAME", "MOST_WORD", "MOST_DIGITS", "is_made_of", "is_word", "is_name", "is_numeral", "split_words", "words_of", "text_of", "_law_pen", "_law_draw", "_law_pick", "_law_keywords", "_law_is_of", "_law_is_word", "_law_is_name", "_law_is_numeral", "_law_sign", "_law_strange", "_law_look", "_law_answers", "_law_fault", "_law_drawn_text"]
def names : List Str := names0
theorem run (w : World) : HandSHeadRun.RunEq R (PySem.W.view R.prog [32]) hk ob 20000 names w := by
  intro os
  kernel_rfl
end L_k13

set_option Elab.async false
set_option linter.all false
set_option maxRecDepth 100000
set_option maxHeartbeats 1000000
namespace L_k13
open PySem PySem.SeqAt PySem.Spec PyProof.Rows L2 DL
def isS : D → Bool
  | .str _ => true
  | _ => false
def isB : D → Bool
  | .bl _ => true
  | _ => false
def isT : D → Bool
  | .tup _ => true
  | .kup _ => true
  | _ => false
theorem isi_str {d : D} (h : d.ty?.isSome = true) : (d.ty?.bind (isiB ["str"])).map D.bl = some (.bl (isS d)) := by cases d <;> first | (cases h; done) | rfl
theorem isi_bool {d : D} (h : d.ty?.isSome = true) : (d.ty?.bind (isiB ["bool"])).map D.bl = some (.bl (isB d)) := by cases d <;> first | (cases h; done) | rfl
theorem isi_tuple {d : D} (h : d.ty?.isSome = true) : (d.ty?.bind (isiB ["tuple"])).map D.bl = some (.bl (isT d)) := by cases d <;> first | (cases h; done) | rfl
theorem blsOf : ∀ {l : List Bool}, allOf D.bl? (l.map D.bl) = some l
  | [] => rfl
  | b :: l => by
    rw [List.map_cons]
    unfold allOf
    rw [blsOf (l := l)]
    rfl
theorem signs_len (x : Str) : (DL.signs x).length = x.length := by
  unfold DL.signs
  rw [List.length_map, Array.length_toList]; rfl
theorem mem_signs {x : Str} {d : D} (h : d ∈ DL.signs x) : ∃ c ∈ x.cps.toList, d = .str ⟨#[c]⟩ := by
  unfold DL.signs at h
  obtain ⟨c, hc, rfl⟩ := List.mem_map.mp h
  exact ⟨c, hc, rfl⟩
theorem strIn_one (c : Nat) (y : Str) : strIn ⟨#[c]⟩ y = decide (c ∈ y.cps.toList) := by
  unfold strIn
  rw [PySem.StrLaws.found_one]
theorem made_of {x y : Str} (w : Wd) (h : x.length ≤ 16777216) : F_is_made_of [.str x, .str y] w = .ok (.bl (x.cps.toList.all fun c => decide (c ∈ y.cps.toList))) w := by
  have e : lcL [2] (gN 2) dYes (dBin inD (dObs 2) (dObs 1)) [some (.str x, false), some (.str y, false), none] (DL.signs x) w [] = .ok (.lst ((x.cps.toList.map fun c => decide (c ∈ y.cps.toList)).map D.bl)) w := by
    rw [lcL_map (fun d => [some (.str x, false), some (.str y, false), some (d, false)]) (fun d => .bl (match d with | .str z => strIn z y | _ => false)) (fun _ _ => rfl) (fun d hd => by obtain ⟨c, _, rfl⟩ := mem_signs hd; rfl) (by rw [signs_len]; exact h)]
    congr 2
    unfold DL.signs
    rw [List.map_map, List.map_map]
    apply List.map_congr_left
    intro c _
    show D.bl (strIn ⟨#[c]⟩ y) = D.bl (decide (c ∈ y.cps.toList))
    rw [strIn_one]
  unfold F_is_made_of g_is_made_of
  simp only [runD, startE, SR.res, sSeq, SR.seq, sIf, Res.en, sRet, sSet, sSetO, sSetF, dVar, dObs, dC, dBin, dUn, Res.bind, Res.of, dNot, dAnd, dOr, dIf, dChain, dB, ResI.toR, aNil, aCons, ResI.mapA, dCall, dTup, dLst, sNext, rel, List.mapIdx_cons, List.mapIdx_nil, List.map_cons, List.map_nil, List.cons_append, List.nil_append, List.append_nil, List.length_cons, List.length_nil, List.replicate_succ, List.replicate_zero, List.getElem?_cons_zero, List.getElem?_cons_succ, all_, these, List.set_cons_zero, List.set_cons_succ, Bool.not_true, Bool.not_false, Bool.and_false, Bool.and_true, Bool.false_and, Bool.true_and, Nat.reduceAdd, Nat.reduceSub, dComp, iSigns, Res.toI, signsD, iSeq, itemsD, dM, leD, gtD, ltD, isiD, List.contains_nil, Int.reduceLE, Int.reduceLT, decide_true, decide_false, Option.map_some, if_true, if_false, Nat.zero_le, sizeLine_eq, Nat.reduceLeDiff, e, allD, blsOf, List.all_map]
  rfl
theorem is_of {x y : Str} (w : Wd) (h : x.length ≤ 16777216) : F__law_is_of [.str x, .str y] w = .ok (.bl (x.cps.toList.all fun c => decide (c ∈ y.cps.toList))) w := by
  have e : lcL [2] (gN 2) (dBin notInD (dObs 2) (dObs 1)) (dVar 2) [some (.str x, false), some (.str y, false), none] (DL.signs x) w [] = .ok (.lst ((DL.signs x).filter fun d => match d with | .str z => !strIn z y | _ => false)) w :=
    lcL_filter (fun d => [some (.str x, false), some (.str y, false), some (d, false)]) _ (fun _ _ => rfl) (fun d hd => by obtain ⟨c, _, rfl⟩ := mem_signs hd; rfl) (fun d hd _ => rfl) (by rw [signs_len]; exact h)
  have e2 : eqD (.lst ((DL.signs x).filter fun d => match d with | .str z => !strIn z y | _ => false)) (.lst []) = some (.bl (x.cps.toList.all fun c => decide (c ∈ y.cps.toList))) := by
    rw [eqD_nil (pls_of fun d hd => by
      obtain ⟨c, _, rfl⟩ := mem_signs (List.mem_filter.mp hd).1
      rfl)]
    congr 2
    rw [Bool.eq_iff_iff, List.isEmpty_iff, List.filter_eq_nil_iff, List.all_eq_true]
    unfold DL.signs
    constructor
    · intro q c hc
      have := q _ (List.mem_map.mpr ⟨c, hc, rfl⟩)
      simp only [strIn_one] at this
      simpa using this
    · intro q d hd
      obtain ⟨c, hc, rfl⟩ := List.mem_map.mp hd
      have := q c hc
      simp only [strIn_one]
      simpa using this
  unfold F__law_is_of g__law_is_of
  simp only [runD, startE, SR.res, sSeq, SR.seq, sIf, Res.en, sRet, sSet, sSetO, sSetF, dVar, dObs, dC, dBin, dUn, Res.bind, Res.of, dNot, dAnd, dOr, dIf, dChain, dB, ResI.toR, aNil, aCons, ResI.mapA, dCall, dTup, dLst, sNext, rel, List.mapIdx_cons, List.mapIdx_nil, List.map_cons, List.map_nil, List.cons_append, List.nil_append, List.append_nil, List.length_cons, List.length_nil, List.replicate_succ, List.replicate_zero, List.getElem?_cons_zero, List.getElem?_cons_succ, all_, these, List.set_cons_zero, List.set_cons_succ, Bool.not_true, Bool.not_false, Bool.and_false, Bool.and_true, Bool.false_and, Bool.true_and, Nat.reduceAdd, Nat.reduceSub, dComp, iSigns, Res.toI, signsD, iSeq, itemsD, dM, leD, gtD, ltD, isiD, List.contains_nil, Int.reduceLE, Int.reduceLT, decide_true, decide_false, Option.map_some, if_true, if_false, Nat.zero_le, sizeLine_eq, Nat.reduceLeDiff, e, e2]
theorem len_str {s : Str} (h : s.length ≤ 16777216) : lenD [.str s] = some (.int s.length) := if_pos h
def LD : Str := "abcdefghijklmnopqrstuvwxyz0123456789"
theorem LDe : plusD (.str "abcdefghijklmnopqrstuvwxyz") (.str "0123456789") = some (.str LD) :=
  show (if ("abcdefghijklmnopqrstuvwxyz" : Str).length + ("0123456789" : Str).length ≤ sizeLine then some (D.str (("abcdefghijklmnopqrstuvwxyz" : Str) ++ ("0123456789" : Str))) else none) = some (D.str LD) from
    (if_pos (by decide +kernel)).trans (congrArg (fun s => some (D.str s)) (by decide +kernel))
theorem isword_no {d : D} (w : Wd) (h : d.ty?.isSome = true) (n : isS d = false) : F_is_word [d] w = .ok (.bl false) w := by
  unfold F_is_word g_is_word
  simp only [runD, startE, SR.res, sSeq, SR.seq, sIf, Res.en, sRet, sSet, sSetO, sSetF, dVar, dObs, dC, dBin, dUn, Res.bind, Res.of, dNot, dAnd, dOr, dIf, dChain, dB, ResI.toR, aNil, aCons, ResI.mapA, dCall, dTup, dLst, sNext, rel, List.mapIdx_cons, List.mapIdx_nil, List.map_cons, List.map_nil, List.cons_append, List.nil_append, List.append_nil, List.length_cons, List.length_nil, List.replicate_succ, List.replicate_zero, List.getElem?_cons_zero, List.getElem?_cons_succ, all_, these, List.set_cons_zero, List.set_cons_succ, Bool.not_true, Bool.not_false, Bool.and_false, Bool.and_true, Bool.false_and, Bool.true_and, Nat.reduceAdd, Nat.reduceSub, dComp, iSigns, Res.toI, signsD, iSeq, itemsD, dM, leD, gtD, ltD, isiD, List.contains_nil, Int.reduceLE, Int.reduceLT, decide_true, decide_false, Option.map_some, if_true, if_false, Nat.zero_le, sizeLine_eq, Nat.reduceLeDiff, isi_str h, n]
def wordB (s : Str) : Bool := decide (1 ≤ s.length) && (decide (s.length ≤ 20) && s.cps.toList.all fun c => decide (c ∈ LD.cps.toList))
theorem isword {s : Str} (w : Wd) (h : s.length ≤ 16777216) : F_is_word [.str s] w = .ok (.bl (wordB s)) w := by
  unfold F_is_word g_is_word wordB
  simp only [runD, startE, SR.res, sSeq, SR.seq, sIf, Res.en, sRet, sSet, sSetO, sSetF, dVar, dObs, dC, dBin, dUn, Res.bind, Res.of, dNot, dAnd, dOr, dIf, dChain, dB, ResI.toR, aNil, aCons, ResI.mapA, dCall, dTup, dLst, sNext, rel, List.mapIdx_cons, List.mapIdx_nil, List.map_cons, List.map_nil, List.cons_append, List.nil_append, List.append_nil, List.length_cons, List.length_nil, List.replicate_succ, List.replicate_zero, List.getElem?_cons_zero, List.getElem?_cons_succ, all_, these, List.set_cons_zero, List.set_cons_succ, Bool.not_true, Bool.not_false, Bool.and_false, Bool.and_true, Bool.false_and, Bool.true_and, Nat.reduceAdd, Nat.reduceSub, dComp, iSigns, Res.toI, signsD, iSeq, itemsD, dM, leD, gtD, ltD, isiD, List.contains_nil, Int.reduceLE, Int.reduceLT, decide_true, decide_false, Option.map_some, if_true, if_false, Nat.zero_le, sizeLine_eq, Nat.reduceLeDiff, isi_str (d := .str s) rfl, isS, len_str h, LDe, made_of _ h]
  by_cases h1 : (1 : Int) ≤ s.length
  · by_cases h2 : (s.length : Int) ≤ 20
    · simp only [h1, h2, decide_true, show 1 ≤ s.length by omega, show s.length ≤ 20 by omega, Bool.true_and]
    · simp only [h1, h2, decide_true, decide_false, show ¬ s.length ≤ 20 by omega, Bool.false_and, Bool.and_false]
  · simp only [h1, decide_false, show ¬ 1 ≤ s.length by omega, Bool.false_and]
theorem lawword {s : Str} (w : Wd) (h : s.length ≤ 16777216) : F__law_is_word [.str s] w = .ok (.bl (wordB s)) w := by
  have is_of' := fun w => is_of (x := s) (y := LD) w h
  unfold LD at is_of'
  unfold F__law_is_word g__law_is_word wordB LD
  simp only [runD, startE, SR.res, sSeq, SR.seq, sIf, Res.en, sRet, sSet, sSetO, sSetF, dVar, dObs, dC, dBin, dUn, Res.bind, Res.of, dNot, dAnd, dOr, dIf, dChain, dB, ResI.toR, aNil, aCons, ResI.mapA, dCall, dTup, dLst, sNext, rel, List.mapIdx_cons, List.mapIdx_nil, List.map_cons, List.map_nil, List.cons_append, List.nil_append, List.append_nil, List.length_cons, List.length_nil, List.replicate_succ, List.replicate_zero, List.getElem?_cons_zero, List.getElem?_cons_succ, all_, these, List.set_cons_zero, List.set_cons_succ, Bool.not_true, Bool.not_false, Bool.and_false, Bool.and_true, Bool.false_and, Bool.true_and, Nat.reduceAdd, Nat.reduceSub, dComp, iSigns, Res.toI, signsD, iSeq, itemsD, dM, leD, gtD, ltD, isiD, List.contains_nil, Int.reduceLE, Int.reduceLT, decide_true, decide_false, Option.map_some, if_true, if_false, Nat.zero_le, sizeLine_eq, Nat.reduceLeDiff, len_str h, is_of']
  by_cases h1 : (1 : Int) ≤ s.length
  · by_cases h2 : (s.length : Int) ≤ 20
    · simp only [h1, h2, decide_true, show 1 ≤ s.length by omega, show s.length ≤ 20 by omega, Bool.true_and]
    · simp only [h1, h2, decide_true, decide_false, show ¬ s.length ≤ 20 by omega, Bool.false_and, Bool.and_false]
  · simp only [h1, decide_false, show ¬ 1 ≤ s.length by omega, Bool.false_and]
theorem head_at {s : Str} {c : Nat} {r : List Nat} (h : s.length ≤ 16777216) (e : s.cps.toList = c :: r) : ixD (.str s) (.int 0) = some (.str ⟨#[c]⟩) := by
  show (if s.length ≤ sizeLine then (L2.atI s.cps.toList 0).map fun c => D.str ⟨#[c]⟩ else none) = _
  rw [if_pos (show s.length ≤ sizeLine from h), e]
  have : (0 : Int) < ((r.length + 1 : Nat) : Int) := by omega
  simp [L2.atI, ixN, this]
def KW : List D := L_KEYWORDS.map .str
theorem kwcat : plusD (.lst ([.str "sort", .str "whole", .str "flag", .str "sum", .str "most", .str "least", .str "mark", .str "of", .str "text", .str "item", .str "kind", .str "number", .str "from"])) (.lst [.str "set", .str "clear", .str "add", .str "to", .str "raise", .str "lower", .str "word", .str "rule", .str "and", .str "or", .str "not"]) = some (.lst KW) := rfl
theorem kws (w : Wd) : F__law_keywords [] w = .ok (.lst KW) w := by
  unfold F__law_keywords g__law_keywords
  simp only [runD, startE, SR.res, sSeq, SR.seq, sIf, Res.en, sRet, sSet, sSetO, sSetF, dVar, dObs, dC, dBin, dUn, Res.bind, Res.of, dNot, dAnd, dOr, dIf, dChain, dB, ResI.toR, aNil, aCons, ResI.mapA, dCall, dTup, dLst, sNext, rel, List.mapIdx_cons, List.mapIdx_nil, List.map_cons, List.map_nil, List.cons_append, List.nil_append, List.append_nil, List.length_cons, List.length_nil, List.replicate_succ, List.replicate_zero, List.getElem?_cons_zero, List.getElem?_cons_succ, all_, these, List.set_cons_zero, List.set_cons_succ, Bool.not_true, Bool.not_false, Bool.and_false, Bool.and_true, Bool.false_and, Bool.true_and, Nat.reduceAdd, Nat.reduceSub, dComp, iSigns, Res.toI, signsD, iSeq, itemsD, dM, leD, gtD, ltD, isiD, List.contains_nil, Int.reduceLE, Int.reduceLT, decide_true, decide_false, Option.map_some, if_true, if_false, Nat.zero_le, sizeLine_eq, Nat.reduceLeDiff, kwcat]
theorem kwpl : D.pls KW = true := rfl
theorem kwin (s : Str) : notInD (.str s) (.lst KW) = some (.bl (!inB (.str s) KW)) := by
  show (if inOk (.str s) KW = true then some (D.bl (!inB (.str s) KW)) else none) = _
  rw [if_pos (by rfl)]
theorem kwin2 (s : Str) : notInD (.str s) (.kup (L_KEYWORDS.map .str)) = some (.bl (!inB (.str s) KW)) := by
  show (if inOk (.str s) KW = true then some (D.bl (!inB (.str s) KW)) else none) = _
  rw [if_pos (by rfl)]
theorem ld_split : ∀ c ∈ LD.cps.toList, decide (c ∈ ("abcdefghijklmnopqrstuvwxyz" : Str).cps.toList) = !decide (c ∈ ("0123456789" : Str).cps.toList) := by decide +kernel
theorem wordB_cons {s : Str} (h : wordB s = true) : ∃ c r, s.cps.toList = c :: r ∧ c ∈ LD.cps.toList := by
  unfold wordB at h
  simp only [Bool.and_eq_true, decide_eq_true_eq, List.all_eq_true] at h
  obtain ⟨h1, _, h2⟩ := h
  cases e : s.cps.toList with
  | nil =>
    have : s.length = 0 := by show s.cps.size = 0; rw [← Array.length_toList, e]; rfl
    omega
  | cons c r => exact ⟨c, r, rfl, h2 c (by rw [e]; exact List.mem_cons_self)⟩
theorem names_eq {s : Str} (w : Wd) (h : s.length ≤ 16777216) : ∃ b, F_is_name [.str s] w = .ok (.bl b) w ∧ F__law_is_name [.str s] w = .ok (.bl b) w := by
  cases hw : wordB s with
  | false =>
    refine ⟨false, ?_, ?_⟩
    · unfold F_is_name g_is_name
      simp only [runD, startE, SR.res, sSeq, SR.seq, sIf, Res.en, sRet, sSet, sSetO, sSetF, dVar, dObs, dC, dBin, dUn, Res.bind, Res.of, dNot, dAnd, dOr, dIf, dChain, dB, ResI.toR, aNil, aCons, ResI.mapA, dCall, dTup, dLst, sNext, rel, List.mapIdx_cons, List.mapIdx_nil, List.map_cons, List.map_nil, List.cons_append, List.nil_append, List.append_nil, List.length_cons, List.length_nil, List.replicate_succ, List.replicate_zero, List.getElem?_cons_zero, List.getElem?_cons_succ, all_, these, List.set_cons_zero, List.set_cons_succ, Bool.not_true, Bool.not_false, Bool.and_false, Bool.and_true, Bool.false_and, Bool.true_and, Nat.reduceAdd, Nat.reduceSub, dComp, iSigns, Res.toI, signsD, iSeq, itemsD, dM, leD, gtD, ltD, isiD, List.contains_nil, Int.reduceLE, Int.reduceLT, decide_true, decide_false, Option.map_some, if_true, if_false, Nat.zero_le, sizeLine_eq, Nat.reduceLeDiff, isword _ h, hw]
    · unfold F__law_is_name g__law_is_name
      simp only [runD, startE, SR.res, sSeq, SR.seq, sIf, Res.en, sRet, sSet, sSetO, sSetF, dVar, dObs, dC, dBin, dUn, Res.bind, Res.of, dNot, dAnd, dOr, dIf, dChain, dB, ResI.toR, aNil, aCons, ResI.mapA, dCall, dTup, dLst, sNext, rel, List.mapIdx_cons, List.mapIdx_nil, List.map_cons, List.map_nil, List.cons_append, List.nil_append, List.append_nil, List.length_cons, List.length_nil, List.replicate_succ, List.replicate_zero, List.getElem?_cons_zero, List.getElem?_cons_succ, all_, these, List.set_cons_zero, List.set_cons_succ, Bool.not_true, Bool.not_false, Bool.and_false, Bool.and_true, Bool.false_and, Bool.true_and, Nat.reduceAdd, Nat.reduceSub, dComp, iSigns, Res.toI, signsD, iSeq, itemsD, dM, leD, gtD, ltD, isiD, List.contains_nil, Int.reduceLE, Int.reduceLT, decide_true, decide_false, Option.map_some, if_true, if_false, Nat.zero_le, sizeLine_eq, Nat.reduceLeDiff, lawword _ h, hw]
  | true =>
    obtain ⟨c, r, e, hc⟩ := wordB_cons hw
    by_cases h2 : (s.length : Int) ≤ 12
    · refine ⟨decide (c ∈ ("abcdefghijklmnopqrstuvwxyz" : Str).cps.toList) && !inB (.str s) KW, ?_, ?_⟩
      · unfold F_is_name g_is_name
        simp only [runD, startE, SR.res, sSeq, SR.seq, sIf, Res.en, sRet, sSet, sSetO, sSetF, dVar, dObs, dC, dBin, dUn, Res.bind, Res.of, dNot, dAnd, dOr, dIf, dChain, dB, ResI.toR, aNil, aCons, ResI.mapA, dCall, dTup, dLst, sNext, rel, List.mapIdx_cons, List.mapIdx_nil, List.map_cons, List.map_nil, List.cons_append, List.nil_append, List.append_nil, List.length_cons, List.length_nil, List.replicate_succ, List.replicate_zero, List.getElem?_cons_zero, List.getElem?_cons_succ, all_, these, List.set_cons_zero, List.set_cons_succ, Bool.not_true, Bool.not_false, Bool.and_false, Bool.and_true, Bool.false_and, Bool.true_and, Nat.reduceAdd, Nat.reduceSub, dComp, iSigns, Res.toI, signsD, iSeq, itemsD, dM, leD, gtD, ltD, isiD, List.contains_nil, Int.reduceLE, Int.reduceLT, decide_true, decide_false, Option.map_some, if_true, if_false, Nat.zero_le, sizeLine_eq, Nat.reduceLeDiff, isword _ h, hw, len_str h, head_at h e, inD, strIn_one, kwin2, show ¬ (12 : Int) < s.length by omega]
        cases decide (c ∈ ("abcdefghijklmnopqrstuvwxyz" : Str).cps.toList) <;> rfl
      · unfold F__law_is_name g__law_is_name
        simp only [runD, startE, SR.res, sSeq, SR.seq, sIf, Res.en, sRet, sSet, sSetO, sSetF, dVar, dObs, dC, dBin, dUn, Res.bind, Res.of, dNot, dAnd, dOr, dIf, dChain, dB, ResI.toR, aNil, aCons, ResI.mapA, dCall, dTup, dLst, sNext, rel, List.mapIdx_cons, List.mapIdx_nil, List.map_cons, List.map_nil, List.cons_append, List.nil_append, List.append_nil, List.length_cons, List.length_nil, List.replicate_succ, List.replicate_zero, List.getElem?_cons_zero, List.getElem?_cons_succ, all_, these, List.set_cons_zero, List.set_cons_succ, Bool.not_true, Bool.not_false, Bool.and_false, Bool.and_true, Bool.false_and, Bool.true_and, Nat.reduceAdd, Nat.reduceSub, dComp, iSigns, Res.toI, signsD, iSeq, itemsD, dM, leD, gtD, ltD, isiD, List.contains_nil, Int.reduceLE, Int.reduceLT, decide_true, decide_false, Option.map_some, if_true, if_false, Nat.zero_le, sizeLine_eq, Nat.reduceLeDiff, lawword _ h, hw, len_str h, head_at h e, h2, notInD, strIn_one, kws]
        rw [ld_split c hc]
        cases decide (c ∈ ("0123456789" : Str).cps.toList) <;> rfl
    · refine ⟨false, ?_, ?_⟩
      · unfold F_is_name g_is_name
        simp only [runD, startE, SR.res, sSeq, SR.seq, sIf, Res.en, sRet, sSet, sSetO, sSetF, dVar, dObs, dC, dBin, dUn, Res.bind, Res.of, dNot, dAnd, dOr, dIf, dChain, dB, ResI.toR, aNil, aCons, ResI.mapA, dCall, dTup, dLst, sNext, rel, List.mapIdx_cons, List.mapIdx_nil, List.map_cons, List.map_nil, List.cons_append, List.nil_append, List.append_nil, List.length_cons, List.length_nil, List.replicate_succ, List.replicate_zero, List.getElem?_cons_zero, List.getElem?_cons_succ, all_, these, List.set_cons_zero, List.set_cons_succ, Bool.not_true, Bool.not_false, Bool.and_false, Bool.and_true, Bool.false_and, Bool.true_and, Nat.reduceAdd, Nat.reduceSub, dComp, iSigns, Res.toI, signsD, iSeq, itemsD, dM, leD, gtD, ltD, isiD, List.contains_nil, Int.reduceLE, Int.reduceLT, decide_true, decide_false, Option.map_some, if_true, if_false, Nat.zero_le, sizeLine_eq, Nat.reduceLeDiff, isword _ h, hw, len_str h, show (12 : Int) < s.length by omega]
      · unfold F__law_is_name g__law_is_name
        simp only [runD, startE, SR.res, sSeq, SR.seq, sIf, Res.en, sRet, sSet, sSetO, sSetF, dVar, dObs, dC, dBin, dUn, Res.bind, Res.of, dNot, dAnd, dOr, dIf, dChain, dB, ResI.toR, aNil, aCons, ResI.mapA, dCall, dTup, dLst, sNext, rel, List.mapIdx_cons, List.mapIdx_nil, List.map_cons, List.map_nil, List.cons_append, List.nil_append, List.append_nil, List.length_cons, List.length_nil, List.replicate_succ, List.replicate_zero, List.getElem?_cons_zero, List.getElem?_cons_succ, all_, these, List.set_cons_zero, List.set_cons_succ, Bool.not_true, Bool.not_false, Bool.and_false, Bool.and_true, Bool.false_and, Bool.true_and, Nat.reduceAdd, Nat.reduceSub, dComp, iSigns, Res.toI, signsD, iSeq, itemsD, dM, leD, gtD, ltD, isiD, List.contains_nil, Int.reduceLE, Int.reduceLT, decide_true, decide_false, Option.map_some, if_true, if_false, Nat.zero_le, sizeLine_eq, Nat.reduceLeDiff, lawword _ h, hw, len_str h, h2]
theorem names_no {d : D} (w : Wd) (h : d.ty?.isSome = true) (n : isS d = false) : F_is_name [d] w = .ok (.bl false) w := by
  unfold F_is_name g_is_name
  simp only [runD, startE, SR.res, sSeq, SR.seq, sIf, Res.en, sRet, sSet, sSetO, sSetF, dVar, dObs, dC, dBin, dUn, Res.bind, Res.of, dNot, dAnd, dOr, dIf, dChain, dB, ResI.toR, aNil, aCons, ResI.mapA, dCall, dTup, dLst, sNext, rel, List.mapIdx_cons, List.mapIdx_nil, List.map_cons, List.map_nil, List.cons_append, List.nil_append, List.append_nil, List.length_cons, List.length_nil, List.replicate_succ, List.replicate_zero, List.getElem?_cons_zero, List.getElem?_cons_succ, all_, these, List.set_cons_zero, List.set_cons_succ, Bool.not_true, Bool.not_false, Bool.and_false, Bool.and_true, Bool.false_and, Bool.true_and, Nat.reduceAdd, Nat.reduceSub, dComp, iSigns, Res.toI, signsD, iSeq, itemsD, dM, leD, gtD, ltD, isiD, List.contains_nil, Int.reduceLE, Int.reduceLT, decide_true, decide_false, Option.map_some, if_true, if_false, Nat.zero_le, sizeLine_eq, Nat.reduceLeDiff, isword_no _ h n]
theorem nums_eq {s : Str} (w : Wd) (h : s.length ≤ 16777216) : ∃ b, F_is_numeral [.str s] w = .ok (.bl b) w ∧ F__law_is_numeral [.str s] w = .ok (.bl b) w := by
  by_cases h1 : (1 : Int) ≤ s.length
  · by_cases h2 : (s.length : Int) ≤ 40
    · cases hd : (s.cps.toList.all fun c => decide (c ∈ ("0123456789" : Str).cps.toList)) with
      | false =>
        refine ⟨false, ?_, ?_⟩
        · unfold F_is_numeral g_is_numeral
          simp only [runD, startE, SR.res, sSeq, SR.seq, sIf, Res.en, sRet, sSet, sSetO, sSetF, dVar, dObs, dC, dBin, dUn, Res.bind, Res.of, dNot, dAnd, dOr, dIf, dChain, dB, ResI.toR, aNil, aCons, ResI.mapA, dCall, dTup, dLst, sNext, rel, List.mapIdx_cons, List.mapIdx_nil, List.map_cons, List.map_nil, List.cons_append, List.nil_append, List.append_nil, List.length_cons, List.length_nil, List.replicate_succ, List.replicate_zero, List.getElem?_cons_zero, List.getElem?_cons_succ, all_, these, List.set_cons_zero, List.set_cons_succ, Bool.not_true, Bool.not_false, Bool.and_false, Bool.and_true, Bool.false_and, Bool.true_and, Nat.reduceAdd, Nat.reduceSub, dComp, iSigns, Res.toI, signsD, iSeq, itemsD, dM, leD, gtD, ltD, isiD, List.contains_nil, Int.reduceLE, Int.reduceLT, decide_true, decide_false, Option.map_some, if_true, if_false, Nat.zero_le, sizeLine_eq, Nat.reduceLeDiff, isi_str (d := .str s) rfl, isS, len_str h, h1, h2, made_of _ h, hd]
        · unfold F__law_is_numeral g__law_is_numeral
          simp only [runD, startE, SR.res, sSeq, SR.seq, sIf, Res.en, sRet, sSet, sSetO, sSetF, dVar, dObs, dC, dBin, dUn, Res.bind, Res.of, dNot, dAnd, dOr, dIf, dChain, dB, ResI.toR, aNil, aCons, ResI.mapA, dCall, dTup, dLst, sNext, rel, List.mapIdx_cons, List.mapIdx_nil, List.map_cons, List.map_nil, List.cons_append, List.nil_append, List.append_nil, List.length_cons, List.length_nil, List.replicate_succ, List.replicate_zero, List.getElem?_cons_zero, List.getElem?_cons_succ, all_, these, List.set_cons_zero, List.set_cons_succ, Bool.not_true, Bool.not_false, Bool.and_false, Bool.and_true, Bool.false_and, Bool.true_and, Nat.reduceAdd, Nat.reduceSub, dComp, iSigns, Res.toI, signsD, iSeq, itemsD, dM, leD, gtD, ltD, isiD, List.contains_nil, Int.reduceLE, Int.reduceLT, decide_true, decide_false, Option.map_some, if_true, if_false, Nat.zero_le, sizeLine_eq, Nat.reduceLeDiff, len_str h, h1, h2, is_of _ h, hd]
      | true =>
        obtain ⟨c, r, e⟩ : ∃ c r, s.cps.toList = c :: r := by
          cases e : s.cps.toList with
          | nil =>
            have : s.length = 0 := by show s.cps.size = 0; rw [← Array.length_toList, e]; rfl
            omega
          | cons c r => exact ⟨c, r, rfl⟩
        refine ⟨decide (s = "0") || !decide ((⟨#[c]⟩ : Str) = "0"), ?_, ?_⟩
        · unfold F_is_numeral g_is_numeral
          simp only [runD, startE, SR.res, sSeq, SR.seq, sIf, Res.en, sRet, sSet, sSetO, sSetF, dVar, dObs, dC, dBin, dUn, Res.bind, Res.of, dNot, dAnd, dOr, dIf, dChain, dB, ResI.toR, aNil, aCons, ResI.mapA, dCall, dTup, dLst, sNext, rel, List.mapIdx_cons, List.mapIdx_nil, List.map_cons, List.map_nil, List.cons_append, List.nil_append, List.append_nil, List.length_cons, List.length_nil, List.replicate_succ, List.replicate_zero, List.getElem?_cons_zero, List.getElem?_cons_succ, all_, these, List.set_cons_zero, List.set_cons_succ, Bool.not_true, Bool.not_false, Bool.and_false, Bool.and_true, Bool.false_and, Bool.true_and, Nat.reduceAdd, Nat.reduceSub, dComp, iSigns, Res.toI, signsD, iSeq, itemsD, dM, leD, gtD, ltD, isiD, List.contains_nil, Int.reduceLE, Int.reduceLT, decide_true, decide_false, Option.map_some, if_true, if_false, Nat.zero_le, sizeLine_eq, Nat.reduceLeDiff, isi_str (d := .str s) rfl, isS, len_str h, h1, h2, made_of _ h, hd, eqD_str, head_at h e, neD_str]
          cases decide (s = "0") <;> rfl
        · unfold F__law_is_numeral g__law_is_numeral
          simp only [runD, startE, SR.res, sSeq, SR.seq, sIf, Res.en, sRet, sSet, sSetO, sSetF, dVar, dObs, dC, dBin, dUn, Res.bind, Res.of, dNot, dAnd, dOr, dIf, dChain, dB, ResI.toR, aNil, aCons, ResI.mapA, dCall, dTup, dLst, sNext, rel, List.mapIdx_cons, List.mapIdx_nil, List.map_cons, List.map_nil, List.cons_append, List.nil_append, List.append_nil, List.length_cons, List.length_nil, List.replicate_succ, List.replicate_zero, List.getElem?_cons_zero, List.getElem?_cons_succ, all_, these, List.set_cons_zero, List.set_cons_succ, Bool.not_true, Bool.not_false, Bool.and_false, Bool.and_true, Bool.false_and, Bool.true_and, Nat.reduceAdd, Nat.reduceSub, dComp, iSigns, Res.toI, signsD, iSeq, itemsD, dM, leD, gtD, ltD, isiD, List.contains_nil, Int.reduceLE, Int.reduceLT, decide_true, decide_false, Option.map_some, if_true, if_false, Nat.zero_le, sizeLine_eq, Nat.reduceLeDiff, len_str h, h1, h2, is_of _ h, hd, eqD_str, head_at h e, neD_str]
          cases decide (s = "0") <;> rfl
    · refine ⟨false, ?_, ?_⟩
      · unfold F_is_numeral g_is_numeral
        simp only [runD, startE, SR.res, sSeq, SR.seq, sIf, Res.en, sRet, sSet, sSetO, sSetF, dVar, dObs, dC, dBin, dUn, Res.bind, Res.of, dNot, dAnd, dOr, dIf, dChain, dB, ResI.toR, aNil, aCons, ResI.mapA, dCall, dTup, dLst, sNext, rel, List.mapIdx_cons, List.mapIdx_nil, List.map_cons, List.map_nil, List.cons_append, List.nil_append, List.append_nil, List.length_cons, List.length_nil, List.replicate_succ, List.replicate_zero, List.getElem?_cons_zero, List.getElem?_cons_succ, all_, these, List.set_cons_zero, List.set_cons_succ, Bool.not_true, Bool.not_false, Bool.and_false, Bool.and_true, Bool.false_and, Bool.true_and, Nat.reduceAdd, Nat.reduceSub, dComp, iSigns, Res.toI, signsD, iSeq, itemsD, dM, leD, gtD, ltD, isiD, List.contains_nil, Int.reduceLE, Int.reduceLT, decide_true, decide_false, Option.map_some, if_true, if_false, Nat.zero_le, sizeLine_eq, Nat.reduceLeDiff, isi_str (d := .str s) rfl, isS, len_str h, h1, h2]
      · unfold F__law_is_numeral g__law_is_numeral
        simp only [runD, startE, SR.res, sSeq, SR.seq, sIf, Res.en, sRet, sSet, sSetO, sSetF, dVar, dObs, dC, dBin, dUn, Res.bind, Res.of, dNot, dAnd, dOr, dIf, dChain, dB, ResI.toR, aNil, aCons, ResI.mapA, dCall, dTup, dLst, sNext, rel, List.mapIdx_cons, List.mapIdx_nil, List.map_cons, List.map_nil, List.cons_append, List.nil_append, List.append_nil, List.length_cons, List.length_nil, List.replicate_succ, List.replicate_zero, List.getElem?_cons_zero, List.getElem?_cons_succ, all_, these, List.set_cons_zero, List.set_cons_succ, Bool.not_true, Bool.not_false, Bool.and_false, Bool.and_true, Bool.false_and, Bool.true_and, Nat.reduceAdd, Nat.reduceSub, dComp, iSigns, Res.toI, signsD, iSeq, itemsD, dM, leD, gtD, ltD, isiD, List.contains_nil, Int.reduceLE, Int.reduceLT, decide_true, decide_false, Option.map_some, if_true, if_false, Nat.zero_le, sizeLine_eq, Nat.reduceLeDiff, len_str h, h1, h2]
  · refine ⟨false, ?_, ?_⟩
    · unfold F_is_numeral g_is_numeral
      simp only [runD, startE, SR.res, sSeq, SR.seq, sIf, Res.en, sRet, sSet, sSetO, sSetF, dVar, dObs, dC, dBin, dUn, Res.bind, Res.of, dNot, dAnd, dOr, dIf, dChain, dB, ResI.toR, aNil, aCons, ResI.mapA, dCall, dTup, dLst, sNext, rel, List.mapIdx_cons, List.mapIdx_nil, List.map_cons, List.map_nil, List.cons_append, List.nil_append, List.append_nil, List.length_cons, List.length_nil, List.replicate_succ, List.replicate_zero, List.getElem?_cons_zero, List.getElem?_cons_succ, all_, these, List.set_cons_zero, List.set_cons_succ, Bool.not_true, Bool.not_false, Bool.and_false, Bool.and_true, Bool.false_and, Bool.true_and, Nat.reduceAdd, Nat.reduceSub, dComp, iSigns, Res.toI, signsD, iSeq, itemsD, dM, leD, gtD, ltD, isiD, List.contains_nil, Int.reduceLE, Int.reduceLT, decide_true, decide_false, Option.map_some, if_true, if_false, Nat.zero_le, sizeLine_eq, Nat.reduceLeDiff, isi_str (d := .str s) rfl, isS, len_str h, h1]
    · unfold F__law_is_numeral g__law_is_numeral
      simp only [runD, startE, SR.res, sSeq, SR.seq, sIf, Res.en, sRet, sSet, sSetO, sSetF, dVar, dObs, dC, dBin, dUn, Res.bind, Res.of, dNot, dAnd, dOr, dIf, dChain, dB, ResI.toR, aNil, aCons, ResI.mapA, dCall, dTup, dLst, sNext, rel, List.mapIdx_cons, List.mapIdx_nil, List.map_cons, List.map_nil, List.cons_append, List.nil_append, List.append_nil, List.length_cons, List.length_nil, List.replicate_succ, List.replicate_zero, List.getElem?_cons_zero, List.getElem?_cons_succ, all_, these, List.set_cons_zero, List.set_cons_succ, Bool.not_true, Bool.not_false, Bool.and_false, Bool.and_true, Bool.false_and, Bool.true_and, Nat.reduceAdd, Nat.reduceSub, dComp, iSigns, Res.toI, signsD, iSeq, itemsD, dM, leD, gtD, ltD, isiD, List.contains_nil, Int.reduceLE, Int.reduceLT, decide_true, decide_false, Option.map_some, if_true, if_false, Nat.zero_le, sizeLine_eq, Nat.reduceLeDiff, len_str h, h1]
theorem nums_no {d : D} (w : Wd) (h : d.ty?.isSome = true) (n : isS d = false) : F_is_numeral [d] w = .ok (.bl false) w := by
  unfold F_is_numeral g_is_numeral
  simp only [runD, startE, SR.res, sSeq, SR.seq, sIf, Res.en, sRet, sSet, sSetO, sSetF, dVar, dObs, dC, dBin, dUn, Res.bind, Res.of, dNot, dAnd, dOr, dIf, dChain, dB, ResI.toR, aNil, aCons, ResI.mapA, dCall, dTup, dLst, sNext, rel, List.mapIdx_cons, List.mapIdx_nil, List.map_cons, List.map_nil, List.cons_append, List.nil_append, List.append_nil, List.length_cons, List.length_nil, List.replicate_succ, List.replicate_zero, List.getElem?_cons_zero, List.getElem?_cons_succ, all_, these, List.set_cons_zero, List.set_cons_succ, Bool.not_true, Bool.not_false, Bool.and_false, Bool.and_true, Bool.false_and, Bool.true_and, Nat.reduceAdd, Nat.reduceSub, dComp, iSigns, Res.toI, signsD, iSeq, itemsD, dM, leD, gtD, ltD, isiD, List.contains_nil, Int.reduceLE, Int.reduceLT, decide_true, decide_false, Option.map_some, if_true, if_false, Nat.zero_le, sizeLine_eq, Nat.reduceLeDiff, isi_str h, n]
theorem answers {s : Str} (w : Wd) (h : s.length ≤ 16777216) : ∃ a b c : Bool, F__law_answers [.str s] w = .ok (.lst [.bl a, .bl b, .bl c]) w ∧ F__law_look [.str s] w = .ok (.lst [.bl a, .bl b, .bl c]) w := by
  obtain ⟨a, a1, a2⟩ := names_eq w h
  obtain ⟨c, c1, c2⟩ := nums_eq w h
  by_cases e : s = ""
  · subst e
    have e1 : a = false := by
      have q : F_is_name [.str ""] w = .ok (.bl false) w := by
        unfold F_is_name g_is_name
        simp only [runD, startE, SR.res, sSeq, SR.seq, sIf, Res.en, sRet, sSet, sSetO, sSetF, dVar, dObs, dC, dBin, dUn, Res.bind, Res.of, dNot, dAnd, dOr, dIf, dChain, dB, ResI.toR, aNil, aCons, ResI.mapA, dCall, dTup, dLst, sNext, rel, List.mapIdx_cons, List.mapIdx_nil, List.map_cons, List.map_nil, List.cons_append, List.nil_append, List.append_nil, List.length_cons, List.length_nil, List.replicate_succ, List.replicate_zero, List.getElem?_cons_zero, List.getElem?_cons_succ, all_, these, List.set_cons_zero, List.set_cons_succ, Bool.not_true, Bool.not_false, Bool.and_false, Bool.and_true, Bool.false_and, Bool.true_and, Nat.reduceAdd, Nat.reduceSub, dComp, iSigns, Res.toI, signsD, iSeq, itemsD, dM, leD, gtD, ltD, isiD, List.contains_nil, Int.reduceLE, Int.reduceLT, decide_true, decide_false, Option.map_some, if_true, if_false, Nat.zero_le, sizeLine_eq, Nat.reduceLeDiff, isword _ h, show wordB "" = false by decide +kernel]
      rw [q] at a1; cases a1; rfl
    have e2 : c = false := by
      have q : F_is_numeral [.str ""] w = .ok (.bl false) w := by
        unfold F_is_numeral g_is_numeral
        simp only [runD, startE, SR.res, sSeq, SR.seq, sIf, Res.en, sRet, sSet, sSetO, sSetF, dVar, dObs, dC, dBin, dUn, Res.bind, Res.of, dNot, dAnd, dOr, dIf, dChain, dB, ResI.toR, aNil, aCons, ResI.mapA, dCall, dTup, dLst, sNext, rel, List.mapIdx_cons, List.mapIdx_nil, List.map_cons, List.map_nil, List.cons_append, List.nil_append, List.append_nil, List.length_cons, List.length_nil, List.replicate_succ, List.replicate_zero, List.getElem?_cons_zero, List.getElem?_cons_succ, all_, these, List.set_cons_zero, List.set_cons_succ, Bool.not_true, Bool.not_false, Bool.and_false, Bool.and_true, Bool.false_and, Bool.true_and, Nat.reduceAdd, Nat.reduceSub, dComp, iSigns, Res.toI, signsD, iSeq, itemsD, dM, leD, gtD, ltD, isiD, List.contains_nil, Int.reduceLE, Int.reduceLT, decide_true, decide_false, Option.map_some, if_true, if_false, Nat.zero_le, sizeLine_eq, Nat.reduceLeDiff, isi_str (d := .str "") rfl, isS, len_str h, show ¬ (1 : Int) ≤ ("" : Str).length by decide +kernel]
      rw [q] at c1; cases c1; rfl
    subst e1 e2
    refine ⟨false, false, false, ?_, ?_⟩
    · unfold F__law_answers g__law_answers
      simp only [runD, startE, SR.res, sSeq, SR.seq, sIf, Res.en, sRet, sSet, sSetO, sSetF, dVar, dObs, dC, dBin, dUn, Res.bind, Res.of, dNot, dAnd, dOr, dIf, dChain, dB, ResI.toR, aNil, aCons, ResI.mapA, dCall, dTup, dLst, sNext, rel, List.mapIdx_cons, List.mapIdx_nil, List.map_cons, List.map_nil, List.cons_append, List.nil_append, List.append_nil, List.length_cons, List.length_nil, List.replicate_succ, List.replicate_zero, List.getElem?_cons_zero, List.getElem?_cons_succ, all_, these, List.set_cons_zero, List.set_cons_succ, Bool.not_true, Bool.not_false, Bool.and_false, Bool.and_true, Bool.false_and, Bool.true_and, Nat.reduceAdd, Nat.reduceSub, dComp, iSigns, Res.toI, signsD, iSeq, itemsD, dM, leD, gtD, ltD, isiD, List.contains_nil, Int.reduceLE, Int.reduceLT, decide_true, decide_false, Option.map_some, if_true, if_false, Nat.zero_le, sizeLine_eq, Nat.reduceLeDiff, a1, isword _ h, show wordB "" = false by decide +kernel, c1]
    · unfold F__law_look g__law_look
      simp only [runD, startE, SR.res, sSeq, SR.seq, sIf, Res.en, sRet, sSet, sSetO, sSetF, dVar, dObs, dC, dBin, dUn, Res.bind, Res.of, dNot, dAnd, dOr, dIf, dChain, dB, ResI.toR, aNil, aCons, ResI.mapA, dCall, dTup, dLst, sNext, rel, List.mapIdx_cons, List.mapIdx_nil, List.map_cons, List.map_nil, List.cons_append, List.nil_append, List.append_nil, List.length_cons, List.length_nil, List.replicate_succ, List.replicate_zero, List.getElem?_cons_zero, List.getElem?_cons_succ, all_, these, List.set_cons_zero, List.set_cons_succ, Bool.not_true, Bool.not_false, Bool.and_false, Bool.and_true, Bool.false_and, Bool.true_and, Nat.reduceAdd, Nat.reduceSub, dComp, iSigns, Res.toI, signsD, iSeq, itemsD, dM, leD, gtD, ltD, isiD, List.contains_nil, Int.reduceLE, Int.reduceLT, decide_true, decide_false, Option.map_some, if_true, if_false, Nat.zero_le, sizeLine_eq, Nat.reduceLeDiff, eqD_str]
  · refine ⟨a, wordB s, c, ?_, ?_⟩
    · unfold F__law_answers g__law_answers
      simp only [runD, startE, SR.res, sSeq, SR.seq, sIf, Res.en, sRet, sSet, sSetO, sSetF, dVar, dObs, dC, dBin, dUn, Res.bind, Res.of, dNot, dAnd, dOr, dIf, dChain, dB, ResI.toR, aNil, aCons, ResI.mapA, dCall, dTup, dLst, sNext, rel, List.mapIdx_cons, List.mapIdx_nil, List.map_cons, List.map_nil, List.cons_append, List.nil_append, List.append_nil, List.length_cons, List.length_nil, List.replicate_succ, List.replicate_zero, List.getElem?_cons_zero, List.getElem?_cons_succ, all_, these, List.set_cons_zero, List.set_cons_succ, Bool.not_true, Bool.not_false, Bool.and_false, Bool.and_true, Bool.false_and, Bool.true_and, Nat.reduceAdd, Nat.reduceSub, dComp, iSigns, Res.toI, signsD, iSeq, itemsD, dM, leD, gtD, ltD, isiD, List.contains_nil, Int.reduceLE, Int.reduceLT, decide_true, decide_false, Option.map_some, if_true, if_false, Nat.zero_le, sizeLine_eq, Nat.reduceLeDiff, a1, isword _ h, c1]
    · unfold F__law_look g__law_look
      simp only [runD, startE, SR.res, sSeq, SR.seq, sIf, Res.en, sRet, sSet, sSetO, sSetF, dVar, dObs, dC, dBin, dUn, Res.bind, Res.of, dNot, dAnd, dOr, dIf, dChain, dB, ResI.toR, aNil, aCons, ResI.mapA, dCall, dTup, dLst, sNext, rel, List.mapIdx_cons, List.mapIdx_nil, List.map_cons, List.map_nil, List.cons_append, List.nil_append, List.append_nil, List.length_cons, List.length_nil, List.replicate_succ, List.replicate_zero, List.getElem?_cons_zero, List.getElem?_cons_succ, all_, these, List.set_cons_zero, List.set_cons_succ, Bool.not_true, Bool.not_false, Bool.and_false, Bool.and_true, Bool.false_and, Bool.true_and, Nat.reduceAdd, Nat.reduceSub, dComp, iSigns, Res.toI, signsD, iSeq, itemsD, dM, leD, gtD, ltD, isiD, List.contains_nil, Int.reduceLE, Int.reduceLT, decide_true, decide_false, Option.map_some, if_true, if_false, Nat.zero_le, sizeLine_eq, Nat.reduceLeDiff, eqD_str, e, a2, lawword _ h, c2]
theorem answers_no {d : D} (w : Wd) (h : d.ty?.isSome = true) (n : isS d = false) : F__law_answers [d] w = .ok (.lst [.bl false, .bl false, .bl false]) w := by
  unfold F__law_answers g__law_answers
  simp only [runD, startE, SR.res, sSeq, SR.seq, sIf, Res.en, sRet, sSet, sSetO, sSetF, dVar, dObs, dC, dBin, dUn, Res.bind, Res.of, dNot, dAnd, dOr, dIf, dChain, dB, ResI.toR, aNil, aCons, ResI.mapA, dCall, dTup, dLst, sNext, rel, List.mapIdx_cons, List.mapIdx_nil, List.map_cons, List.map_nil, List.cons_append, List.nil_append, List.append_nil, List.length_cons, List.length_nil, List.replicate_succ, List.replicate_zero, List.getElem?_cons_zero, List.getElem?_cons_succ, all_, these, List.set_cons_zero, List.set_cons_succ, Bool.not_true, Bool.not_false, Bool.and_false, Bool.and_true, Bool.false_and, Bool.true_and, Nat.reduceAdd, Nat.reduceSub, dComp, iSigns, Res.toI, signsD, iSeq, itemsD, dM, leD, gtD, ltD, isiD, List.contains_nil, Int.reduceLE, Int.reduceLT, decide_true, decide_false, Option.map_some, if_true, if_false, Nat.zero_le, sizeLine_eq, Nat.reduceLeDiff, names_no _ h n, isword_no _ h n, nums_no _ h n]
end L_k13

set_option Elab.async false
set_option linter.all false
set_option maxRecDepth 100000
set_option maxHeartbeats 1000000
namespace L_k13
open PySem PySem.SeqAt PySem.Spec PyProof.Rows L2 DL
theorem drawOk : DrawOk F__law_draw := fun m w h hz => draw_ok w h hz
theorem pickl {l : List D} (w : Wd) (h : l ≠ []) (hz : l.length < 2 ^ 60) : ∃ x w', F__law_pick [.pen, .lst l] w = .ok x w' ∧ x ∈ l := pick_l drawOk w h hz
theorem picks {s : Str} (w : Wd) (h : s.cps.toList ≠ []) (hz : s.length ≤ 16777216) : ∃ c w', F__law_pick [.pen, .str s] w = .ok (.str ⟨#[c]⟩) w' ∧ c ∈ s.cps.toList := pick_s drawOk w h hz
/-! ### words that are drawn -/
def okc (c : Nat) : Prop := c ≠ 32 ∧ c ≠ 10
instance {c : Nat} : Decidable (okc c) := inferInstanceAs (Decidable (_ ∧ _))
def Gd (n : Nat) (s : Str) : Prop := s.length ≤ n ∧ ∀ c ∈ TL.tl s, okc c
theorem Gd.mono {n m : Nat} {s : Str} (h : Gd n s) (l : n ≤ m) : Gd m s := ⟨Nat.le_trans h.1 l, h.2⟩
theorem Gd.cat {n m : Nat} {s t : Str} (h : Gd n s) (k : Gd m t) : Gd (n + m) (s ++ t) := by
  refine ⟨?_, fun c hc => ?_⟩
  · rw [TL.len_tl, TL.tl_append, List.length_append, ← TL.len_tl, ← TL.len_tl]
    exact Nat.add_le_add h.1 k.1
  · rw [TL.tl_append] at hc
    exact (List.mem_append.mp hc).elim (h.2 c) (k.2 c)
theorem Gd.cut {n : Nat} {s : Str} (h : Gd n s) (lo hi : Option Int) : Gd n (cutS s lo hi) := by
  refine ⟨Nat.le_trans (L2.cutS_length s lo hi) h.1, fun c hc => h.2 c ?_⟩
  exact List.mem_of_mem_drop (List.mem_of_mem_take hc)
theorem Gd.one {c : Nat} (h : okc c) : Gd 1 ⟨#[c]⟩ := ⟨Nat.le_refl _, fun d hd => by
  have : d = c := by simpa [TL.tl] using hd
  rw [this]; exact h⟩
theorem joinL_flat : ∀ (l : List (List Nat)), TL.joinL [] l = l.flatten
  | [] => rfl
  | [p] => by simp [TL.joinL]
  | p :: q :: r => by
    have e : TL.joinL [] (p :: q :: r) = p ++ TL.joinL [] (q :: r) := by simp [TL.joinL]
    rw [e, joinL_flat (q :: r)]; simp
theorem strs_all : ∀ {ds : List D}, (∀ d ∈ ds, ∃ c, okc c ∧ d = .str ⟨#[c]⟩) → ∃ ys : List Str, ds = ys.map .str ∧ ∀ y ∈ ys, Gd 1 y ∧ y.length = 1
  | [], _ => ⟨[], rfl, by simp⟩
  | d :: ds, h => by
    obtain ⟨c, hc, rfl⟩ := h d List.mem_cons_self
    obtain ⟨ys, rfl, hy⟩ := strs_all fun x hx => h x (List.mem_cons_of_mem _ hx)
    refine ⟨⟨#[c]⟩ :: ys, rfl, fun y hy' => ?_⟩
    rcases List.mem_cons.mp hy' with rfl | hy'
    · exact ⟨Gd.one hc, rfl⟩
    · exact hy y hy'
theorem strsOf : ∀ {l : List Str}, allOf D.str? (l.map D.str) = some l
  | [] => rfl
  | b :: l => by
    rw [List.map_cons]
    unfold allOf
    rw [strsOf (l := l)]
    rfl
theorem sum_one : ∀ {ys : List Str}, (∀ y ∈ ys, y.length = 1) → (ys.map (·.length)).sum = ys.length
  | [], _ => rfl
  | y :: ys, h => by
    rw [List.map_cons, List.sum_cons, sum_one fun x hx => h x (List.mem_cons_of_mem _ hx), h y List.mem_cons_self, List.length_cons]; omega
theorem joinD_strs {a : Str} {ys : List Str} (h : (ys.map (·.length)).sum + ys.length * a.length ≤ 16777216) : joinD (.str a) (.lst (ys.map .str)) = some (.str (Txt.join a ys)) := by
  unfold joinD
  simp only [itemsD, strsOf]
  rw [if_pos]
  unfold joinOk
  exact decide_eq_true h
/-- ''.join of drawn signs -/
theorem join_signs {ds : List D} {n : Nat} (h : ∀ d ∈ ds, ∃ c, okc c ∧ d = .str ⟨#[c]⟩) (hn : ds.length ≤ n) (hz : n ≤ 1000) : ∃ s, joinD (.str "") (.lst ds) = some (.str s) ∧ Gd n s ∧ s.length = ds.length := by
  obtain ⟨ys, rfl, hy⟩ := strs_all h
  rw [List.length_map] at hn
  have e : (ys.map (·.length)).sum = ys.length := sum_one fun y h => (hy y h).2
  have ez : ("" : Str).length = 0 := rfl
  have et : TL.tl (Txt.join "" ys) = (ys.map TL.tl).flatten := by rw [TL.join_eq, TL.tl_join, ← joinL_flat]; rfl
  have el : (Txt.join "" ys).length = ys.length := by
    rw [TL.len_tl, et, List.length_flatten, List.map_map, ← e]
    congr 1
  refine ⟨Txt.join "" ys, joinD_strs (by rw [e, ez]; omega), ⟨by omega, fun c hc => ?_⟩, by rw [el, List.length_map]⟩
  rw [et] at hc
  obtain ⟨p, hp, hc⟩ := List.mem_flatten.mp hc
  obtain ⟨y, hy', rfl⟩ := List.mem_map.mp hp
  exact (hy y hy').1.2 c hc
theorem sgn : ∀ c ∈ ("abcdefghijklmnopqrstuvwxyz0123456789ABZ_.-+*()<>=,:~!#" : Str).cps.toList, okc c := by decide +kernel
theorem sign_ok (w : Wd) : ∃ c w', F__law_sign [.pen] w = .ok (.str ⟨#[c]⟩) w' ∧ okc c := by
  obtain ⟨c, w', e, hc⟩ := picks (s := "abcdefghijklmnopqrstuvwxyz0123456789ABZ_.-+*()<>=,:~!#") w (by decide +kernel) (by decide +kernel)
  refine ⟨c, w', ?_, sgn c hc⟩
  unfold F__law_sign g__law_sign
  simp only [runD, startE, SR.res, sSeq, SR.seq, sIf, Res.en, sRet, sSet, sSetO, sSetF, dVar, dObs, dC, dBin, dUn, Res.bind, Res.of, dNot, dAnd, dOr, dIf, dChain, dB, ResI.toR, aNil, aCons, ResI.mapA, dCall, dTup, dLst, sNext, rel, List.mapIdx_cons, List.mapIdx_nil, List.map_cons, List.map_nil, List.cons_append, List.nil_append, List.append_nil, List.length_cons, List.length_nil, List.replicate_succ, List.replicate_zero, List.getElem?_cons_zero, List.getElem?_cons_succ, all_, these, List.set_cons_zero, List.set_cons_succ, Bool.not_true, Bool.not_false, Bool.and_false, Bool.and_true, Bool.false_and, Bool.true_and, Nat.reduceAdd, Nat.reduceSub, dComp, iSigns, Res.toI, signsD, iSeq, itemsD, dM, leD, gtD, ltD, isiD, List.contains_nil, Int.reduceLE, Int.reduceLT, decide_true, decide_false, Option.map_some, if_true, if_false, Nat.zero_le, sizeLine_eq, Nat.reduceLeDiff, e]
theorem dig_ok (w : Wd) : ∃ c w', F__law_pick [.pen, .str "0123456789"] w = .ok (.str ⟨#[c]⟩) w' ∧ okc c := by
  obtain ⟨c, w', e, hc⟩ := picks (s := "0123456789") w (by decide +kernel) (by decide +kernel)
  exact ⟨c, w', e, (show ∀ c ∈ ("0123456789" : Str).cps.toList, okc c by decide +kernel) c hc⟩
theorem ld_ok (w : Wd) : ∃ c w', F__law_pick [.pen, .str "abcdefghijklmnopqrstuvwxyz0123456789"] w = .ok (.str ⟨#[c]⟩) w' ∧ okc c := by
  obtain ⟨c, w', e, hc⟩ := picks (s := "abcdefghijklmnopqrstuvwxyz0123456789") w (by decide +kernel) (by decide +kernel)
  exact ⟨c, w', e, (show ∀ c ∈ ("abcdefghijklmnopqrstuvwxyz0123456789" : Str).cps.toList, okc c by decide +kernel) c hc⟩
theorem pick_in {l : List D} {P : D → Prop} (w : Wd) (h : l ≠ []) (hz : l.length < 2 ^ 60) (hp : ∀ d ∈ l, P d) : ∃ x w', F__law_pick [.pen, .lst l] w = .ok x w' ∧ P x := by
  obtain ⟨x, w', e, hx⟩ := pickl w h hz
  exact ⟨x, w', e, hp x hx⟩
def isI (n : Int) (d : D) : Prop := ∃ i : Int, d = .int i ∧ 0 ≤ i ∧ i ≤ n
theorem rng {j : Int} {n : Nat} (h0 : 0 ≤ j) (h : j ≤ n) (hn : n ≤ 1000) : (-(2 : Int) ^ 62 ≤ j ∧ j < 2 ^ 62) ∧ (rangeL 0 j.toNat).length ≤ n := by
  refine ⟨⟨by omega, by omega⟩, ?_⟩
  unfold rangeL
  rw [List.length_map, List.length_range]; omega
theorem comp_rng {vs : List Nat} {fa : IM} {g : GM} {fe : EM} {r : DL.Env} {w w1 : Wd} {j : Int} {Q : D → Prop} (r1 : D → DL.Env) (hf : fa r w = .ok [.int j] w1) (h0 : 0 ≤ j) (h1 : j ≤ 1000) (hg : ∀ d, g d (wipeE vs r) = some (r1 d)) (he : ∀ d w, ∃ y w', fe (r1 d) w = .ok y w' ∧ Q y) :
    ∃ ys w2, dComp vs (iRange1 fa) g dYes fe r w = .ok (.lst ys) w2 ∧ ys.length = j.toNat ∧ ∀ y ∈ ys, Q y := by
  have hr := rng (n := 1000) h0 h1 (Nat.le_refl _)
  obtain ⟨ys, w2, e, p⟩ := lcL_draw (vs := vs) (g := g) (fe := fe) (r := r) (r1 := r1) (Q := fun _ y => Q y) (l := rangeL 0 j.toNat) (acc := []) (w := w1) (fun d _ => hg d) (fun d _ w => he d w) (by rw [List.length_nil, sizeLine_eq]; omega)
  refine ⟨ys, w2, ?_, ?_, fun y hy => ?_⟩
  · unfold dComp iRange1
    rw [hf]
    simp only
    rw [if_pos hr.1]
    simp only [ResI.toR]
    rw [e]; rfl
  · rw [← paired_len p]; unfold rangeL; rw [List.length_map, List.length_range]
  · obtain ⟨_, _, q⟩ := paired_mem p y hy
    exact q
theorem kwGd : ∀ d ∈ KW, ∃ s, d = .str s ∧ Gd 10 s := by
  intro d hd
  obtain ⟨s, hs, rfl⟩ := List.mem_map.mp hd
  exact ⟨s, rfl, (show ∀ s ∈ L_KEYWORDS, Gd 10 s by unfold Gd; decide +kernel) s hs⟩
def isStr (n : Nat) (d : D) : Prop := ∃ s, d = .str s ∧ Gd n s
theorem draws (m : Int) (w : Wd) (h : 0 < m) (h2 : m < 2 ^ 60) : ∃ d w', F__law_draw [.pen, .int m] w = .ok (.int d) w' ∧ 0 ≤ d ∧ d < m := drawOk m w h (log2_s h h2)
theorem plusD_st {a b : Str} (h : a.length + b.length ≤ 16777216) : plusD (.str a) (.str b) = some (.str (a ++ b)) := if_pos h
theorem strange (w : Wd) : ∃ s w', F__law_strange [.pen] w = .ok (.str s) w' ∧ Gd 130 s := by
  obtain ⟨way, w1, e1, a0, a1⟩ := draws 7 w (by decide) (by decide)
  by_cases k0 : way = 0
  · subst k0
    obtain ⟨_, w2, e2, s, rfl, hs⟩ := pick_in w1 (l := KW) (P := isStr 10) (by decide) (by decide) kwGd
    obtain ⟨_, w3, e3, t, rfl, ht⟩ := pick_in w2 (l := [.str "", .str "", .str "1", .str "s"]) (P := isStr 10) (by decide) (by decide) (by
      intro d hd
      simp only [List.mem_cons, List.not_mem_nil, or_false] at hd
      rcases hd with rfl | rfl | rfl | rfl <;> exact ⟨_, rfl, by unfold Gd; decide +kernel⟩)
    refine ⟨s ++ t, w3, ?_, (hs.cat ht).mono (by decide)⟩
    unfold F__law_strange g__law_strange
    simp only [runD, startE, SR.res, sSeq, SR.seq, sIf, Res.en, sRet, sSet, sSetO, sSetF, dVar, dObs, dC, dBin, dUn, Res.bind, Res.of, dNot, dAnd, dOr, dIf, dChain, dB, ResI.toR, aNil, aCons, ResI.mapA, dCall, dTup, dLst, sNext, rel, List.mapIdx_cons, List.mapIdx_nil, List.map_cons, List.map_nil, List.cons_append, List.nil_append, List.append_nil, List.length_cons, List.length_nil, List.replicate_succ, List.replicate_zero, List.getElem?_cons_zero, List.getElem?_cons_succ, all_, these, List.set_cons_zero, List.set_cons_succ, Bool.not_true, Bool.not_false, Bool.and_false, Bool.and_true, Bool.false_and, Bool.true_and, Nat.reduceAdd, Nat.reduceSub, dComp, iSigns, Res.toI, signsD, iSeq, itemsD, dM, leD, gtD, ltD, isiD, List.contains_nil, Int.reduceLE, Int.reduceLT, decide_true, decide_false, Option.map_some, if_true, if_false, Nat.zero_le, sizeLine_eq, Nat.reduceLeDiff, e1, eqD_int, kws, e2, e3, plusD_st (show s.length + t.length ≤ 16777216 by have := hs.1; have := ht.1; omega)]
  by_cases k1 : way = 1
  · subst k1
    obtain ⟨_, w2, e2, j, rfl, j0, j1⟩ := pick_in w1 (l := [.int 1, .int 2, .int 39, .int 40, .int 41]) (P := isI 41) (by decide) (by decide) (by
      intro d hd
      simp only [List.mem_cons, List.not_mem_nil, or_false] at hd
      rcases hd with rfl | rfl | rfl | rfl | rfl <;> exact ⟨_, rfl, by decide, by decide⟩)
    obtain ⟨ys, w3, e3, l3, q3⟩ := comp_rng (vs := [5]) (fa := (aCons (dCall F__law_pick (aCons (dVar 0) (aCons (dLst (aCons (dC (.int 1)) (aCons (dC (.int 2)) (aCons (dC (.int 39)) (aCons (dC (.int 40)) (aCons (dC (.int 41)) aNil)))))) aNil))) aNil)) (g := gN 5) (fe := dCall F__law_pick (aCons (dVar 0) (aCons (dC (.str "0123456789")) aNil))) (r := [some (.pen, false), some (.int 1, false), none, none, none, none]) (w := w1) (w1 := w2) (j := j) (Q := fun d => ∃ c, okc c ∧ d = .str ⟨#[c]⟩)
      (fun d => [some (.pen, false), some (.int 1, false), none, none, none, some (d, false)]) (by simp only [runD, startE, SR.res, sSeq, SR.seq, sIf, Res.en, sRet, sSet, sSetO, sSetF, dVar, dObs, dC, dBin, dUn, Res.bind, Res.of, dNot, dAnd, dOr, dIf, dChain, dB, ResI.toR, aNil, aCons, ResI.mapA, dCall, dTup, dLst, sNext, rel, List.mapIdx_cons, List.mapIdx_nil, List.map_cons, List.map_nil, List.cons_append, List.nil_append, List.append_nil, List.length_cons, List.length_nil, List.replicate_succ, List.replicate_zero, List.getElem?_cons_zero, List.getElem?_cons_succ, all_, these, List.set_cons_zero, List.set_cons_succ, Bool.not_true, Bool.not_false, Bool.and_false, Bool.and_true, Bool.false_and, Bool.true_and, Nat.reduceAdd, Nat.reduceSub, dM, leD, gtD, ltD, isiD, List.contains_nil, Int.reduceLE, Int.reduceLT, decide_true, decide_false, Option.map_some, if_true, if_false, Nat.zero_le, sizeLine_eq, Nat.reduceLeDiff, Int.reduceEq, List.contains_cons, Nat.reduceBEq, Bool.or_false, Bool.or_true, Bool.true_or, Bool.false_or, e2]) j0 (by omega) (fun _ => rfl) (fun d w => by
        obtain ⟨c, w', e, h⟩ := dig_ok w
        exact ⟨_, w', by simp only [runD, startE, SR.res, sSeq, SR.seq, sIf, Res.en, sRet, sSet, sSetO, sSetF, dVar, dObs, dC, dBin, dUn, Res.bind, Res.of, dNot, dAnd, dOr, dIf, dChain, dB, ResI.toR, aNil, aCons, ResI.mapA, dCall, dTup, dLst, sNext, rel, List.mapIdx_cons, List.mapIdx_nil, List.map_cons, List.map_nil, List.cons_append, List.nil_append, List.append_nil, List.length_cons, List.length_nil, List.replicate_succ, List.replicate_zero, List.getElem?_cons_zero, List.getElem?_cons_succ, all_, these, List.set_cons_zero, List.set_cons_succ, Bool.not_true, Bool.not_false, Bool.and_false, Bool.and_true, Bool.false_and, Bool.true_and, Nat.reduceAdd, Nat.reduceSub, dM, leD, gtD, ltD, isiD, List.contains_nil, Int.reduceLE, Int.reduceLT, decide_true, decide_false, Option.map_some, if_true, if_false, Nat.zero_le, sizeLine_eq, Nat.reduceLeDiff, Int.reduceEq, List.contains_cons, Nat.reduceBEq, Bool.or_false, Bool.or_true, Bool.true_or, Bool.false_or, e], c, h, rfl⟩)
    obtain ⟨s, es, hs, _⟩ := join_signs (n := 60) q3 (by omega) (by decide)
    refine ⟨s, w3, ?_, hs.mono (by decide)⟩
    unfold F__law_strange g__law_strange
    simp only [runD, startE, SR.res, sSeq, SR.seq, sIf, Res.en, sRet, sSet, sSetO, sSetF, dVar, dObs, dC, dBin, dUn, Res.bind, Res.of, dNot, dAnd, dOr, dIf, dChain, dB, ResI.toR, aNil, aCons, ResI.mapA, dCall, dTup, dLst, sNext, rel, List.mapIdx_cons, List.mapIdx_nil, List.map_cons, List.map_nil, List.cons_append, List.nil_append, List.append_nil, List.length_cons, List.length_nil, List.replicate_succ, List.replicate_zero, List.getElem?_cons_zero, List.getElem?_cons_succ, all_, these, List.set_cons_zero, List.set_cons_succ, Bool.not_true, Bool.not_false, Bool.and_false, Bool.and_true, Bool.false_and, Bool.true_and, Nat.reduceAdd, Nat.reduceSub, dM, leD, gtD, ltD, isiD, List.contains_nil, Int.reduceLE, Int.reduceLT, decide_true, decide_false, Option.map_some, if_true, if_false, Nat.zero_le, sizeLine_eq, Nat.reduceLeDiff, Int.reduceEq, List.contains_cons, Nat.reduceBEq, Bool.or_false, Bool.or_true, Bool.true_or, Bool.false_or, e1, eqD_int, e3, es]
  by_cases k2 : way = 2
  · subst k2
    obtain ⟨j, w2, e2, j0, j1⟩ := draws 5 w1 (by decide) (by decide)
    obtain ⟨ys, w3, e3, l3, q3⟩ := comp_rng (vs := [5]) (fa := (aCons (dCall F__law_draw (aCons (dVar 0) (aCons (dC (.int 5)) aNil))) aNil)) (g := gN 5) (fe := dCall F__law_sign (aCons (dVar 0) aNil)) (r := [some (.pen, false), some (.int 2, false), none, none, none, none]) (w := w1) (w1 := w2) (j := j) (Q := fun d => ∃ c, okc c ∧ d = .str ⟨#[c]⟩)
      (fun d => [some (.pen, false), some (.int 2, false), none, none, none, some (d, false)]) (by simp only [runD, startE, SR.res, sSeq, SR.seq, sIf, Res.en, sRet, sSet, sSetO, sSetF, dVar, dObs, dC, dBin, dUn, Res.bind, Res.of, dNot, dAnd, dOr, dIf, dChain, dB, ResI.toR, aNil, aCons, ResI.mapA, dCall, dTup, dLst, sNext, rel, List.mapIdx_cons, List.mapIdx_nil, List.map_cons, List.map_nil, List.cons_append, List.nil_append, List.append_nil, List.length_cons, List.length_nil, List.replicate_succ, List.replicate_zero, List.getElem?_cons_zero, List.getElem?_cons_succ, all_, these, List.set_cons_zero, List.set_cons_succ, Bool.not_true, Bool.not_false, Bool.and_false, Bool.and_true, Bool.false_and, Bool.true_and, Nat.reduceAdd, Nat.reduceSub, dM, leD, gtD, ltD, isiD, List.contains_nil, Int.reduceLE, Int.reduceLT, decide_true, decide_false, Option.map_some, if_true, if_false, Nat.zero_le, sizeLine_eq, Nat.reduceLeDiff, Int.reduceEq, List.contains_cons, Nat.reduceBEq, Bool.or_false, Bool.or_true, Bool.true_or, Bool.false_or, e2]) j0 (by omega) (fun _ => rfl) (fun d w => by
        obtain ⟨c, w', e, h⟩ := sign_ok w
        exact ⟨_, w', by simp only [runD, startE, SR.res, sSeq, SR.seq, sIf, Res.en, sRet, sSet, sSetO, sSetF, dVar, dObs, dC, dBin, dUn, Res.bind, Res.of, dNot, dAnd, dOr, dIf, dChain, dB, ResI.toR, aNil, aCons, ResI.mapA, dCall, dTup, dLst, sNext, rel, List.mapIdx_cons, List.mapIdx_nil, List.map_cons, List.map_nil, List.cons_append, List.nil_append, List.append_nil, List.length_cons, List.length_nil, List.replicate_succ, List.replicate_zero, List.getElem?_cons_zero, List.getElem?_cons_succ, all_, these, List.set_cons_zero, List.set_cons_succ, Bool.not_true, Bool.not_false, Bool.and_false, Bool.and_true, Bool.false_and, Bool.true_and, Nat.reduceAdd, Nat.reduceSub, dM, leD, gtD, ltD, isiD, List.contains_nil, Int.reduceLE, Int.reduceLT, decide_true, decide_false, Option.map_some, if_true, if_false, Nat.zero_le, sizeLine_eq, Nat.reduceLeDiff, Int.reduceEq, List.contains_cons, Nat.reduceBEq, Bool.or_false, Bool.or_true, Bool.true_or, Bool.false_or, e], c, h, rfl⟩)
    obtain ⟨s, es, hs, _⟩ := join_signs (n := 60) q3 (by omega) (by decide)
    refine ⟨s, w3, ?_, hs.mono (by decide)⟩
    unfold F__law_strange g__law_strange
    simp only [runD, startE, SR.res, sSeq, SR.seq, sIf, Res.en, sRet, sSet, sSetO, sSetF, dVar, dObs, dC, dBin, dUn, Res.bind, Res.of, dNot, dAnd, dOr, dIf, dChain, dB, ResI.toR, aNil, aCons, ResI.mapA, dCall, dTup, dLst, sNext, rel, List.mapIdx_cons, List.mapIdx_nil, List.map_cons, List.map_nil, List.cons_append, List.nil_append, List.append_nil, List.length_cons, List.length_nil, List.replicate_succ, List.replicate_zero, List.getElem?_cons_zero, List.getElem?_cons_succ, all_, these, List.set_cons_zero, List.set_cons_succ, Bool.not_true, Bool.not_false, Bool.and_false, Bool.and_true, Bool.false_and, Bool.true_and, Nat.reduceAdd, Nat.reduceSub, dM, leD, gtD, ltD, isiD, List.contains_nil, Int.reduceLE, Int.reduceLT, decide_true, decide_false, Option.map_some, if_true, if_false, Nat.zero_le, sizeLine_eq, Nat.reduceLeDiff, Int.reduceEq, List.contains_cons, Nat.reduceBEq, Bool.or_false, Bool.or_true, Bool.true_or, Bool.false_or, e1, eqD_int, e3, es]
  obtain ⟨_, w2, e2, j, rfl, j0, j1⟩ := pick_in w1 (l := [.int 1, .int 2, .int 11, .int 12, .int 13, .int 19, .int 20, .int 21, .int 42]) (P := fun d => ∃ i : Int, d = .int i ∧ 1 ≤ i ∧ i ≤ 42) (by decide) (by decide) (by
    intro d hd
    simp only [List.mem_cons, List.not_mem_nil, or_false] at hd
    rcases hd with rfl | rfl | rfl | rfl | rfl | rfl | rfl | rfl | rfl <;> exact ⟨_, rfl, by decide, by decide⟩)
  obtain ⟨ys, w3, e3, l3, q3⟩ := comp_rng (vs := [5]) (fa := (aCons (dCall F__law_pick (aCons (dVar 0) (aCons (dLst (aCons (dC (.int 1)) (aCons (dC (.int 2)) (aCons (dC (.int 11)) (aCons (dC (.int 12)) (aCons (dC (.int 13)) (aCons (dC (.int 19)) (aCons (dC (.int 20)) (aCons (dC (.int 21)) (aCons (dC (.int 42)) aNil)))))))))) aNil))) aNil)) (g := gN 5) (fe := dCall F__law_pick (aCons (dVar 0) (aCons (dVar 2) aNil))) (r := [some (.pen, false), some (.int way, false), some (.str "abcdefghijklmnopqrstuvwxyz0123456789", false), none, none, none]) (w := w1) (w1 := w2) (j := j) (Q := fun d => ∃ c, okc c ∧ d = .str ⟨#[c]⟩)
    (fun d => [some (.pen, false), some (.int way, false), some (.str "abcdefghijklmnopqrstuvwxyz0123456789", false), none, none, some (d, false)]) (by simp only [runD, startE, SR.res, sSeq, SR.seq, sIf, Res.en, sRet, sSet, sSetO, sSetF, dVar, dObs, dC, dBin, dUn, Res.bind, Res.of, dNot, dAnd, dOr, dIf, dChain, dB, ResI.toR, aNil, aCons, ResI.mapA, dCall, dTup, dLst, sNext, rel, List.mapIdx_cons, List.mapIdx_nil, List.map_cons, List.map_nil, List.cons_append, List.nil_append, List.append_nil, List.length_cons, List.length_nil, List.replicate_succ, List.replicate_zero, List.getElem?_cons_zero, List.getElem?_cons_succ, all_, these, List.set_cons_zero, List.set_cons_succ, Bool.not_true, Bool.not_false, Bool.and_false, Bool.and_true, Bool.false_and, Bool.true_and, Nat.reduceAdd, Nat.reduceSub, dM, leD, gtD, ltD, isiD, List.contains_nil, Int.reduceLE, Int.reduceLT, decide_true, decide_false, Option.map_some, if_true, if_false, Nat.zero_le, sizeLine_eq, Nat.reduceLeDiff, Int.reduceEq, List.contains_cons, Nat.reduceBEq, Bool.or_false, Bool.or_true, Bool.true_or, Bool.false_or, e2]) (by omega) (by omega) (fun _ => rfl) (fun d w => by
      obtain ⟨c, w', e, h⟩ := ld_ok w
      exact ⟨_, w', by simp only [runD, startE, SR.res, sSeq, SR.seq, sIf, Res.en, sRet, sSet, sSetO, sSetF, dVar, dObs, dC, dBin, dUn, Res.bind, Res.of, dNot, dAnd, dOr, dIf, dChain, dB, ResI.toR, aNil, aCons, ResI.mapA, dCall, dTup, dLst, sNext, rel, List.mapIdx_cons, List.mapIdx_nil, List.map_cons, List.map_nil, List.cons_append, List.nil_append, List.append_nil, List.length_cons, List.length_nil, List.replicate_succ, List.replicate_zero, List.getElem?_cons_zero, List.getElem?_cons_succ, all_, these, List.set_cons_zero, List.set_cons_succ, Bool.not_true, Bool.not_false, Bool.and_false, Bool.and_true, Bool.false_and, Bool.true_and, Nat.reduceAdd, Nat.reduceSub, dM, leD, gtD, ltD, isiD, List.contains_nil, Int.reduceLE, Int.reduceLT, decide_true, decide_false, Option.map_some, if_true, if_false, Nat.zero_le, sizeLine_eq, Nat.reduceLeDiff, Int.reduceEq, List.contains_cons, Nat.reduceBEq, Bool.or_false, Bool.or_true, Bool.true_or, Bool.false_or, e], c, h, rfl⟩)
  obtain ⟨s, es, hs, hl⟩ := join_signs (n := 60) q3 (by omega) (by decide)
  by_cases k3 : way = 3
  · subst k3
    obtain ⟨a, w4, e4, a0, a1⟩ := draws (s.length : Int) w3 (by omega) (by omega)
    obtain ⟨c, w5, e5, hc⟩ := sign_ok w4
    have lz : lenD [.str s] = some (.int s.length) := if_pos (show s.length ≤ 16777216 by have := hs.1; omega)
    have bs : ∀ lo hi, slD (.str s) lo hi = some (.str (cutS s lo hi)) := fun lo hi => if_pos (show s.length ≤ 16777216 by have := hs.1; omega)
    have g1 := hs.cut none (some a)
    have g2 := hs.cut (some (a + 1)) none
    have g3 := g1.cat (Gd.one hc)
    have hl1 : (cutS s none (some a)).length + (⟨#[c]⟩ : Str).length ≤ 16777216 := by have := g1.1; show _ + 1 ≤ _; omega
    have hl2 : (cutS s none (some a) ++ ⟨#[c]⟩).length + (cutS s (some (a + 1)) none).length ≤ 16777216 := by have := g3.1; have := g2.1; omega
    refine ⟨cutS s none (some a) ++ ⟨#[c]⟩ ++ cutS s (some (a + 1)) none, w5, ?_, (g3.cat g2).mono (by decide)⟩
    unfold F__law_strange g__law_strange
    simp only [runD, startE, SR.res, sSeq, SR.seq, sIf, Res.en, sRet, sSet, sSetO, sSetF, dVar, dObs, dC, dBin, dUn, Res.bind, Res.of, dNot, dAnd, dOr, dIf, dChain, dB, ResI.toR, aNil, aCons, ResI.mapA, dCall, dTup, dLst, sNext, rel, List.mapIdx_cons, List.mapIdx_nil, List.map_cons, List.map_nil, List.cons_append, List.nil_append, List.append_nil, List.length_cons, List.length_nil, List.replicate_succ, List.replicate_zero, List.getElem?_cons_zero, List.getElem?_cons_succ, all_, these, List.set_cons_zero, List.set_cons_succ, Bool.not_true, Bool.not_false, Bool.and_false, Bool.and_true, Bool.false_and, Bool.true_and, Nat.reduceAdd, Nat.reduceSub, dM, leD, gtD, ltD, isiD, List.contains_nil, Int.reduceLE, Int.reduceLT, decide_true, decide_false, Option.map_some, if_true, if_false, Nat.zero_le, sizeLine_eq, Nat.reduceLeDiff, Int.reduceEq, List.contains_cons, Nat.reduceBEq, Bool.or_false, Bool.or_true, Bool.true_or, Bool.false_or, e1, eqD_int, List.contains_cons, e3, es, lz, e4, dSl, dIntOnly, D.opt, bs, e5, plusD_i, plusD_st hl1, plusD_st hl2]
  · refine ⟨s, w3, ?_, hs.mono (by decide)⟩
    unfold F__law_strange g__law_strange
    simp only [runD, startE, SR.res, sSeq, SR.seq, sIf, Res.en, sRet, sSet, sSetO, sSetF, dVar, dObs, dC, dBin, dUn, Res.bind, Res.of, dNot, dAnd, dOr, dIf, dChain, dB, ResI.toR, aNil, aCons, ResI.mapA, dCall, dTup, dLst, sNext, rel, List.mapIdx_cons, List.mapIdx_nil, List.map_cons, List.map_nil, List.cons_append, List.nil_append, List.append_nil, List.length_cons, List.length_nil, List.replicate_succ, List.replicate_zero, List.getElem?_cons_zero, List.getElem?_cons_succ, all_, these, List.set_cons_zero, List.set_cons_succ, Bool.not_true, Bool.not_false, Bool.and_false, Bool.and_true, Bool.false_and, Bool.true_and, Nat.reduceAdd, Nat.reduceSub, dM, leD, gtD, ltD, isiD, List.contains_nil, Int.reduceLE, Int.reduceLT, decide_true, decide_false, Option.map_some, if_true, if_false, Nat.zero_le, sizeLine_eq, Nat.reduceLeDiff, Int.reduceEq, List.contains_cons, Nat.reduceBEq, Bool.or_false, Bool.or_true, Bool.true_or, Bool.false_or, e1, eqD_int, k0, k1, k2, k3, List.contains_cons, e3, es]
end L_k13

set_option Elab.async false
set_option linter.all false
set_option maxRecDepth 100000
set_option maxHeartbeats 1000000
namespace L_k13
open PySem PySem.SeqAt PySem.Spec PyProof.Rows L2 DL
/-! ### cutting, by signs -/
theorem pre1 (k c : Nat) (r : List Nat) : TL.pre [k] (c :: r) = decide (c = k) := by
  unfold TL.pre
  show ([c] == [k]) = _
  rw [Bool.eq_iff_iff]; simp
theorem spl_app (k : Nat) (b : List Nat) : ∀ (a acc : List Nat), TL.spl [k] 0 acc (a ++ k :: b) = TL.spl [k] 0 acc a ++ TL.spl [k] 0 [] b
  | [], acc => by
    rw [List.nil_append, TL.spl_hit (by rw [pre1]; simp), TL.spl_nil]; rfl
  | c :: a, acc => by
    by_cases h : c = k
    · rw [List.cons_append, TL.spl_hit (by rw [pre1]; simpa using h), TL.spl_hit (by rw [pre1]; simpa using h)]
      show acc :: TL.spl [k] 0 [] (a ++ k :: b) = acc :: TL.spl [k] 0 [] a ++ _
      rw [spl_app k b a []]; rfl
    · rw [List.cons_append, TL.spl_miss (by rw [pre1]; simpa using h), TL.spl_miss (by rw [pre1]; simpa using h), spl_app k b a]
theorem spl_free (k : Nat) : ∀ (a acc : List Nat), k ∉ a → TL.spl [k] 0 acc a = [acc ++ a]
  | [], acc, _ => by rw [TL.spl_nil, List.append_nil]
  | c :: a, acc, h => by
    have h1 : c ≠ k := fun e => h (by rw [e]; exact List.mem_cons_self)
    rw [TL.spl_miss (by rw [pre1]; simpa using h1), spl_free k a _ fun z => h (List.mem_cons_of_mem _ z), List.append_assoc]; rfl
/-- a line's words -/
def W (l : List Nat) : List (List Nat) := (TL.spl [32] 0 [] l).filter (· ≠ [])
theorem W_nil : W [] = [] := rfl
theorem W_app (a b : List Nat) : W (a ++ 32 :: b) = W a ++ W b := by
  unfold W
  rw [spl_app, List.filter_append]
theorem W_free {a : List Nat} (h : 32 ∉ a) (hn : a ≠ []) : W a = [a] := by
  unfold W
  rw [spl_free 32 a [] h, List.nil_append]
  simp [hn]
theorem W_sp : ∀ (n : Nat) (b : List Nat), W (List.replicate n 32 ++ b) = W b
  | 0, b => rfl
  | n + 1, b => by
    have := W_app [] (List.replicate n 32 ++ b)
    rw [List.nil_append] at this
    rw [List.replicate_succ, List.cons_append, this, W_nil, List.nil_append, W_sp n b]
theorem W_end (a : List Nat) : ∀ (n : Nat), W (a ++ List.replicate n 32) = W a
  | 0 => by rw [List.replicate_zero, List.append_nil]
  | n + 1 => by
    rw [List.replicate_succ, W_app]
    have := W_sp n []
    rw [List.append_nil] at this
    rw [this, W_nil, List.append_nil]
theorem tw_imp {p : Nat → Bool} : ∀ {l : List Nat} {c : Nat}, c ∈ l.takeWhile p → p c = true
  | [], c, h => by cases h
  | a :: l, c, h => by
    rw [List.takeWhile_cons] at h
    by_cases ha : p a = true
    · rw [if_pos ha] at h
      rcases List.mem_cons.mp h with rfl | h
      · exact ha
      · exact tw_imp h
    · rw [if_neg ha] at h; cases h
/-- rstrip(' ') -/
theorem rstrip_eq (s : Str) : ∃ n, TL.tl s = TL.tl (Txt.rstripChars s " ") ++ List.replicate n 32 := by
  unfold Txt.rstripChars
  rw [PyProof.Rows.stripBy_eq, TL.tl_strSub]
  show ∃ n, TL.tl s = ((TL.tl s).drop 0).take (s.length - ((s.cps.toList.drop 0).reverse.takeWhile _).length - 0) ++ _
  rw [List.drop_zero, Nat.sub_zero, TL.len_tl]
  show ∃ n, TL.tl s = (TL.tl s).take ((TL.tl s).length - ((TL.tl s).reverse.takeWhile _).length) ++ _
  generalize hg : (TL.tl s).reverse.takeWhile (Array.contains (" " : Str).cps) = t
  have hall : ∀ c ∈ t, c = 32 := by
    intro c hc
    rw [← hg] at hc
    have h2 : (" " : Str).cps.contains c = true := tw_imp hc
    have e : (" " : Str).cps = #[32] := by decide +kernel
    rw [e] at h2
    simpa using h2
  have hr : (TL.tl s).reverse = t ++ (TL.tl s).reverse.dropWhile (Array.contains (" " : Str).cps) := by rw [← hg, List.takeWhile_append_dropWhile]
  refine ⟨t.length, ?_⟩
  have hs : TL.tl s = ((TL.tl s).reverse.dropWhile (Array.contains (" " : Str).cps)).reverse ++ t.reverse := by
    rw [← List.reverse_append, ← hr, List.reverse_reverse]
  have hrep : t.reverse = List.replicate t.length 32 := by
    rw [List.eq_replicate_iff]
    exact ⟨List.length_reverse, fun c hc => hall c (List.mem_reverse.mp hc)⟩
  generalize (TL.tl s).reverse.dropWhile (Array.contains (" " : Str).cps) = u at hs
  rw [hs, List.length_append, List.length_reverse (as := t), Nat.add_sub_cancel, List.take_left, hrep]
theorem split_tl (s : Str) (k : Nat) (hk : k < 256) : Txt.split s ⟨#[k]⟩ = (TL.spl [k] 0 [] (TL.tl s)).map SX.S := by
  have := SX.split_S (a := TL.tl s) (b := [k]) (by simp) (by simpa using hk)
  rw [SX.S_tl] at this
  exact this
theorem spl_len (k : Nat) : ∀ (a acc : List Nat), (TL.spl [k] 0 acc a).length ≤ a.length + 1
  | [], acc => by rw [TL.spl_nil]; simp
  | c :: a, acc => by
    by_cases h : c = k
    · rw [TL.spl_hit (by rw [pre1]; simpa using h)]
      show (acc :: TL.spl [k] 0 [] a).length ≤ _
      have := spl_len k a []
      simp; omega
    · rw [TL.spl_miss (by rw [pre1]; simpa using h)]
      have := spl_len k a (acc ++ [c])
      simp; omega
def wD (l : List Nat) : List D := (W l).map fun p => .str (SX.S p)
theorem sp_eq : (" " : Str) = ⟨#[32]⟩ := by decide +kernel
theorem nl_eq : ("\n" : Str) = ⟨#[10]⟩ := by decide +kernel
theorem splitD_s {s : Str} {k : Nat} (hk : k < 256) (h : s.length + 2 ≤ 16777216) : splitD (.str s) (.str ⟨#[k]⟩) = some (.lst ((TL.spl [k] 0 [] (TL.tl s)).map fun p => .str (SX.S p))) := by
  show (if (Str.length ⟨#[k]⟩ == 0) = false ∧ s.length + 2 ≤ sizeLine then some (D.lst ((Txt.split s ⟨#[k]⟩).map .str)) else none) = _
  rw [if_pos ⟨rfl, h⟩, split_tl s k hk, List.map_map]; rfl
theorem splitw {s : Str} (w : Wd) (h : s.length + 2 ≤ 16777216) : F_split_words [.str s] w = .ok (.lst (wD (TL.tl s))) w := by
  have hl := spl_len 32 (TL.tl s) []
  rw [← TL.len_tl] at hl
  have e1 := splitD_s (s := s) (k := 32) (by decide) h
  rw [← sp_eq] at e1
  have e : lcL [1] (gN 1) (dBin neD (dObs 1) (dC (.str ""))) (dVar 1) [some (.str s, false), none] ((TL.spl [32] 0 [] (TL.tl s)).map fun p => .str (SX.S p)) w [] = .ok (.lst (wD (TL.tl s))) w := by
    rw [lcL_filter (fun d => [some (.str s, false), some (d, false)]) (fun d => match d with | .str z => !decide (z = "") | _ => false) (fun _ _ => rfl) (fun d hd => by
      obtain ⟨p, _, rfl⟩ := List.mem_map.mp hd
      simp only [runD, startE, SR.res, sSeq, SR.seq, sIf, Res.en, sRet, sSet, sSetO, sSetF, dVar, dObs, dC, dBin, dUn, Res.bind, Res.of, dNot, dAnd, dOr, dIf, dChain, dB, ResI.toR, aNil, aCons, ResI.mapA, dCall, dTup, dLst, sNext, rel, List.mapIdx_cons, List.mapIdx_nil, List.map_cons, List.map_nil, List.cons_append, List.nil_append, List.append_nil, List.length_cons, List.length_nil, List.replicate_succ, List.replicate_zero, List.getElem?_cons_zero, List.getElem?_cons_succ, all_, these, List.set_cons_zero, List.set_cons_succ, Bool.not_true, Bool.not_false, Bool.and_false, Bool.and_true, Bool.false_and, Bool.true_and, Nat.reduceAdd, Nat.reduceSub, dM, leD, gtD, ltD, isiD, List.contains_nil, Int.reduceLE, Int.reduceLT, decide_true, decide_false, Option.map_some, if_true, if_false, Nat.zero_le, sizeLine_eq, Nat.reduceLeDiff, Int.reduceEq, List.contains_cons, Nat.reduceBEq, Bool.or_false, Bool.or_true, Bool.true_or, Bool.false_or, neD_str]) (fun d _ _ => rfl) (by rw [List.length_map, sizeLine_eq]; omega)]
    unfold wD W
    rw [List.filter_map]
    congr 3
    apply List.filter_congr
    intro p _
    show (!decide (SX.S p = "")) = decide (p ≠ [])
    rw [Bool.eq_iff_iff]
    simp only [Bool.not_eq_true', decide_eq_false_iff_not, decide_eq_true_eq]
    constructor
    · intro h e; exact h (by rw [e]; rfl)
    · intro h e; exact h (SX.S_inj (show SX.S p = SX.S [] from e))
  unfold F_split_words g_split_words
  simp only [runD, startE, SR.res, sSeq, SR.seq, sIf, Res.en, sRet, sSet, sSetO, sSetF, dVar, dObs, dC, dBin, dUn, Res.bind, Res.of, dNot, dAnd, dOr, dIf, dChain, dB, ResI.toR, aNil, aCons, ResI.mapA, dCall, dTup, dLst, sNext, rel, List.mapIdx_cons, List.mapIdx_nil, List.map_cons, List.map_nil, List.cons_append, List.nil_append, List.append_nil, List.length_cons, List.length_nil, List.replicate_succ, List.replicate_zero, List.getElem?_cons_zero, List.getElem?_cons_succ, all_, these, List.set_cons_zero, List.set_cons_succ, Bool.not_true, Bool.not_false, Bool.and_false, Bool.and_true, Bool.false_and, Bool.true_and, Nat.reduceAdd, Nat.reduceSub, dM, leD, gtD, ltD, isiD, List.contains_nil, Int.reduceLE, Int.reduceLT, decide_true, decide_false, Option.map_some, if_true, if_false, Nat.zero_le, sizeLine_eq, Nat.reduceLeDiff, Int.reduceEq, List.contains_cons, Nat.reduceBEq, Bool.or_false, Bool.or_true, Bool.true_or, Bool.false_or, dComp, iSeq, Res.toI, e1, itemsD, e]
end L_k13

set_option Elab.async false
set_option linter.all false
set_option maxRecDepth 100000
set_option maxHeartbeats 1000000
namespace L_k13
open PySem PySem.SeqAt PySem.Spec PyProof.Rows L2 DL
def dueL : Nat → List (List Nat) → List D
  | _, [] => []
  | i, l :: r => (if W l = [] then [] else [.tup [.int ((i : Int) + 1), .tup (wD l)]]) ++ dueL (i + 1) r
theorem dueL_cons (i : Nat) (l : List Nat) (r : List (List Nat)) : dueL i (l :: r) = (if W l = [] then [] else [.tup [.int ((i : Int) + 1), .tup (wD l)]]) ++ dueL (i + 1) r := rfl
theorem seq_nx {f g : SM} {r r1 : DL.Env} {w w1 : Wd} (h : f r w = .nx r1 w1) : sSeq f g r w = g r1 w1 := by
  unfold sSeq
  rw [h]; rfl
theorem dueL_len : ∀ (i : Nat) (l : List (List Nat)), (dueL i l).length ≤ l.length
  | _, [] => Nat.le_refl _
  | i, l :: r => by
    unfold dueL
    rw [List.length_append, List.length_cons]
    have := dueL_len (i + 1) r
    split
    · simp; omega
    · simp; omega
theorem spl_mem (k : Nat) : ∀ (a acc : List Nat), ∀ l ∈ TL.spl [k] 0 acc a, l.length ≤ acc.length + a.length
  | [], acc, l, h => by rw [TL.spl_nil] at h; simp at h; subst h; simp
  | c :: a, acc, l, h => by
    by_cases hc : c = k
    · rw [TL.spl_hit (by rw [pre1]; simpa using hc)] at h
      rcases List.mem_cons.mp h with rfl | h
      · omega
      · have := spl_mem k a [] l h
        simp at this ⊢; omega
    · rw [TL.spl_miss (by rw [pre1]; simpa using hc)] at h
      have := spl_mem k a (acc ++ [c]) l h
      simp at this ⊢; omega
theorem W_len (l : List Nat) : (W l).length ≤ l.length + 1 := Nat.le_trans (List.length_filter_le _ _) (spl_len 32 l [])
theorem wD_len (l : List Nat) : (wD l).length ≤ l.length + 1 := by unfold wD; rw [List.length_map]; exact W_len l
abbrev wG : GM := gTupD 2 (gCo (gN 2) (gCo (gN 3) gNo))
abbrev wF : SM := (sSeq (sSet 4 [3] (dCall F_split_words (aCons (dVar 3) aNil))) (sIf (dBin gtD (dB lenD (aCons (dObs 4) aNil)) (dC (.int 0))) (sApp 1 [] (dTup (aCons (dBin plusD (dObs 2) (dC (.int 1))) (aCons (dB tupleD (aCons (dObs 4) aNil)) aNil)))) sNext))
theorem these34 : (these [3] 4) = false ∧ these [3] 3 = true ∧ these [3] 2 = false ∧ these [3] 1 = false ∧ these [3] 0 = false := by decide
theorem wstep (t : D) (acc : List D) (b c : D) (x : Slot) (i : Nat) (l : List Nat) (w : Wd) (h : l.length + 2 ≤ 16777216) (hz : acc.length < 16777216) :
    wF [some (t, false), some (.lst acc, true), some (.int i, false), some (.str (SX.S l), false), x] w = .nx [some (t, false), some (.lst (acc ++ if W l = [] then [] else [.tup [.int ((i : Int) + 1), .tup (wD l)]]), true), some (.int i, false), some (.str (SX.S l), false), some (.lst (wD l), false)] w := by
  have e1 : F_split_words [.str (SX.S l)] w = .ok (.lst (wD l)) w := splitw (s := SX.S l) w (by rw [SX.S_len]; exact h)
  have e2 : lenD [.lst (wD l)] = some (.int (wD l).length) := rfl
  by_cases hw : W l = []
  · have e3 : wD l = [] := by unfold wD; rw [hw]; rfl
    cases x <;> simp only [runD, startE, SR.res, sSeq, SR.seq, sIf, Res.en, sRet, sSet, sSetO, sSetF, dVar, dObs, dC, dBin, dUn, Res.bind, Res.of, dNot, dAnd, dOr, dIf, dChain, dB, ResI.toR, aNil, aCons, ResI.mapA, dCall, dTup, dLst, sNext, rel, List.mapIdx_cons, List.mapIdx_nil, List.map_cons, List.map_nil, List.cons_append, List.nil_append, List.append_nil, List.length_cons, List.length_nil, List.replicate_succ, List.replicate_zero, List.getElem?_cons_zero, List.getElem?_cons_succ, all_, these, List.set_cons_zero, List.set_cons_succ, Bool.not_true, Bool.not_false, Bool.and_false, Bool.and_true, Bool.false_and, Bool.true_and, Nat.reduceAdd, Nat.reduceSub, dM, leD, gtD, ltD, isiD, List.contains_nil, Int.reduceLE, Int.reduceLT, decide_true, decide_false, Option.map_some, if_true, if_false, Nat.zero_le, sizeLine_eq, Nat.reduceLeDiff, Int.reduceEq, List.contains_cons, Nat.reduceBEq, Bool.or_false, Bool.or_true, Bool.true_or, Bool.false_or, wF, e1, e2, hw, e3, sApp] <;> rfl
  · have e3 : (0 : Int) < ((wD l).length : Int) := by
      have : 0 < (W l).length := List.length_pos_iff.mpr hw
      unfold wD; rw [List.length_map]; omega
    have e4 : tupleD [.lst (wD l)] = some (.tup (wD l)) := rfl
    have e5 : acc.length < sizeLine := hz
    cases x <;> simp only [runD, startE, SR.res, sSeq, SR.seq, sIf, Res.en, sRet, sSet, sSetO, sSetF, dVar, dObs, dC, dBin, dUn, Res.bind, Res.of, dNot, dAnd, dOr, dIf, dChain, dB, ResI.toR, aNil, aCons, ResI.mapA, dCall, dTup, dLst, sNext, rel, List.mapIdx_cons, List.mapIdx_nil, List.map_cons, List.map_nil, List.cons_append, List.nil_append, List.append_nil, List.length_cons, List.length_nil, List.replicate_succ, List.replicate_zero, List.getElem?_cons_zero, List.getElem?_cons_succ, all_, these, List.set_cons_zero, List.set_cons_succ, Bool.not_true, Bool.not_false, Bool.and_false, Bool.and_true, Bool.false_and, Bool.true_and, Nat.reduceAdd, Nat.reduceSub, dM, leD, gtD, ltD, isiD, List.contains_nil, Int.reduceLE, Int.reduceLT, decide_true, decide_false, Option.map_some, if_true, if_false, Nat.zero_le, sizeLine_eq, Nat.reduceLeDiff, Int.reduceEq, List.contains_cons, Nat.reduceBEq, Bool.or_false, Bool.or_true, Bool.true_or, Bool.false_or, wF, e1, e2, hw, e3, sApp, ownL, plusD_i, e4, hz]
theorem wloop (t : D) (w : Wd) : ∀ (ls : List (List Nat)) (i : Nat) (acc : List D) (a b c : Slot), (∀ l ∈ ls, l.length + 2 ≤ 16777216) → acc.length + ls.length ≤ 16777216 →
    ∃ a' b' c', forL wG wF (enumL i (ls.map fun p => .str (SX.S p))) [some (t, false), some (.lst acc, true), a, b, c] w = .nx [some (t, false), some (.lst (acc ++ dueL i ls), true), a', b', c'] w
  | [], i, acc, a, b, c, _, _ => ⟨a, b, c, by unfold dueL; rw [List.append_nil]; rfl⟩
  | l :: ls, i, acc, a, b, c, h, hz => by
    rw [List.length_cons] at hz
    have e1 := wstep t acc .non .non c i l w (h l List.mem_cons_self) (by omega)
    obtain ⟨a', b', c', e⟩ := wloop t w ls (i + 1) (acc ++ if W l = [] then [] else [.tup [.int ((i : Int) + 1), .tup (wD l)]]) (some (.int i, false)) (some (.str (SX.S l), false)) (some (.lst (wD l), false)) (fun x hx => h x (List.mem_cons_of_mem _ hx)) (by
      rw [List.length_append]
      split
      · simp; omega
      · simp; omega)
    refine ⟨a', b', c', ?_⟩
    rw [List.map_cons]
    unfold enumL forL
    show (match wF [some (t, false), some (.lst acc, true), some (.int i, false), some (.str (SX.S l), false), c] w with | .nx r2 w2 => forL wG wF _ r2 w2 | .ct r2 w2 => _ | .bk r2 w2 => _ | .rt d w2 => _ | .exc n fs r2 w2 => _ | .bad => _) = SR.nx _ w
    rw [e1]
    simp only
    rw [e]
    rw [List.append_assoc, dueL_cons]
theorem words_of {s : Str} (w : Wd) (h : s.length + 2 ≤ 16777216) : F_words_of [.str s] w = .ok (.tup (dueL 0 (TL.spl [10] 0 [] (TL.tl s)))) w := by
  have hl := spl_len 10 (TL.tl s) []
  rw [← TL.len_tl] at hl
  have e1 := splitD_s (s := s) (k := 10) (by decide) h
  rw [← nl_eq] at e1
  have hb : ∀ l ∈ TL.spl [10] 0 [] (TL.tl s), l.length + 2 ≤ 16777216 := by
    intro l hl'
    have := spl_mem 10 (TL.tl s) [] l hl'
    rw [← TL.len_tl] at this
    simp at this
    omega
  obtain ⟨a, b, c, e⟩ := wloop (.str s) w (TL.spl [10] 0 [] (TL.tl s)) 0 [] none none none hb (by simp; omega)
  have h3 : sFor [] (DL.iEnum (aCons (dM splitD (dObs 0) (dC (.str "\n"))) aNil)) wG wF [some (.str s, false), some (.lst [], true), none, none, none] w = .nx [some (.str s, false), some (.lst (dueL 0 (TL.spl [10] 0 [] (TL.tl s))), true), a, b, c] w := by
    have hf : DL.iEnum (aCons (dM splitD (dObs 0) (dC (.str "\n"))) aNil) [some (.str s, false), some (.lst [], true), none, none, none] w = .ok (enumL 0 ((TL.spl [10] 0 [] (TL.tl s)).map fun p => .str (SX.S p))) w := by
      simp only [runD, startE, SR.res, sSeq, SR.seq, sIf, Res.en, sRet, sSet, sSetO, sSetF, dVar, dObs, dC, dBin, dUn, Res.bind, Res.of, dNot, dAnd, dOr, dIf, dChain, dB, ResI.toR, aNil, aCons, ResI.mapA, dCall, dTup, dLst, sNext, rel, List.mapIdx_cons, List.mapIdx_nil, List.map_cons, List.map_nil, List.cons_append, List.nil_append, List.append_nil, List.length_cons, List.length_nil, List.replicate_succ, List.replicate_zero, List.getElem?_cons_zero, List.getElem?_cons_succ, all_, these, List.set_cons_zero, List.set_cons_succ, Bool.not_true, Bool.not_false, Bool.and_false, Bool.and_true, Bool.false_and, Bool.true_and, Nat.reduceAdd, Nat.reduceSub, dM, leD, gtD, ltD, isiD, List.contains_nil, Int.reduceLE, Int.reduceLT, decide_true, decide_false, Option.map_some, if_true, if_false, Nat.zero_le, sizeLine_eq, Nat.reduceLeDiff, Int.reduceEq, List.contains_cons, Nat.reduceBEq, Bool.or_false, Bool.or_true, Bool.true_or, Bool.false_or, DL.iEnum, e1, itemsD]
    show (match (DL.iEnum (aCons (dM splitD (dObs 0) (dC (.str "\n"))) aNil) [some (.str s, false), some (.lst [], true), none, none, none] w) with | .ok l w' => _ | .exc n fs w' => _ | .bad => _) = _
    rw [hf]
    exact e
  unfold F_words_of runD g_words_of
  rw [seq_nx (r1 := [some (.str s, false), none, none, none, none]) (w1 := w) (by simp only [runD, startE, SR.res, sSeq, SR.seq, sIf, Res.en, sRet, sSet, sSetO, sSetF, dVar, dObs, dC, dBin, dUn, Res.bind, Res.of, dNot, dAnd, dOr, dIf, dChain, dB, ResI.toR, aNil, aCons, ResI.mapA, dCall, dTup, dLst, sNext, rel, List.mapIdx_cons, List.mapIdx_nil, List.map_cons, List.map_nil, List.cons_append, List.nil_append, List.append_nil, List.length_cons, List.length_nil, List.replicate_succ, List.replicate_zero, List.getElem?_cons_zero, List.getElem?_cons_succ, all_, these, List.set_cons_zero, List.set_cons_succ, Bool.not_true, Bool.not_false, Bool.and_false, Bool.and_true, Bool.false_and, Bool.true_and, Nat.reduceAdd, Nat.reduceSub, dM, leD, gtD, ltD, isiD, List.contains_nil, Int.reduceLE, Int.reduceLT, decide_true, decide_false, Option.map_some, if_true, if_false, Nat.zero_le, sizeLine_eq, Nat.reduceLeDiff, Int.reduceEq, List.contains_cons, Nat.reduceBEq, Bool.or_false, Bool.or_true, Bool.true_or, Bool.false_or, isi_str (d := .str s) rfl, isS]), seq_nx (r1 := [some (.str s, false), some (.lst [], true), none, none, none]) (w1 := w) (by simp only [runD, startE, SR.res, sSeq, SR.seq, sIf, Res.en, sRet, sSet, sSetO, sSetF, dVar, dObs, dC, dBin, dUn, Res.bind, Res.of, dNot, dAnd, dOr, dIf, dChain, dB, ResI.toR, aNil, aCons, ResI.mapA, dCall, dTup, dLst, sNext, rel, List.mapIdx_cons, List.mapIdx_nil, List.map_cons, List.map_nil, List.cons_append, List.nil_append, List.append_nil, List.length_cons, List.length_nil, List.replicate_succ, List.replicate_zero, List.getElem?_cons_zero, List.getElem?_cons_succ, all_, these, List.set_cons_zero, List.set_cons_succ, Bool.not_true, Bool.not_false, Bool.and_false, Bool.and_true, Bool.false_and, Bool.true_and, Nat.reduceAdd, Nat.reduceSub, dM, leD, gtD, ltD, isiD, List.contains_nil, Int.reduceLE, Int.reduceLT, decide_true, decide_false, Option.map_some, if_true, if_false, Nat.zero_le, sizeLine_eq, Nat.reduceLeDiff, Int.reduceEq, List.contains_cons, Nat.reduceBEq, Bool.or_false, Bool.or_true, Bool.true_or, Bool.false_or, if_true]), seq_nx h3]
  have e4 : ∀ l : List D, tupleD [.lst l] = some (.tup l) := fun _ => rfl
  cases a <;> cases b <;> cases c <;> simp only [runD, startE, SR.res, sSeq, SR.seq, sIf, Res.en, sRet, sSet, sSetO, sSetF, dVar, dObs, dC, dBin, dUn, Res.bind, Res.of, dNot, dAnd, dOr, dIf, dChain, dB, ResI.toR, aNil, aCons, ResI.mapA, dCall, dTup, dLst, sNext, rel, List.mapIdx_cons, List.mapIdx_nil, List.map_cons, List.map_nil, List.cons_append, List.nil_append, List.append_nil, List.length_cons, List.length_nil, List.replicate_succ, List.replicate_zero, List.getElem?_cons_zero, List.getElem?_cons_succ, all_, these, List.set_cons_zero, List.set_cons_succ, Bool.not_true, Bool.not_false, Bool.and_false, Bool.and_true, Bool.false_and, Bool.true_and, Nat.reduceAdd, Nat.reduceSub, dM, leD, gtD, ltD, isiD, List.contains_nil, Int.reduceLE, Int.reduceLT, decide_true, decide_false, Option.map_some, if_true, if_false, Nat.zero_le, sizeLine_eq, Nat.reduceLeDiff, Int.reduceEq, List.contains_cons, Nat.reduceBEq, Bool.or_false, Bool.or_true, Bool.true_or, Bool.false_or, e4]
end L_k13

set_option Elab.async false
set_option linter.all false
set_option maxRecDepth 100000
set_option maxHeartbeats 1000000
namespace L_k13
open PySem PySem.SeqAt PySem.Spec PyProof.Rows L2 DL
theorem dueL_snoc : ∀ (i : Nat) (a : List (List Nat)) (l : List Nat), dueL i (a ++ [l]) = dueL i a ++ if W l = [] then [] else [.tup [.int (((i + a.length : Nat) : Int) + 1), .tup (wD l)]]
  | i, [], l => by
    rw [List.nil_append, dueL_cons]
    show _ ++ [] = [] ++ _
    rw [List.append_nil, List.nil_append]; rfl
  | i, b :: a, l => by
    rw [List.cons_append, dueL_cons, dueL_cons, dueL_snoc (i + 1) a l, List.append_assoc, List.length_cons, show i + 1 + a.length = i + (a.length + 1) by omega]
/-- a word that is drawn -/
def Wo (p : List Nat) : Prop := p ≠ [] ∧ 32 ∉ p ∧ 10 ∉ p ∧ p.length ≤ 131
abbrev wsD (ws : List (List Nat)) : List D := ws.map fun p => .str (SX.S p)
abbrev lF : SM := (sSet 5 [] (dBin plusD (dBin plusD (dObs 5) (dObs 6)) (dCall F__law_pick (aCons (dVar 0) (aCons (dLst (aCons (dC (.str " ")) (aCons (dC (.str "  ")) aNil))) aNil)))))
theorem pick_sp (w : Wd) : ∃ n w', F__law_pick [.pen, .lst [.str " ", .str "  "]] w = .ok (.str (SX.S (List.replicate n 32))) w' ∧ 1 ≤ n ∧ n ≤ 2 := by
  obtain ⟨_, w', e, n, rfl, h⟩ := pick_in w (l := [.str " ", .str "  "]) (P := fun d => ∃ n, d = .str (SX.S (List.replicate n 32)) ∧ 1 ≤ n ∧ n ≤ 2) (by decide) (by decide) (by
    intro d hd
    simp only [List.mem_cons, List.not_mem_nil, or_false] at hd
    rcases hd with rfl | rfl
    · exact ⟨1, by congr 1, by decide, by decide⟩
    · exact ⟨2, by congr 1, by decide, by decide⟩)
  exact ⟨n, w', e, h⟩
theorem catS (a b : List Nat) (h : a.length + b.length ≤ 16777216) : plusD (.str (SX.S a)) (.str (SX.S b)) = some (.str (SX.S (a ++ b))) := by
  rw [plusD_st (by rw [SX.S_len, SX.S_len]; exact h), SX.S_cat]
theorem lstep (pl pd : List D) (i : Int) (pw : List D) (L p : List Nat) (x : Slot) (w : Wd) (h : L.length + p.length + 2 ≤ 16777216) : ∃ n w', lF [some (.pen, false), some (.lst pl, true), some (.lst pd, true), some (.int i, false), some (.lst pw, false), some (.str (SX.S L), false), some (.str (SX.S p), false), x] w =
    .nx [some (.pen, false), some (.lst pl, true), some (.lst pd, true), some (.int i, false), some (.lst pw, false), some (.str (SX.S (L ++ p ++ List.replicate n 32)), false), some (.str (SX.S p), false), x] w' ∧ 1 ≤ n ∧ n ≤ 2 := by
  obtain ⟨n, w', e, n1, n2⟩ := pick_sp w
  refine ⟨n, w', ?_, n1, n2⟩
  have h1 := catS L p (by omega)
  have h2 := catS (L ++ p) (List.replicate n 32) (by rw [List.length_append, List.length_replicate]; omega)
  cases x <;> simp only [runD, startE, SR.res, sSeq, SR.seq, sIf, Res.en, sRet, sSet, sSetO, sSetF, dVar, dObs, dC, dBin, dUn, Res.bind, Res.of, dNot, dAnd, dOr, dIf, dChain, dB, ResI.toR, aNil, aCons, ResI.mapA, dCall, dTup, dLst, sNext, rel, List.mapIdx_cons, List.mapIdx_nil, List.map_cons, List.map_nil, List.cons_append, List.nil_append, List.append_nil, List.length_cons, List.length_nil, List.replicate_succ, List.replicate_zero, List.getElem?_cons_zero, List.getElem?_cons_succ, all_, these, List.set_cons_zero, List.set_cons_succ, Bool.not_true, Bool.not_false, Bool.and_false, Bool.and_true, Bool.false_and, Bool.true_and, Nat.reduceAdd, Nat.reduceSub, dM, leD, gtD, ltD, isiD, List.contains_nil, Int.reduceLE, Int.reduceLT, decide_true, decide_false, Option.map_some, if_true, if_false, Nat.zero_le, sizeLine_eq, Nat.reduceLeDiff, Int.reduceEq, List.contains_cons, Nat.reduceBEq, Bool.or_false, Bool.or_true, Bool.true_or, Bool.false_or, lF, e, h1, h2]
theorem lloop (pl pd : List D) (i : Int) (pw : List D) (x : Slot) : ∀ (ws pre : List (List Nat)) (L : List Nat) (y : Slot) (w : Wd), (∀ p ∈ ws, Wo p) → (∀ z, W (L ++ z) = pre ++ W z) → 10 ∉ L → L.length + ws.length * 133 ≤ 10000 →
    ∃ L' y' w', forL (gN 6) lF (wsD ws) [some (.pen, false), some (.lst pl, true), some (.lst pd, true), some (.int i, false), some (.lst pw, false), some (.str (SX.S L), false), y, x] w =
      .nx [some (.pen, false), some (.lst pl, true), some (.lst pd, true), some (.int i, false), some (.lst pw, false), some (.str (SX.S L'), false), y', x] w' ∧ (∀ z, W (L' ++ z) = pre ++ ws ++ W z) ∧ 10 ∉ L' ∧ L'.length ≤ L.length + ws.length * 133
  | [], pre, L, y, w, _, hW, hn, hz => ⟨L, y, w, rfl, by simpa using hW, hn, by simp⟩
  | p :: ws, pre, L, y, w, ho, hW, hn, hz => by
    obtain ⟨p1, p2, p3, p4⟩ := ho p List.mem_cons_self
    rw [List.length_cons] at hz
    obtain ⟨n, w1, e1, n1, n2⟩ := lstep pl pd i pw L p x w (by omega)
    have hW' : ∀ z, W (L ++ p ++ List.replicate n 32 ++ z) = (pre ++ [p]) ++ W z := by
      intro z
      obtain ⟨m, rfl⟩ : ∃ m, n = m + 1 := ⟨n - 1, by omega⟩
      rw [List.append_assoc, List.append_assoc, hW, List.replicate_succ, List.cons_append, W_app, W_free p2 p1, W_sp, List.append_assoc]
    obtain ⟨L', y', w2, e2, q1, q2, q3⟩ := lloop pl pd i pw x ws (pre ++ [p]) (L ++ p ++ List.replicate n 32) (some (.str (SX.S p), false)) w1 (fun q hq => ho q (List.mem_cons_of_mem _ hq)) hW' (by
      intro hm
      rcases List.mem_append.mp hm with hm | hm
      · rcases List.mem_append.mp hm with hm | hm
        · exact hn hm
        · exact p3 hm
      · have := (List.mem_replicate.mp hm).2
        omega) (by simp only [List.length_append, List.length_replicate]; omega)
    refine ⟨L', y', w2, ?_, fun z => ?_, q2, ?_⟩
    · rw [show wsD (p :: ws) = .str (SX.S p) :: wsD ws from rfl]
      unfold forL
      show (match lF [some (.pen, false), some (.lst pl, true), some (.lst pd, true), some (.int i, false), some (.lst pw, false), some (.str (SX.S L), false), some (.str (SX.S p), false), x] w with | .nx r2 w2 => forL (gN 6) lF (wsD ws) r2 w2 | .ct r2 w2 => _ | .bk r2 w2 => _ | .rt d w2 => _ | .exc n fs r2 w2 => _ | .bad => _) = SR.nx _ _
      rw [e1]
      exact e2
    · rw [q1 z]; simp
    · simp only [List.length_append, List.length_replicate, List.length_cons] at q3 ⊢; omega
theorem relNil (r : DL.Env) : rel (these []) r = r := by
  unfold rel
  apply List.ext_getElem?
  intro i
  rw [List.getElem?_mapIdx]
  cases r[i]? with
  | none => rfl
  | some x =>
    cases x with
    | none => rfl
    | some x =>
      obtain ⟨d, o⟩ := x
      show some (some (d, o && !(these [] i))) = some (some (d, o))
      show some (some (d, o && true)) = _
      rw [Bool.and_true]
theorem setO_nx {i : Nat} {fe : EM} {r : DL.Env} {d : D} {w w' : Wd} (h : fe r w = .ok d w') : sSetO i [] fe r w = .nx (r.set i (some (d, true))) w' := by
  unfold sSetO
  rw [relNil, h]; rfl
theorem set_nx {i : Nat} {fe : EM} {r : DL.Env} {d : D} {w w' : Wd} (h : fe r w = .ok d w') : sSet i [] fe r w = .nx (r.set i (some (d, false))) w' := by
  unfold sSet
  rw [relNil, h]; rfl
abbrev cA : EM := dComp [7] (iRange1 (aCons (dCall F__law_pick (aCons (dVar 0) (aCons (dLst (aCons (dC (.int 0)) (aCons (dC (.int 0)) (aCons (dC (.int 1)) (aCons (dC (.int 2)) (aCons (dC (.int 5)) aNil)))))) aNil))) aNil)) (gN 7) dYes (dCall F__law_strange (aCons (dVar 0) aNil))
theorem compA (a1 a2 a3 a4 a5 a6 : Slot) (w : Wd) : ∃ ds w', cA [some (.pen, false), a1, a2, a3, a4, a5, a6, none] w = .ok (.lst ds) w' ∧ ds.length ≤ 5 ∧ ∀ d ∈ ds, isStr 130 d := by
  obtain ⟨_, w2, e2, j, rfl, j0, j1⟩ := pick_in w (l := [.int 0, .int 0, .int 1, .int 2, .int 5]) (P := isI 5) (by decide) (by decide) (by
    intro d hd
    simp only [List.mem_cons, List.not_mem_nil, or_false] at hd
    rcases hd with rfl | rfl | rfl | rfl | rfl <;> exact ⟨_, rfl, by decide, by decide⟩)
  obtain ⟨ys, w3, e3, l3, q3⟩ := comp_rng (vs := [7]) (fa := (aCons (dCall F__law_pick (aCons (dVar 0) (aCons (dLst (aCons (dC (.int 0)) (aCons (dC (.int 0)) (aCons (dC (.int 1)) (aCons (dC (.int 2)) (aCons (dC (.int 5)) aNil)))))) aNil))) aNil)) (g := gN 7) (fe := dCall F__law_strange (aCons (dVar 0) aNil)) (r := [some (.pen, false), a1, a2, a3, a4, a5, a6, none]) (w := w) (w1 := w2) (j := j) (Q := isStr 130)
    (fun d => [some (.pen, false), a1, a2, a3, a4, a5, a6, some (d, false)]) (by simp only [runD, startE, SR.res, sSeq, SR.seq, sIf, Res.en, sRet, sSet, sSetO, sSetF, dVar, dObs, dC, dBin, dUn, Res.bind, Res.of, dNot, dAnd, dOr, dIf, dChain, dB, ResI.toR, aNil, aCons, ResI.mapA, dCall, dTup, dLst, sNext, rel, List.mapIdx_cons, List.mapIdx_nil, List.map_cons, List.map_nil, List.cons_append, List.nil_append, List.append_nil, List.length_cons, List.length_nil, List.replicate_succ, List.replicate_zero, List.getElem?_cons_zero, List.getElem?_cons_succ, all_, these, List.set_cons_zero, List.set_cons_succ, Bool.not_true, Bool.not_false, Bool.and_false, Bool.and_true, Bool.false_and, Bool.true_and, Nat.reduceAdd, Nat.reduceSub, dM, leD, gtD, ltD, isiD, List.contains_nil, Int.reduceLE, Int.reduceLT, decide_true, decide_false, Option.map_some, if_true, if_false, Nat.zero_le, sizeLine_eq, Nat.reduceLeDiff, Int.reduceEq, List.contains_cons, Nat.reduceBEq, Bool.or_false, Bool.or_true, Bool.true_or, Bool.false_or, e2]) j0 (by omega) (fun _ => rfl) (fun d w => by
      obtain ⟨s, w', e, h⟩ := strange w
      exact ⟨_, w', by simp only [runD, startE, SR.res, sSeq, SR.seq, sIf, Res.en, sRet, sSet, sSetO, sSetF, dVar, dObs, dC, dBin, dUn, Res.bind, Res.of, dNot, dAnd, dOr, dIf, dChain, dB, ResI.toR, aNil, aCons, ResI.mapA, dCall, dTup, dLst, sNext, rel, List.mapIdx_cons, List.mapIdx_nil, List.map_cons, List.map_nil, List.cons_append, List.nil_append, List.append_nil, List.length_cons, List.length_nil, List.replicate_succ, List.replicate_zero, List.getElem?_cons_zero, List.getElem?_cons_succ, all_, these, List.set_cons_zero, List.set_cons_succ, Bool.not_true, Bool.not_false, Bool.and_false, Bool.and_true, Bool.false_and, Bool.true_and, Nat.reduceAdd, Nat.reduceSub, dM, leD, gtD, ltD, isiD, List.contains_nil, Int.reduceLE, Int.reduceLT, decide_true, decide_false, Option.map_some, if_true, if_false, Nat.zero_le, sizeLine_eq, Nat.reduceLeDiff, Int.reduceEq, List.contains_cons, Nat.reduceBEq, Bool.or_false, Bool.or_true, Bool.true_or, Bool.false_or, e], s, rfl, h⟩)
  exact ⟨ys, w3, e3, by omega, q3⟩
theorem pick_tab (w : Wd) : ∃ q w', F__law_pick [.pen, .lst [.str "", .str "", .str "\t"]] w = .ok (.str (SX.S q)) w' ∧ 32 ∉ q ∧ 10 ∉ q ∧ q.length ≤ 1 := by
  obtain ⟨_, w', e, q, rfl, h⟩ := pick_in w (l := [.str "", .str "", .str "\t"]) (P := fun d => ∃ q, d = .str (SX.S q) ∧ 32 ∉ q ∧ 10 ∉ q ∧ q.length ≤ 1) (by decide) (by decide) (by
    intro d hd
    simp only [List.mem_cons, List.not_mem_nil, or_false] at hd
    rcases hd with rfl | rfl | rfl
    · exact ⟨[], by congr 1, by decide, by decide, by decide⟩
    · exact ⟨[], by congr 1, by decide, by decide, by decide⟩
    · exact ⟨[9], by congr 1, by decide, by decide, by decide⟩)
  exact ⟨q, w', e, h⟩
abbrev cB : EM := dComp [6] (iSeq (dObs 4)) (gN 6) (dBin neD (dObs 6) (dC (.str ""))) (dBin plusD (dObs 6) (dCall F__law_pick (aCons (dVar 0) (aCons (dLst (aCons (dC (.str "")) (aCons (dC (.str "")) (aCons (dC (.str "\t")) aNil)))) aNil))))
theorem ws_all : ∀ {ds : List D}, (∀ d ∈ ds, ∃ p, d = .str (SX.S p) ∧ Wo p) → ∃ ws, ds = wsD ws ∧ ∀ p ∈ ws, Wo p
  | [], _ => ⟨[], rfl, by simp⟩
  | d :: ds, h => by
    obtain ⟨p, rfl, hp⟩ := h d List.mem_cons_self
    obtain ⟨ws, rfl, hw⟩ := ws_all fun x hx => h x (List.mem_cons_of_mem _ hx)
    exact ⟨p :: ws, rfl, fun q hq => by
      rcases List.mem_cons.mp hq with rfl | hq
      · exact hp
      · exact hw q hq⟩
theorem compB (a1 a2 a3 a5 a6 : Slot) (ds : List D) (o : Bool) (w : Wd) (hl : ds.length ≤ 5) (hd : ∀ d ∈ ds, isStr 130 d) : ∃ ws w', cB [some (.pen, false), a1, a2, a3, some (.lst ds, o), a5, a6, none] w = .ok (.lst (wsD ws)) w' ∧ ws.length ≤ 5 ∧ ∀ p ∈ ws, Wo p := by
  obtain ⟨ys, w', e, hy, q⟩ := lcL_drawF (vs := [6]) (g := gN 6) (ft := dBin neD (dObs 6) (dC (.str ""))) (fe := dBin plusD (dObs 6) (dCall F__law_pick (aCons (dVar 0) (aCons (dLst (aCons (dC (.str "")) (aCons (dC (.str "")) (aCons (dC (.str "\t")) aNil)))) aNil)))) (r := [some (.pen, false), a1, a2, a3, some (.lst ds, o), a5, a6, none])
    (r1 := fun d => [some (.pen, false), a1, a2, a3, some (.lst ds, o), a5, some (d, false), none]) (Q := fun d => ∃ p, d = .str (SX.S p) ∧ Wo p) (l := ds) (acc := []) (w := w) (fun _ _ => rfl) (fun d hd' w => by
      obtain ⟨s, rfl, hs⟩ := hd d hd'
      refine ⟨!decide (s = ""), w, by simp only [runD, startE, SR.res, sSeq, SR.seq, sIf, Res.en, sRet, sSet, sSetO, sSetF, dVar, dObs, dC, dBin, dUn, Res.bind, Res.of, dNot, dAnd, dOr, dIf, dChain, dB, ResI.toR, aNil, aCons, ResI.mapA, dCall, dTup, dLst, sNext, rel, List.mapIdx_cons, List.mapIdx_nil, List.map_cons, List.map_nil, List.cons_append, List.nil_append, List.append_nil, List.length_cons, List.length_nil, List.replicate_succ, List.replicate_zero, List.getElem?_cons_zero, List.getElem?_cons_succ, all_, these, List.set_cons_zero, List.set_cons_succ, Bool.not_true, Bool.not_false, Bool.and_false, Bool.and_true, Bool.false_and, Bool.true_and, Nat.reduceAdd, Nat.reduceSub, dM, leD, gtD, ltD, isiD, List.contains_nil, Int.reduceLE, Int.reduceLT, decide_true, decide_false, Option.map_some, if_true, if_false, Nat.zero_le, sizeLine_eq, Nat.reduceLeDiff, Int.reduceEq, List.contains_cons, Nat.reduceBEq, Bool.or_false, Bool.or_true, Bool.true_or, Bool.false_or, neD_str], fun hne w => ?_⟩
      obtain ⟨q, w', e, q1, q2, q3⟩ := pick_tab w
      have hs1 := hs.1
      have hlen : s.length = (TL.tl s).length := TL.len_tl s
      have h1 := catS (TL.tl s) q (by omega)
      rw [SX.S_tl] at h1
      refine ⟨_, w', by simp only [runD, startE, SR.res, sSeq, SR.seq, sIf, Res.en, sRet, sSet, sSetO, sSetF, dVar, dObs, dC, dBin, dUn, Res.bind, Res.of, dNot, dAnd, dOr, dIf, dChain, dB, ResI.toR, aNil, aCons, ResI.mapA, dCall, dTup, dLst, sNext, rel, List.mapIdx_cons, List.mapIdx_nil, List.map_cons, List.map_nil, List.cons_append, List.nil_append, List.append_nil, List.length_cons, List.length_nil, List.replicate_succ, List.replicate_zero, List.getElem?_cons_zero, List.getElem?_cons_succ, all_, these, List.set_cons_zero, List.set_cons_succ, Bool.not_true, Bool.not_false, Bool.and_false, Bool.and_true, Bool.false_and, Bool.true_and, Nat.reduceAdd, Nat.reduceSub, dM, leD, gtD, ltD, isiD, List.contains_nil, Int.reduceLE, Int.reduceLT, decide_true, decide_false, Option.map_some, if_true, if_false, Nat.zero_le, sizeLine_eq, Nat.reduceLeDiff, Int.reduceEq, List.contains_cons, Nat.reduceBEq, Bool.or_false, Bool.or_true, Bool.true_or, Bool.false_or, e, h1], TL.tl s ++ q, rfl, ?_, ?_, ?_, ?_⟩
      · intro z
        have z1 := (List.append_eq_nil_iff.mp z).1
        have : s = "" := TL.ext_tl z1
        simp [this] at hne
      · intro z
        rcases List.mem_append.mp z with z | z
        · exact (hs.2 _ z).1 rfl
        · exact q1 z
      · intro z
        rcases List.mem_append.mp z with z | z
        · exact (hs.2 _ z).2 rfl
        · exact q2 z
      · rw [List.length_append]; omega) (by rw [List.length_nil, sizeLine_eq]; omega)
  obtain ⟨ws, rfl, hw⟩ := ws_all q
  refine ⟨ws, w', ?_, ?_, hw⟩
  · unfold cB dComp iSeq
    simp only [runD, startE, SR.res, sSeq, SR.seq, sIf, Res.en, sRet, sSet, sSetO, sSetF, dVar, dObs, dC, dBin, dUn, Res.bind, Res.of, dNot, dAnd, dOr, dIf, dChain, dB, ResI.toR, aNil, aCons, ResI.mapA, dCall, dTup, dLst, sNext, rel, List.mapIdx_cons, List.mapIdx_nil, List.map_cons, List.map_nil, List.cons_append, List.nil_append, List.append_nil, List.length_cons, List.length_nil, List.replicate_succ, List.replicate_zero, List.getElem?_cons_zero, List.getElem?_cons_succ, all_, these, List.set_cons_zero, List.set_cons_succ, Bool.not_true, Bool.not_false, Bool.and_false, Bool.and_true, Bool.false_and, Bool.true_and, Nat.reduceAdd, Nat.reduceSub, dM, leD, gtD, ltD, isiD, List.contains_nil, Int.reduceLE, Int.reduceLT, decide_true, decide_false, Option.map_some, if_true, if_false, Nat.zero_le, sizeLine_eq, Nat.reduceLeDiff, Int.reduceEq, List.contains_cons, Nat.reduceBEq, Bool.or_false, Bool.or_true, Bool.true_or, Bool.false_or, Res.toI, itemsD, e]
  · rw [List.length_map] at hy; omega
end L_k13

set_option Elab.async false
set_option linter.all false
set_option maxRecDepth 100000
set_option maxHeartbeats 2000000
namespace L_k13
open PySem PySem.SeqAt PySem.Spec PyProof.Rows L2 DL
theorem pick_pad (w : Wd) : ∃ n w', F__law_pick [.pen, .lst [.str "", .str " ", .str "   "]] w = .ok (.str (SX.S (List.replicate n 32))) w' ∧ n ≤ 3 := by
  obtain ⟨_, w', e, n, rfl, h⟩ := pick_in w (l := [.str "", .str " ", .str "   "]) (P := fun d => ∃ n, d = .str (SX.S (List.replicate n 32)) ∧ n ≤ 3) (by decide) (by decide) (by
    intro d hd
    simp only [List.mem_cons, List.not_mem_nil, or_false] at hd
    rcases hd with rfl | rfl | rfl
    · exact ⟨0, by congr 1, by decide⟩
    · exact ⟨1, by congr 1, by decide⟩
    · exact ⟨3, by congr 1, by decide⟩)
  exact ⟨n, w', e, h⟩
abbrev sC : SM := (sSet 5 [] (dCall F__law_pick (aCons (dVar 0) (aCons (dLst (aCons (dC (.str "")) (aCons (dC (.str " ")) (aCons (dC (.str "   ")) aNil)))) aNil))))
abbrev sD' : SM := (sFor [4] (iSeq (dVar 4)) (gN 6) lF)
abbrev sE : SM := (sApp 1 [5] (dIf (dBin eqD (dCall F__law_draw (aCons (dVar 0) (aCons (dC (.int 2)) aNil))) (dC (.int 0))) (dVar 5) (dM rstripD (dObs 5) (dC (.str " ")))))
abbrev sF : SM := (sIf (dBin neD (dObs 4) (dLst aNil)) (sApp 2 [] (dTup (aCons (dBin plusD (dObs 3) (dC (.int 1))) (aCons (dB tupleD (aCons (dObs 4) aNil)) aNil)))) sNext)
abbrev bF : SM := (sSeq (sSetO 4 [] cA) (sSeq (sSetO 4 [] cB) (sSeq sC (sSeq sD' (sSeq sE sF)))))
theorem rel4 (a b c d e : D) (x : Slot) : rel (these [4]) [some (.pen, false), some (a, true), some (b, true), some (c, false), some (d, true), some (e, false), x, none] = [some (.pen, false), some (a, true), some (b, true), some (c, false), some (d, false), some (e, false), x, none] := by
  rcases x with _ | ⟨d2, o⟩
  · rfl
  · cases o <;> rfl
theorem stepE (ls : List (List Nat)) (b c d : D) (L : List Nat) (y : Slot) (w : Wd) (hn : 10 ∉ L) (hz : L.length ≤ 10000) (hl : (wsD ls).length < 16777216) : ∃ l w', sE [some (.pen, false), some (.lst (wsD ls), true), some (b, true), some (c, false), some (d, false), some (.str (SX.S L), false), y, none] w =
    .nx [some (.pen, false), some (.lst (wsD (ls ++ [l])), true), some (b, true), some (c, false), some (d, false), some (.str (SX.S L), false), y, none] w' ∧ W l = W L ∧ 10 ∉ l ∧ l.length ≤ L.length := by
  obtain ⟨j, w1, e1, j0, j1⟩ := draws 2 w (by decide) (by decide)
  by_cases hj : j = 0
  · subst hj
    refine ⟨L, w1, ?_, rfl, hn, Nat.le_refl _⟩
    unfold wsD at hl ⊢
    rw [List.map_append]
    cases y <;> simp only [runD, startE, SR.res, sSeq, SR.seq, sIf, Res.en, sRet, sSet, sSetO, sSetF, dVar, dObs, dC, dBin, dUn, Res.bind, Res.of, dNot, dAnd, dOr, dIf, dChain, dB, ResI.toR, aNil, aCons, ResI.mapA, dCall, dTup, dLst, sNext, rel, List.mapIdx_cons, List.mapIdx_nil, List.map_cons, List.map_nil, List.cons_append, List.nil_append, List.append_nil, List.length_cons, List.length_nil, List.replicate_succ, List.replicate_zero, List.getElem?_cons_zero, List.getElem?_cons_succ, all_, these, List.set_cons_zero, List.set_cons_succ, Bool.not_true, Bool.not_false, Bool.and_false, Bool.and_true, Bool.false_and, Bool.true_and, Nat.reduceAdd, Nat.reduceSub, dM, leD, gtD, ltD, isiD, List.contains_nil, Int.reduceLE, Int.reduceLT, decide_true, decide_false, Option.map_some, if_true, if_false, Nat.zero_le, sizeLine_eq, Nat.reduceLeDiff, Int.reduceEq, List.contains_cons, Nat.reduceBEq, Bool.or_false, Bool.or_true, Bool.true_or, Bool.false_or, sE, sApp, ownL, e1, eqD_int, hl]
  · obtain ⟨n, en⟩ := rstrip_eq (SX.S L)
    have en : L = TL.tl (Txt.rstripChars (SX.S L) " ") ++ List.replicate n 32 := en
    have er : rstripD (.str (SX.S L)) (.str " ") = some (.str (SX.S (TL.tl (Txt.rstripChars (SX.S L) " ")))) := by
      rw [SX.S_tl]
      exact if_pos (show (SX.S L).length ≤ 16777216 by rw [SX.S_len]; omega)
    refine ⟨TL.tl (Txt.rstripChars (SX.S L) " "), w1, ?_, ?_, ?_, ?_⟩
    · unfold wsD at hl ⊢
      rw [List.map_append]
      cases y <;> simp only [runD, startE, SR.res, sSeq, SR.seq, sIf, Res.en, sRet, sSet, sSetO, sSetF, dVar, dObs, dC, dBin, dUn, Res.bind, Res.of, dNot, dAnd, dOr, dIf, dChain, dB, ResI.toR, aNil, aCons, ResI.mapA, dCall, dTup, dLst, sNext, rel, List.mapIdx_cons, List.mapIdx_nil, List.map_cons, List.map_nil, List.cons_append, List.nil_append, List.append_nil, List.length_cons, List.length_nil, List.replicate_succ, List.replicate_zero, List.getElem?_cons_zero, List.getElem?_cons_succ, all_, these, List.set_cons_zero, List.set_cons_succ, Bool.not_true, Bool.not_false, Bool.and_false, Bool.and_true, Bool.false_and, Bool.true_and, Nat.reduceAdd, Nat.reduceSub, dM, leD, gtD, ltD, isiD, List.contains_nil, Int.reduceLE, Int.reduceLT, decide_true, decide_false, Option.map_some, if_true, if_false, Nat.zero_le, sizeLine_eq, Nat.reduceLeDiff, Int.reduceEq, List.contains_cons, Nat.reduceBEq, Bool.or_false, Bool.or_true, Bool.true_or, Bool.false_or, sE, sApp, ownL, e1, eqD_int, hj, er, hl]
    · have := W_end (TL.tl (Txt.rstripChars (SX.S L) " ")) n
      rw [← en] at this
      exact this.symm
    · intro z; exact hn (by rw [en]; exact List.mem_append_left _ z)
    · have := congrArg List.length en
      rw [List.length_append] at this; omega
theorem stepF (ls : D) (due : List D) (i : Int) (ws : List (List Nat)) (e : D) (y : Slot) (w : Wd) (hl : due.length < 16777216) : sF [some (.pen, false), some (ls, true), some (.lst due, true), some (.int i, false), some (.lst (wsD ws), false), some (e, false), y, none] w =
    .nx [some (.pen, false), some (ls, true), some (.lst (due ++ if ws = [] then [] else [.tup [.int (i + 1), .tup (wsD ws)]]), true), some (.int i, false), some (.lst (wsD ws), false), some (e, false), y, none] w := by
  have hp : D.pls (wsD ws) = true := pls_of fun d hd => by
    obtain ⟨p, _, rfl⟩ := List.mem_map.mp hd
    rfl
  have e1 := neD_nil hp
  have e4 : tupleD [.lst (wsD ws)] = some (.tup (wsD ws)) := rfl
  by_cases hws : ws = []
  · subst hws
    cases y <;> simp only [runD, startE, SR.res, sSeq, SR.seq, sIf, Res.en, sRet, sSet, sSetO, sSetF, dVar, dObs, dC, dBin, dUn, Res.bind, Res.of, dNot, dAnd, dOr, dIf, dChain, dB, ResI.toR, aNil, aCons, ResI.mapA, dCall, dTup, dLst, sNext, rel, List.mapIdx_cons, List.mapIdx_nil, List.map_cons, List.map_nil, List.cons_append, List.nil_append, List.append_nil, List.length_cons, List.length_nil, List.replicate_succ, List.replicate_zero, List.getElem?_cons_zero, List.getElem?_cons_succ, all_, these, List.set_cons_zero, List.set_cons_succ, Bool.not_true, Bool.not_false, Bool.and_false, Bool.and_true, Bool.false_and, Bool.true_and, Nat.reduceAdd, Nat.reduceSub, dM, leD, gtD, ltD, isiD, List.contains_nil, Int.reduceLE, Int.reduceLT, decide_true, decide_false, Option.map_some, if_true, if_false, Nat.zero_le, sizeLine_eq, Nat.reduceLeDiff, Int.reduceEq, List.contains_cons, Nat.reduceBEq, Bool.or_false, Bool.or_true, Bool.true_or, Bool.false_or, sF, e1, List.isEmpty_nil] <;> rfl
  · have e5 : (wsD ws).isEmpty = false := by
      cases ws with
      | nil => exact absurd rfl hws
      | cons _ _ => rfl
    rw [if_neg hws]
    generalize wsD ws = X at *
    cases y <;> simp only [runD, startE, SR.res, sSeq, SR.seq, sIf, Res.en, sRet, sSet, sSetO, sSetF, dVar, dObs, dC, dBin, dUn, Res.bind, Res.of, dNot, dAnd, dOr, dIf, dChain, dB, ResI.toR, aNil, aCons, ResI.mapA, dCall, dTup, dLst, sNext, rel, List.mapIdx_cons, List.mapIdx_nil, List.map_cons, List.map_nil, List.cons_append, List.nil_append, List.append_nil, List.length_cons, List.length_nil, List.replicate_succ, List.replicate_zero, List.getElem?_cons_zero, List.getElem?_cons_succ, all_, these, List.set_cons_zero, List.set_cons_succ, Bool.not_true, Bool.not_false, Bool.and_false, Bool.and_true, Bool.false_and, Bool.true_and, Nat.reduceAdd, Nat.reduceSub, dM, leD, gtD, ltD, isiD, List.contains_nil, Int.reduceLE, Int.reduceLT, decide_true, decide_false, Option.map_some, if_true, if_false, Nat.zero_le, sizeLine_eq, Nat.reduceLeDiff, Int.reduceEq, List.contains_cons, Nat.reduceBEq, Bool.or_false, Bool.or_true, Bool.true_or, Bool.false_or, sF, e1, e5, sApp, ownL, plusD_i, e4, hl]
theorem bstep (ls : List (List Nat)) (i : Int) (due : List D) (x4 x5 x6 : Slot) (w : Wd) (hl : ls.length ≤ 10) (hd : due.length ≤ 10) : ∃ l y4 y5 y6 w', bF [some (.pen, false), some (.lst (wsD ls), true), some (.lst due, true), some (.int i, false), x4, x5, x6, none] w =
    .nx [some (.pen, false), some (.lst (wsD (ls ++ [l])), true), some (.lst (due ++ if W l = [] then [] else [.tup [.int (i + 1), .tup (wD l)]]), true), some (.int i, false), y4, y5, y6, none] w' ∧ 10 ∉ l ∧ l.length ≤ 1000 := by
  obtain ⟨ds, w1, e1, d1, d2⟩ := compA (some (.lst (wsD ls), true)) (some (.lst due, true)) (some (.int i, false)) x4 x5 x6 w
  obtain ⟨ws, w2, e2, s1, s2⟩ := compB (some (.lst (wsD ls), true)) (some (.lst due, true)) (some (.int i, false)) x5 x6 ds true w1 d1 d2
  obtain ⟨n, w3, e3, n3⟩ := pick_pad w2
  obtain ⟨L, y6, w4, e4, q1, q2, q3⟩ := lloop (wsD ls) due i (wsD ws) none ws [] (List.replicate n 32) x6 w3 s2 (fun z => W_sp n z) (by
    intro z
    have := (List.mem_replicate.mp z).2
    omega) (by rw [List.length_replicate]; omega)
  rw [List.length_replicate] at q3
  obtain ⟨l, w5, e5, r1, r2, r3⟩ := stepE ls (.lst due) (.int i) (.lst (wsD ws)) L y6 w4 q2 (by omega) (by rw [List.length_map]; omega)
  have hW : W l = ws := by
    have := q1 []
    rw [List.append_nil, W_nil, List.append_nil, List.nil_append] at this
    rw [r1]; exact this
  have e6 := stepF (.lst (wsD (ls ++ [l]))) due i ws (.str (SX.S L)) y6 w5 (by omega)
  refine ⟨l, some (.lst (wsD ws), false), some (.str (SX.S L), false), y6, w5, ?_, r2, by omega⟩
  unfold bF
  rw [seq_nx (setO_nx e1), show List.set [some (D.pen, false), some (D.lst (wsD ls), true), some (D.lst due, true), some (D.int i, false), x4, x5, x6, none] 4 (some (D.lst ds, true)) = [some (D.pen, false), some (D.lst (wsD ls), true), some (D.lst due, true), some (D.int i, false), some (D.lst ds, true), x5, x6, none] from rfl]
  rw [seq_nx (setO_nx e2), show List.set [some (D.pen, false), some (D.lst (wsD ls), true), some (D.lst due, true), some (D.int i, false), some (D.lst ds, true), x5, x6, none] 4 (some (D.lst (wsD ws), true)) = [some (D.pen, false), some (D.lst (wsD ls), true), some (D.lst due, true), some (D.int i, false), some (D.lst (wsD ws), true), x5, x6, none] from rfl]
  rw [seq_nx (r1 := [some (D.pen, false), some (D.lst (wsD ls), true), some (D.lst due, true), some (D.int i, false), some (D.lst (wsD ws), true), some (D.str (SX.S (List.replicate n 32)), false), x6, none]) (w1 := w3) (set_nx (by simp only [runD, startE, SR.res, sSeq, SR.seq, sIf, Res.en, sRet, sSet, sSetO, sSetF, dVar, dObs, dC, dBin, dUn, Res.bind, Res.of, dNot, dAnd, dOr, dIf, dChain, dB, ResI.toR, aNil, aCons, ResI.mapA, dCall, dTup, dLst, sNext, rel, List.mapIdx_cons, List.mapIdx_nil, List.map_cons, List.map_nil, List.cons_append, List.nil_append, List.append_nil, List.length_cons, List.length_nil, List.replicate_succ, List.replicate_zero, List.getElem?_cons_zero, List.getElem?_cons_succ, all_, these, List.set_cons_zero, List.set_cons_succ, Bool.not_true, Bool.not_false, Bool.and_false, Bool.and_true, Bool.false_and, Bool.true_and, Nat.reduceAdd, Nat.reduceSub, dM, leD, gtD, ltD, isiD, List.contains_nil, Int.reduceLE, Int.reduceLT, decide_true, decide_false, Option.map_some, if_true, if_false, Nat.zero_le, sizeLine_eq, Nat.reduceLeDiff, Int.reduceEq, List.contains_cons, Nat.reduceBEq, Bool.or_false, Bool.or_true, Bool.true_or, Bool.false_or, e3]))]
  rw [seq_nx (r1 := [some (D.pen, false), some (D.lst (wsD ls), true), some (D.lst due, true), some (D.int i, false), some (D.lst (wsD ws), false), some (D.str (SX.S L), false), y6, none]) (w1 := w4) (by
    unfold sD' sFor
    rw [rel4]
    exact e4)]
  rw [seq_nx e5, e6]
  unfold wD
  rw [hW]
end L_k13

set_option Elab.async false
set_option linter.all false
set_option maxRecDepth 100000
set_option maxHeartbeats 2000000
namespace L_k13
open PySem PySem.SeqAt PySem.Spec PyProof.Rows L2 DL
def Inv (j : Nat) (r : DL.Env) : Prop := ∃ (ls : List (List Nat)) (y3 y4 y5 y6 : Slot), ls.length = j ∧ r = [some (.pen, false), some (.lst (wsD ls), true), some (.lst (dueL 0 ls), true), y3, y4, y5, y6, none] ∧ ∀ l ∈ ls, 10 ∉ l ∧ l.length ≤ 1000
theorem oloop (m : Nat) (hm : m ≤ 8) (w : Wd) : ∃ r2 w2, forL (gN 3) bF (rangeL 0 m) [some (.pen, false), some (.lst [], true), some (.lst [], true), none, none, none, none, none] w = .nx r2 w2 ∧ Inv m r2 := by
  have hl : (rangeL 0 m).length = m := by unfold rangeL; rw [List.length_map, List.length_range]
  obtain ⟨r2, w2, e, h⟩ := forL_inv (g := gN 3) (f := bF) Inv (l := rangeL 0 m) (i := 0) (r := [some (.pen, false), some (.lst [], true), some (.lst [], true), none, none, none, none, none]) (w := w) ⟨[], none, none, none, none, rfl, rfl, by simp⟩ (by
    intro j d r w hj ⟨ls, y3, y4, y5, y6, e1, e2, e3⟩
    rw [Nat.zero_add] at e1
    have hjm : j < m := by
      have := (List.getElem?_eq_some_iff.mp hj).1
      omega
    have hd : d = .int (0 + (j : Int)) := by
      unfold rangeL at hj
      rw [List.getElem?_map, List.getElem?_range hjm] at hj
      exact (Option.some.inj hj).symm
    subst hd e2
    have hdl := dueL_len 0 ls
    obtain ⟨l, z4, z5, z6, w', e4, q1, q2⟩ := bstep ls (0 + (j : Int)) (dueL 0 ls) y4 y5 y6 w (by omega) (by omega)
    refine ⟨_, rfl, _, w', e4, ls ++ [l], some (.int (0 + (j : Int)), false), z4, z5, z6, by rw [List.length_append, List.length_singleton]; omega, ?_, ?_⟩
    · rw [dueL_snoc, e1, Nat.zero_add, Int.zero_add]
    · intro x hx
      rcases List.mem_append.mp hx with hx | hx
      · exact e3 x hx
      · rw [List.mem_singleton.mp hx]; exact ⟨q1, q2⟩)
  rw [hl, Nat.zero_add] at h
  exact ⟨r2, w2, e, h⟩
theorem spl_nl (J : List Nat) : ∀ k, TL.spl [10] 0 [] (J ++ List.replicate k 10) = TL.spl [10] 0 [] J ++ List.replicate k []
  | 0 => by rw [List.replicate_zero, List.append_nil, List.replicate_zero, List.append_nil]
  | k + 1 => by
    rw [List.replicate_succ', ← List.append_assoc, spl_app, spl_nl J k, List.replicate_succ' (n := k), List.append_assoc]; rfl
theorem dueL_empty (a : List (List Nat)) : ∀ k, dueL 0 (a ++ List.replicate k []) = dueL 0 a
  | 0 => by rw [List.replicate_zero, List.append_nil]
  | k + 1 => by
    rw [List.replicate_succ', ← List.append_assoc, dueL_snoc, if_pos W_nil, List.append_nil, dueL_empty a k]
theorem joinL_len10 : ∀ {l : List (List Nat)} {k : Nat}, (∀ p ∈ l, p.length ≤ k) → (TL.joinL [10] l).length ≤ l.length * (k + 1)
  | [], k, h => by simp [TL.joinL]
  | [p], k, h => by have := h p (List.mem_singleton_self _); simp [TL.joinL]; omega
  | p :: q :: r, k, h => by
    have e : TL.joinL [10] (p :: q :: r) = p ++ ([10] ++ TL.joinL [10] (q :: r)) := by simp [TL.joinL]
    have := joinL_len10 (l := q :: r) (k := k) fun x hx => h x (List.mem_cons_of_mem _ hx)
    have h1 := h p List.mem_cons_self
    rw [e, List.length_append, List.length_append, List.length_cons (as := q :: r), Nat.succ_mul]
    simp only [List.length_singleton]
    omega
theorem sum_le : ∀ {ls : List (List Nat)} {k : Nat}, (∀ l ∈ ls, l.length ≤ k) → ((ls.map SX.S).map (·.length)).sum ≤ ls.length * k
  | [], k, _ => by simp
  | l :: ls, k, h => by
    have := sum_le (ls := ls) (k := k) fun x hx => h x (List.mem_cons_of_mem _ hx)
    have h1 := h l List.mem_cons_self
    rw [List.map_cons, List.map_cons, List.sum_cons, SX.S_len, List.length_cons, Nat.succ_mul]
    omega
theorem join_nl {ls : List (List Nat)} {k : Nat} (h : ∀ l ∈ ls, l.length ≤ k) (hz : ls.length * (k + 1) ≤ 16777216) (c : Nat) : joinD (.str ⟨#[c]⟩) (.lst (wsD ls)) = some (.str (SX.S (TL.joinL [c] ls))) := by
  have := sum_le h
  have e : wsD ls = (ls.map SX.S).map .str := by unfold wsD; rw [List.map_map]; rfl
  rw [e, joinD_strs (by
    rw [List.length_map]
    show _ + ls.length * 1 ≤ _
    rw [Nat.mul_succ] at hz
    omega)]
  have := SX.join_S [c] ls
  congr 2
theorem pick_end (w : Wd) : ∃ k w', F__law_pick [.pen, .lst [.str "", .str "\n", .str "\n\n"]] w = .ok (.str (SX.S (List.replicate k 10))) w' ∧ k ≤ 2 := by
  obtain ⟨_, w', e, n, rfl, h⟩ := pick_in w (l := [.str "", .str "\n", .str "\n\n"]) (P := fun d => ∃ n, d = .str (SX.S (List.replicate n 10)) ∧ n ≤ 2) (by decide) (by decide) (by
    intro d hd
    simp only [List.mem_cons, List.not_mem_nil, or_false] at hd
    rcases hd with rfl | rfl | rfl
    · exact ⟨0, by congr 1, by decide⟩
    · exact ⟨1, by congr 1, by decide⟩
    · exact ⟨2, by congr 1, by decide⟩)
  exact ⟨n, w', e, h⟩
theorem drawn (w : Wd) : ∃ t w', F__law_drawn_text [.pen] w = .ok (.tup [.str (SX.S t), .tup (dueL 0 (TL.spl [10] 0 [] t))]) w' ∧ t.length ≤ 100000 := by
  obtain ⟨m, w1, e1, m0, m1⟩ := draws 8 w (by decide) (by decide)
  obtain ⟨r2, w2, e2, ls, y3, y4, y5, y6, hl, rfl, hls⟩ := oloop m.toNat (by omega) w1
  obtain ⟨k, w3, e3, hk⟩ := pick_end w2
  have hj := join_nl (ls := ls) (k := 1000) (fun l h => (hls l h).2) (by omega) 10
  rw [← nl_eq] at hj
  have hlen := joinL_len10 (l := ls) (k := 1000) fun l h => (hls l h).2
  have hcat := catS (TL.joinL [10] ls) (List.replicate k 10) (by rw [List.length_replicate]; omega)
  have hdue : dueL 0 (TL.spl [10] 0 [] (TL.joinL [10] ls ++ List.replicate k 10)) = dueL 0 ls := by
    rw [spl_nl, dueL_empty]
    by_cases hn : ls = []
    · subst hn; rfl
    · rw [TL.spl_join hn fun p hp => (hls p hp).1]
  refine ⟨TL.joinL [10] ls ++ List.replicate k 10, w3, ?_, by rw [List.length_append, List.length_replicate]; omega⟩
  rw [hdue]
  have hr := rng (j := m) (n := 8) m0 (by omega) (by decide)
  unfold F__law_drawn_text runD g__law_drawn_text
  rw [seq_nx (r1 := [some (.pen, false), some (.lst [], true), some (.lst [], true), none, none, none, none, none]) (w1 := w) (by simp only [runD, startE, SR.res, sSeq, SR.seq, sIf, Res.en, sRet, sSet, sSetO, sSetF, dVar, dObs, dC, dBin, dUn, Res.bind, Res.of, dNot, dAnd, dOr, dIf, dChain, dB, ResI.toR, aNil, aCons, ResI.mapA, dCall, dTup, dLst, sNext, rel, List.mapIdx_cons, List.mapIdx_nil, List.map_cons, List.map_nil, List.cons_append, List.nil_append, List.append_nil, List.length_cons, List.length_nil, List.replicate_succ, List.replicate_zero, List.getElem?_cons_zero, List.getElem?_cons_succ, all_, these, List.set_cons_zero, List.set_cons_succ, Bool.not_true, Bool.not_false, Bool.and_false, Bool.and_true, Bool.false_and, Bool.true_and, Nat.reduceAdd, Nat.reduceSub, dM, leD, gtD, ltD, isiD, List.contains_nil, Int.reduceLE, Int.reduceLT, decide_true, decide_false, Option.map_some, if_true, if_false, Nat.zero_le, sizeLine_eq, Nat.reduceLeDiff, Int.reduceEq, List.contains_cons, Nat.reduceBEq, Bool.or_false, Bool.or_true, Bool.true_or, Bool.false_or, sPar])]
  rw [seq_nx (r1 := [some (.pen, false), some (.lst (wsD ls), true), some (.lst (dueL 0 ls), true), y3, y4, y5, y6, none]) (w1 := w2) (by
    have hf : iRange1 (aCons (dCall F__law_draw (aCons (dVar 0) (aCons (dC (.int 8)) aNil))) aNil) [some (.pen, false), some (.lst [], true), some (.lst [], true), none, none, none, none, none] w = .ok (rangeL 0 m.toNat) w1 := by
      unfold iRange1
      simp only [runD, startE, SR.res, sSeq, SR.seq, sIf, Res.en, sRet, sSet, sSetO, sSetF, dVar, dObs, dC, dBin, dUn, Res.bind, Res.of, dNot, dAnd, dOr, dIf, dChain, dB, ResI.toR, aNil, aCons, ResI.mapA, dCall, dTup, dLst, sNext, rel, List.mapIdx_cons, List.mapIdx_nil, List.map_cons, List.map_nil, List.cons_append, List.nil_append, List.append_nil, List.length_cons, List.length_nil, List.replicate_succ, List.replicate_zero, List.getElem?_cons_zero, List.getElem?_cons_succ, all_, these, List.set_cons_zero, List.set_cons_succ, Bool.not_true, Bool.not_false, Bool.and_false, Bool.and_true, Bool.false_and, Bool.true_and, Nat.reduceAdd, Nat.reduceSub, dM, leD, gtD, ltD, isiD, List.contains_nil, Int.reduceLE, Int.reduceLT, decide_true, decide_false, Option.map_some, if_true, if_false, Nat.zero_le, sizeLine_eq, Nat.reduceLeDiff, Int.reduceEq, List.contains_cons, Nat.reduceBEq, Bool.or_false, Bool.or_true, Bool.true_or, Bool.false_or, e1]
      rw [if_pos hr.1]
    unfold sFor
    rw [relNil, hf]
    exact e2)]
  have e4 : tupleD [.lst (dueL 0 ls)] = some (.tup (dueL 0 ls)) := rfl
  generalize wsD ls = X at *
  generalize dueL 0 ls = Y at *
  simp only [runD, startE, SR.res, sSeq, SR.seq, sIf, Res.en, sRet, sSet, sSetO, sSetF, dVar, dObs, dC, dBin, dUn, Res.bind, Res.of, dNot, dAnd, dOr, dIf, dChain, dB, ResI.toR, aNil, aCons, ResI.mapA, dCall, dTup, dLst, sNext, rel, List.mapIdx_cons, List.mapIdx_nil, List.map_cons, List.map_nil, List.cons_append, List.nil_append, List.append_nil, List.length_cons, List.length_nil, List.replicate_succ, List.replicate_zero, List.getElem?_cons_zero, List.getElem?_cons_succ, all_, these, List.set_cons_zero, List.set_cons_succ, Bool.not_true, Bool.not_false, Bool.and_false, Bool.and_true, Bool.false_and, Bool.true_and, Nat.reduceAdd, Nat.reduceSub, dM, leD, gtD, ltD, isiD, List.contains_nil, Int.reduceLE, Int.reduceLT, decide_true, decide_false, Option.map_some, if_true, if_false, Nat.zero_le, sizeLine_eq, Nat.reduceLeDiff, Int.reduceEq, List.contains_cons, Nat.reduceBEq, Bool.or_false, Bool.or_true, Bool.true_or, Bool.false_or, hj, e3, hcat, e4]
end L_k13

set_option Elab.async false
set_option linter.all false
set_option maxRecDepth 100000
set_option maxHeartbeats 2000000
namespace L_k13
open PySem PySem.SeqAt PySem.Spec PyProof.Rows L2 DL
/-! ### parts -/
theorem spl_sub (k : Nat) : ∀ (a acc : List Nat), ∀ l ∈ TL.spl [k] 0 acc a, (∀ c ∈ l, c ∈ acc ∨ c ∈ a) ∧ (k ∉ acc → k ∉ l)
  | [], acc, l, h => by
    rw [TL.spl_nil] at h
    rw [List.mem_singleton.mp h]
    exact ⟨fun c hc => .inl hc, fun h => h⟩
  | c :: a, acc, l, h => by
    by_cases hc : c = k
    · rw [TL.spl_hit (by rw [pre1]; simpa using hc)] at h
      rcases List.mem_cons.mp h with rfl | h
      · exact ⟨fun c hc => .inl hc, fun h => h⟩
      · have := spl_sub k a [] l h
        exact ⟨fun x hx => (this.1 x hx).elim (fun z => by cases z) fun z => .inr (List.mem_cons_of_mem _ z), fun _ => this.2 (by simp)⟩
    · rw [TL.spl_miss (by rw [pre1]; simpa using hc)] at h
      have := spl_sub k a (acc ++ [c]) l h
      refine ⟨fun x hx => ?_, fun hk => this.2 fun z => ?_⟩
      · rcases this.1 x hx with z | z
        · rcases List.mem_append.mp z with z | z
          · exact .inl z
          · exact .inr (by rw [List.mem_singleton.mp z]; exact List.mem_cons_self)
        · exact .inr (List.mem_cons_of_mem _ z)
      · rcases List.mem_append.mp z with z | z
        · exact hk z
        · exact hc (List.mem_singleton.mp z).symm
def wt (ls : List (List Nat)) : Nat := (ls.map fun l => l.length + 1).sum
theorem wt_cons (l : List Nat) (ls : List (List Nat)) : wt (l :: ls) = l.length + 1 + wt ls := by unfold wt; rw [List.map_cons, List.sum_cons]
theorem spl_wt (k : Nat) : ∀ (a acc : List Nat), wt (TL.spl [k] 0 acc a) = acc.length + a.length + 1
  | [], acc => by rw [TL.spl_nil, wt_cons]; rfl
  | c :: a, acc => by
    by_cases hc : c = k
    · rw [TL.spl_hit (by rw [pre1]; simpa using hc), wt_cons]
      show acc.length + 1 + wt (TL.spl [k] 0 [] a) = _
      rw [spl_wt k a []]; simp; omega
    · rw [TL.spl_miss (by rw [pre1]; simpa using hc), spl_wt k a]; simp; omega
theorem wt_filter (p : List Nat → Bool) : ∀ ls : List (List Nat), wt (ls.filter p) ≤ wt ls
  | [] => Nat.le_refl _
  | l :: ls => by
    have := wt_filter p ls
    rw [List.filter_cons, wt_cons]
    split
    · rw [wt_cons]; omega
    · omega
theorem W_wt (l : List Nat) : wt (W l) ≤ l.length + 1 := by
  have := spl_wt 32 l []
  have h := wt_filter (· ≠ []) (TL.spl [32] 0 [] l)
  unfold W
  simp at this
  omega
theorem joinL_wt (c : Nat) : ∀ ls : List (List Nat), (TL.joinL [c] ls).length ≤ wt ls
  | [] => by simp [TL.joinL, wt]
  | [p] => by simp [TL.joinL, wt]
  | p :: q :: r => by
    have e : TL.joinL [c] (p :: q :: r) = p ++ ([c] ++ TL.joinL [c] (q :: r)) := by simp [TL.joinL]
    have := joinL_wt c (q :: r)
    rw [e, List.length_append, List.length_append, wt_cons]
    simp only [List.length_singleton]
    omega
theorem sum_wt (ls : List (List Nat)) : ((ls.map SX.S).map (·.length)).sum + ls.length = wt ls := by
  induction ls with
  | nil => rfl
  | cons l ls ih =>
    rw [wt_cons, ← ih, List.map_cons, List.map_cons, List.sum_cons, SX.S_len, List.length_cons]; omega
/-- a row's words -/
def Ok3 (p : List Nat) : Prop := p ≠ [] ∧ 32 ∉ p ∧ 10 ∉ p
theorem W_ok {l : List Nat} (h : 10 ∉ l) : ∀ p ∈ W l, Ok3 p := by
  intro p hp
  unfold W at hp
  obtain ⟨h1, h2⟩ := List.mem_filter.mp hp
  have := spl_sub 32 l [] p h1
  refine ⟨of_decide_eq_true h2, this.2 (by simp), fun z => ?_⟩
  rcases this.1 10 z with z | z
  · cases z
  · exact h z
/-- the words of words joined by spaces -/
theorem W_join : ∀ {ws : List (List Nat)}, (∀ p ∈ ws, Ok3 p) → W (TL.joinL [32] ws) = ws
  | [], _ => rfl
  | [p], h => by
    have h1 := h p (List.mem_singleton_self _)
    show W p = [p]
    exact W_free h1.2.1 h1.1
  | p :: q :: r, h => by
    have h1 := h p List.mem_cons_self
    have e : TL.joinL [32] (p :: q :: r) = p ++ 32 :: TL.joinL [32] (q :: r) := by simp [TL.joinL]
    rw [e, W_app, W_free h1.2.1 h1.1, W_join fun x hx => h x (List.mem_cons_of_mem _ hx)]; rfl
theorem nl_join {ws : List (List Nat)} (h : ∀ p ∈ ws, Ok3 p) : 10 ∉ TL.joinL [32] ws := by
  induction ws with
  | nil => intro z; simp [TL.joinL] at z
  | cons p ws ih =>
    cases ws with
    | nil => exact (h p List.mem_cons_self).2.2
    | cons q r =>
      have e : TL.joinL [32] (p :: q :: r) = p ++ 32 :: TL.joinL [32] (q :: r) := by simp [TL.joinL]
      rw [e]
      intro z
      rcases List.mem_append.mp z with z | z
      · exact (h p List.mem_cons_self).2.2 z
      · rcases List.mem_cons.mp z with z | z
        · cases z
        · exact ih (fun x hx => h x (List.mem_cons_of_mem _ hx)) z
/-- the text of rows -/
def txt (rows : List (List (List Nat))) : List Nat := (rows.map fun ws => TL.joinL [32] ws ++ [10]).flatten
theorem spl_txt : ∀ {rows : List (List (List Nat))}, (∀ ws ∈ rows, ∀ p ∈ ws, Ok3 p) → TL.spl [10] 0 [] (txt rows) = rows.map (TL.joinL [32]) ++ [[]]
  | [], _ => by show TL.spl [10] 0 [] [] = _; rw [TL.spl_nil]; rfl
  | ws :: rows, h => by
    have e : txt (ws :: rows) = TL.joinL [32] ws ++ 10 :: txt rows := by
      show (TL.joinL [32] ws ++ [10]) ++ txt rows = _
      rw [List.append_assoc]; rfl
    rw [e, spl_app, spl_free 10 _ [] (nl_join (h ws List.mem_cons_self)), spl_txt fun x hx => h x (List.mem_cons_of_mem _ hx)]; rfl
def numb : Nat → List (List (List Nat)) → List D
  | _, [] => []
  | i, ws :: r => .tup [.int ((i : Int) + 1), .tup (wsD ws)] :: numb (i + 1) r
theorem dueL_txt : ∀ {rows : List (List (List Nat))} (i : Nat), (∀ ws ∈ rows, ws ≠ [] ∧ ∀ p ∈ ws, Ok3 p) → dueL i (rows.map (TL.joinL [32]) ++ [[]]) = numb i rows
  | [], i, _ => by
    rw [List.map_nil, List.nil_append, dueL_cons, if_pos W_nil]; rfl
  | ws :: rows, i, h => by
    have h1 := h ws List.mem_cons_self
    have e : W (TL.joinL [32] ws) = ws := W_join h1.2
    rw [List.map_cons, List.cons_append, dueL_cons, e, if_neg h1.1, dueL_txt (i + 1) fun x hx => h x (List.mem_cons_of_mem _ hx)]
    unfold wD
    rw [e]; rfl
/-- the rows of lines -/
def rowsOf (ls : List (List Nat)) : List (List (List Nat)) := (ls.map W).filter (· ≠ [])
theorem rows_ok {t : List Nat} : ∀ ws ∈ rowsOf (TL.spl [10] 0 [] t), ws ≠ [] ∧ ∀ p ∈ ws, Ok3 p := by
  intro ws h
  obtain ⟨h1, h2⟩ := List.mem_filter.mp h
  obtain ⟨l, hl, rfl⟩ := List.mem_map.mp h1
  exact ⟨of_decide_eq_true h2, W_ok ((spl_sub 10 t [] l hl).2 (by simp))⟩
/-- what the second part of each pair is -/
def sec : D → List D
  | .tup [_, .tup l] => l
  | _ => []
theorem due_sec : ∀ (i : Nat) (ls : List (List Nat)), (dueL i ls).map sec = (rowsOf ls).map wsD
  | _, [] => rfl
  | i, l :: ls => by
    rw [dueL_cons, List.map_append, due_sec (i + 1) ls]
    unfold rowsOf
    rw [List.map_cons, List.filter_cons]
    by_cases h : W l = []
    · rw [if_pos h, if_neg (by simp [h])]; rfl
    · rw [if_neg h, if_pos (by simp [h])]; rfl
theorem due_form : ∀ (i : Nat) (ls : List (List Nat)), ∀ d ∈ dueL i ls, ∃ n : Int, d = .tup [.int n, .tup (sec d)] ∧ D.pls (sec d) = true ∧ (∀ x ∈ sec d, x.py.depth = 0)
  | _, [], d, h => by cases h
  | i, l :: ls, d, h => by
    rw [dueL_cons] at h
    rcases List.mem_append.mp h with h | h
    · split at h
      · cases h
      · rw [List.mem_singleton.mp h]
        refine ⟨_, rfl, pls_of fun d hd => ?_, fun x hx => ?_⟩
        · obtain ⟨p, _, rfl⟩ := List.mem_map.mp hd
          rfl
        · obtain ⟨p, _, rfl⟩ := List.mem_map.mp hx
          rfl
    · exact due_form (i + 1) ls d h
def rwt (rows : List (List (List Nat))) : Nat := (rows.map fun ws => wt ws + 1).sum
theorem rwt_rows : ∀ ls : List (List Nat), rwt (rowsOf ls) ≤ 2 * wt ls
  | [] => Nat.le_refl _
  | l :: ls => by
    have := rwt_rows ls
    have h := W_wt l
    unfold rowsOf at this ⊢
    rw [List.map_cons, List.filter_cons, wt_cons]
    split
    · show rwt (W l :: _) ≤ _
      unfold rwt at this ⊢
      rw [List.map_cons, List.sum_cons]; omega
    · omega
end L_k13

set_option Elab.async false
set_option linter.all false
set_option maxRecDepth 100000
set_option maxHeartbeats 2000000
namespace L_k13
open PySem PySem.SeqAt PySem.Spec PyProof.Rows L2 DL
abbrev lineD (ws : List (List Nat)) : D := .str (SX.S (TL.joinL [32] ws ++ [10]))
theorem join_sp {d : D} {ws : List (List Nat)} (h : itemsD d = some (wsD ws)) (hz : wt ws ≤ 16777216) : joinD (.str " ") d = some (.str (SX.S (TL.joinL [32] ws))) := by
  have e : wsD ws = (ws.map SX.S).map .str := by unfold wsD; rw [List.map_map]; rfl
  have hs := sum_wt ws
  have hk : joinOk " " (ws.map SX.S) = true := by
    unfold joinOk
    rw [List.length_map]
    exact decide_eq_true (show ((ws.map SX.S).map (·.length)).sum + ws.length * 1 ≤ 16777216 by omega)
  unfold joinD
  simp only [h]
  rw [e, strsOf]
  simp only [hk, if_true]
  have := SX.join_S [32] ws
  congr 2
theorem line_of {d : D} {ws : List (List Nat)} (h : itemsD d = some (wsD ws)) (hz : wt ws < 16777216) : (joinD (.str " ") d).bind (fun x => plusD x (.str "\n")) = some (lineD ws) := by
  rw [join_sp h (by omega)]
  have := joinL_wt 32 ws
  exact catS (TL.joinL [32] ws) [10] (by simp; omega)
theorem rwt_mem : ∀ {rows : List (List (List Nat))} {ws}, ws ∈ rows → wt ws + 1 ≤ rwt rows
  | [], _, h => by cases h
  | a :: rows, ws, h => by
    unfold rwt
    rw [List.map_cons, List.sum_cons]
    rcases List.mem_cons.mp h with rfl | h
    · omega
    · have := rwt_mem h
      unfold rwt at this
      omega
theorem rwt_len : ∀ (rows : List (List (List Nat))), rows.length ≤ rwt rows
  | [] => Nat.le_refl _
  | a :: rows => by
    have := rwt_len rows
    unfold rwt at this ⊢
    rw [List.map_cons, List.sum_cons, List.length_cons]; omega
theorem rwt_sum : ∀ (rows : List (List (List Nat))), ((rows.map fun ws => SX.S (TL.joinL [32] ws ++ [10])).map (·.length)).sum ≤ rwt rows
  | [] => Nat.le_refl _
  | a :: rows => by
    have := rwt_sum rows
    have h := joinL_wt 32 a
    unfold rwt at this ⊢
    rw [List.map_cons, List.map_cons, List.sum_cons, List.map_cons, List.sum_cons, SX.S_len, List.length_append]
    simp only [List.length_singleton]
    omega
theorem join_lines {rows : List (List (List Nat))} (hz : rwt rows ≤ 16777216) : joinD (.str "") (.lst (rows.map lineD)) = some (.str (SX.S (txt rows))) := by
  have e : rows.map lineD = (rows.map fun ws => SX.S (TL.joinL [32] ws ++ [10])).map .str := by rw [List.map_map]; rfl
  have hs := rwt_sum rows
  rw [e, joinD_strs (by
    have ez : ("" : Str).length = 0 := rfl
    rw [ez]; omega)]
  have := SX.join_S [] (rows.map fun ws => TL.joinL [32] ws ++ [10])
  rw [List.map_map, joinL_flat] at this
  congr 2
/-- the lines' comprehension -/
theorem comp_lines {vs : List Nat} {g : GM} {fe : EM} {r : DL.Env} {w : Wd} {rows : List (List (List Nat))} (mk : List (List Nat) → D) (r1 : D → DL.Env) (hmk : ∀ ws, itemsD (mk ws) = some (wsD ws)) (hg : ∀ d, g d (wipeE vs r) = some (r1 d)) (he : ∀ d w, fe (r1 d) w = Res.of ((joinD (.str " ") d).bind fun x => plusD x (.str "\n")) w) (hz : rwt rows ≤ 16777216) :
    lcL vs g dYes fe r (rows.map mk) w [] = .ok (.lst (rows.map lineD)) w := by
  have hl := rwt_len rows
  have key : ∀ {l acc : List (List (List Nat))} , (∀ ws ∈ l, wt ws < 16777216) → acc.length + l.length ≤ 16777216 → lcL vs g dYes fe r (l.map mk) w (acc.map lineD) = .ok (.lst ((acc ++ l).map lineD)) w := by
    intro l
    induction l with
    | nil => intro acc _ _; rw [List.append_nil]; rfl
    | cons ws l ih =>
      intro acc h hz
      rw [List.length_cons] at hz
      rw [List.map_cons]
      unfold lcL
      rw [hg]
      simp only [dYes]
      rw [he, line_of (hmk ws) (h ws List.mem_cons_self)]
      simp only [Res.of]
      rw [if_pos (by rw [List.length_map, sizeLine_eq]; omega)]
      have := ih (acc := acc ++ [ws]) (fun x hx => h x (List.mem_cons_of_mem _ hx)) (by rw [List.length_append, List.length_singleton]; omega)
      rw [List.map_append, List.append_assoc] at this
      exact this
  have := key (l := rows) (acc := []) (fun ws h => by have := rwt_mem h; omega) (by simp; omega)
  exact this
theorem text_of {x : D} {rows : List (List (List Nat))} (mk : List (List Nat) → D) (hmk : ∀ ws, itemsD (mk ws) = some (wsD ws)) (hx : itemsD x = some (rows.map mk)) (w : Wd) (hz : rwt rows ≤ 16777216) : F_text_of [x] w = .ok (.str (SX.S (txt rows))) w := by
  have e := comp_lines (vs := [1]) (g := gN 1) (fe := (dBin plusD (dM joinD (dC (.str " ")) (dObs 1)) (dC (.str "\n")))) (r := [some (x, false), none]) (w := w) (rows := rows) mk (fun d => [some (x, false), some (d, false)]) hmk (fun _ => rfl) (fun d w => by
    cases h : joinD (.str " ") d with
    | none => simp only [runD, startE, SR.res, sSeq, SR.seq, sIf, Res.en, sRet, sSet, sSetO, sSetF, dVar, dObs, dC, dBin, dUn, Res.bind, Res.of, dNot, dAnd, dOr, dIf, dChain, dB, ResI.toR, aNil, aCons, ResI.mapA, dCall, dTup, dLst, sNext, rel, List.mapIdx_cons, List.mapIdx_nil, List.map_cons, List.map_nil, List.cons_append, List.nil_append, List.append_nil, List.length_cons, List.length_nil, List.replicate_succ, List.replicate_zero, List.getElem?_cons_zero, List.getElem?_cons_succ, all_, these, List.set_cons_zero, List.set_cons_succ, Bool.not_true, Bool.not_false, Bool.and_false, Bool.and_true, Bool.false_and, Bool.true_and, Nat.reduceAdd, Nat.reduceSub, dM, leD, gtD, ltD, isiD, List.contains_nil, Int.reduceLE, Int.reduceLT, decide_true, decide_false, Option.map_some, if_true, if_false, Nat.zero_le, sizeLine_eq, Nat.reduceLeDiff, Int.reduceEq, List.contains_cons, Nat.reduceBEq, Bool.or_false, Bool.or_true, Bool.true_or, Bool.false_or, h, Option.bind]
    | some y => simp only [runD, startE, SR.res, sSeq, SR.seq, sIf, Res.en, sRet, sSet, sSetO, sSetF, dVar, dObs, dC, dBin, dUn, Res.bind, Res.of, dNot, dAnd, dOr, dIf, dChain, dB, ResI.toR, aNil, aCons, ResI.mapA, dCall, dTup, dLst, sNext, rel, List.mapIdx_cons, List.mapIdx_nil, List.map_cons, List.map_nil, List.cons_append, List.nil_append, List.append_nil, List.length_cons, List.length_nil, List.replicate_succ, List.replicate_zero, List.getElem?_cons_zero, List.getElem?_cons_succ, all_, these, List.set_cons_zero, List.set_cons_succ, Bool.not_true, Bool.not_false, Bool.and_false, Bool.and_true, Bool.false_and, Bool.true_and, Nat.reduceAdd, Nat.reduceSub, dM, leD, gtD, ltD, isiD, List.contains_nil, Int.reduceLE, Int.reduceLT, decide_true, decide_false, Option.map_some, if_true, if_false, Nat.zero_le, sizeLine_eq, Nat.reduceLeDiff, Int.reduceEq, List.contains_cons, Nat.reduceBEq, Bool.or_false, Bool.or_true, Bool.true_or, Bool.false_or, h, Option.bind]) hz
  have e2 := join_lines hz
  unfold F_text_of g_text_of
  simp only [runD, startE, SR.res, sSeq, SR.seq, sIf, Res.en, sRet, sSet, sSetO, sSetF, dVar, dObs, dC, dBin, dUn, Res.bind, Res.of, dNot, dAnd, dOr, dIf, dChain, dB, ResI.toR, aNil, aCons, ResI.mapA, dCall, dTup, dLst, sNext, rel, List.mapIdx_cons, List.mapIdx_nil, List.map_cons, List.map_nil, List.cons_append, List.nil_append, List.append_nil, List.length_cons, List.length_nil, List.replicate_succ, List.replicate_zero, List.getElem?_cons_zero, List.getElem?_cons_succ, all_, these, List.set_cons_zero, List.set_cons_succ, Bool.not_true, Bool.not_false, Bool.and_false, Bool.and_true, Bool.false_and, Bool.true_and, Nat.reduceAdd, Nat.reduceSub, dM, leD, gtD, ltD, isiD, List.contains_nil, Int.reduceLE, Int.reduceLT, decide_true, decide_false, Option.map_some, if_true, if_false, Nat.zero_le, sizeLine_eq, Nat.reduceLeDiff, Int.reduceEq, List.contains_cons, Nat.reduceBEq, Bool.or_false, Bool.or_true, Bool.true_or, Bool.false_or, dComp, iSeq, Res.toI, hx, e, e2]
end L_k13

set_option Elab.async false
set_option linter.all false
set_option maxRecDepth 100000
set_option maxHeartbeats 4000000
namespace L_k13
open PySem PySem.SeqAt PySem.Spec PyProof.Rows L2 DL
def pl (x : Option D) : Slot := x.map fun d => (d, false)
def plS : Slot → Bool
  | some (_, true) => false
  | _ => true
theorem plS_pl (x : Option D) : plS (pl x) = true := by cases x <;> rfl
theorem plS_none : plS none = true := rfl
theorem plS_some (d : D) : plS (some (d, false)) = true := rfl
def plE (r : DL.Env) : Bool := r.all plS
theorem dBin_ok {g : D → D → Option D} {fa fb : EM} {r : DL.Env} {w w1 w2 : Wd} {x y d : D} (h1 : fa r w = .ok x w1) (h2 : fb r w1 = .ok y w2) (h3 : g x y = some d) : dBin g fa fb r w = .ok d w2 := by
  unfold dBin
  rw [h1]
  simp only [Res.bind]
  rw [h2]
  simp only [Res.bind]
  rw [h3]; rfl
theorem dOr_f {fa fb : EM} {r : DL.Env} {w w1 : Wd} {x : Res} (h1 : fa r w = .ok (.bl false) w1) (h2 : fb r w1 = x) : dOr fa fb r w = x := by
  unfold dOr
  rw [h1]
  simp only [Res.bind]
  exact h2
theorem dAnd_t {fa fb : EM} {r : DL.Env} {w w1 : Wd} {x : Res} (h1 : fa r w = .ok (.bl true) w1) (h2 : fb r w1 = x) : dAnd fa fb r w = x := by
  unfold dAnd
  rw [h1]
  simp only [Res.bind]
  exact h2
theorem nil_ok {r : DL.Env} {w : Wd} : dLst aNil r w = .ok (.lst []) w := by simp only [runD, startE, SR.res, sSeq, SR.seq, sIf, Res.en, sRet, sSet, sSetO, sSetF, dVar, dObs, dC, dBin, dUn, Res.bind, Res.of, dNot, dAnd, dOr, dIf, dChain, dB, ResI.toR, aNil, aCons, ResI.mapA, dCall, dTup, dLst, sNext, rel, List.mapIdx_cons, List.mapIdx_nil, List.map_cons, List.map_nil, List.cons_append, List.nil_append, List.append_nil, List.length_cons, List.length_nil, List.replicate_succ, List.replicate_zero, List.getElem?_cons_zero, List.getElem?_cons_succ, all_, these, List.set_cons_zero, List.set_cons_succ, Bool.not_true, Bool.not_false, Bool.and_false, Bool.and_true, Bool.false_and, Bool.true_and, Nat.reduceAdd, Nat.reduceSub, dM, leD, gtD, ltD, isiD, List.contains_nil, Int.reduceLE, Int.reduceLT, decide_true, decide_false, Option.map_some, if_true, if_false, Nat.zero_le, sizeLine_eq, Nat.reduceLeDiff, Int.reduceEq, List.contains_cons, Nat.reduceBEq, Bool.or_false, Bool.or_true, Bool.true_or, Bool.false_or, if_true]
theorem relP {r : DL.Env} (S : Nat → Bool) (h : plE r = true) : rel S r = r := by
  unfold rel
  apply List.ext_getElem?
  intro i
  rw [List.getElem?_mapIdx]
  cases e : r[i]? with
  | none => rfl
  | some x =>
    cases x with
    | none => rfl
    | some x =>
      obtain ⟨d, o⟩ := x
      have := List.all_eq_true.mp h _ (List.mem_of_getElem? e)
      cases o with
      | true => cases this
      | false => rfl
theorem setP {i : Nat} {caps : List Nat} {fe : EM} {r : DL.Env} {d : D} {w w' : Wd} (hp : plE r = true) (h : fe r w = .ok d w') : sSet i caps fe r w = .nx (r.set i (some (d, false))) w' := by
  unfold sSet
  rw [relP _ hp, h]; rfl
theorem ifP {fc : EM} {f : SM} {r : DL.Env} {w w' : Wd} (hp : plE r = true) (h : fc r w = .ok (.bl false) w') : sIf fc f sNext r w = .nx r w' := by
  unfold sIf
  rw [relP _ hp, h]; rfl
abbrev E1 (x2 x3 x4 : Option D) : DL.Env := [none, some (.pen, false), pl x2, pl x3, pl x4, none, none, none, none, none, none, none, none, none, none, none, none, none]
abbrev b1 : SM := (sSeq (sSet 3 [] (dCall F__law_strange (aCons (dVar 1) aNil))) (sSeq (sSet 4 [3] (dCall F__law_answers (aCons (dVar 3) aNil))) (sIf (dOr (dBin neD (dComp [13] (iSeq (dObs 4)) (gN 13) (dNot (isiD ["bool"] (dObs 13))) (dVar 13)) (dLst aNil)) (dBin neD (dObs 4) (dCall F__law_look (aCons (dVar 3) aNil)))) (sRet (dC (.bl false))) sNext)))
theorem neD_nn : neD (.lst []) (.lst []) = some (.bl false) := neD_nil (l := []) rfl
theorem lap (x2 x3 x4 : Option D) (w : Wd) : ∃ y3 y4 w', b1 (E1 x2 x3 x4) w = .nx (E1 x2 y3 y4) w' := by
  obtain ⟨s, w1, e1, hs⟩ := strange w
  obtain ⟨a, b, c, e2, e3⟩ := answers (s := s) w1 (by have := hs.1; omega)
  refine ⟨some (.str s), some (.lst [.bl a, .bl b, .bl c]), w1, ?_⟩
  have hc : dComp [13] (iSeq (dObs 4)) (gN 13) (dNot (isiD ["bool"] (dObs 13))) (dVar 13) (E1 x2 (some (.str s)) (some (.lst [.bl a, .bl b, .bl c]))) w1 = .ok (.lst []) w1 := by
    have := lcL_filter (vs := [13]) (g := gN 13) (ft := dNot (isiD ["bool"] (dObs 13))) (fe := dVar 13) (r := E1 x2 (some (.str s)) (some (.lst [.bl a, .bl b, .bl c]))) (w := w1) (l := [.bl a, .bl b, .bl c]) (fun d => (E1 x2 (some (.str s)) (some (.lst [.bl a, .bl b, .bl c]))).set 13 (some (d, false))) (fun _ => false) (fun _ _ => rfl) (fun d hd => by
      have : (d.ty?.bind (isiB ["bool"])).map D.bl = some (.bl true) := by
        simp only [List.mem_cons, List.not_mem_nil, or_false] at hd
        rcases hd with rfl | rfl | rfl <;> rfl
      simp only [runD, startE, SR.res, sSeq, SR.seq, sIf, Res.en, sRet, sSet, sSetO, sSetF, dVar, dObs, dC, dBin, dUn, Res.bind, Res.of, dNot, dAnd, dOr, dIf, dChain, dB, ResI.toR, aNil, aCons, ResI.mapA, dCall, dTup, dLst, sNext, rel, List.mapIdx_cons, List.mapIdx_nil, List.map_cons, List.map_nil, List.cons_append, List.nil_append, List.append_nil, List.length_cons, List.length_nil, List.replicate_succ, List.replicate_zero, List.getElem?_cons_zero, List.getElem?_cons_succ, all_, these, List.set_cons_zero, List.set_cons_succ, Bool.not_true, Bool.not_false, Bool.and_false, Bool.and_true, Bool.false_and, Bool.true_and, Nat.reduceAdd, Nat.reduceSub, dM, leD, gtD, ltD, isiD, List.contains_nil, Int.reduceLE, Int.reduceLT, decide_true, decide_false, Option.map_some, if_true, if_false, Nat.zero_le, sizeLine_eq, Nat.reduceLeDiff, Int.reduceEq, List.contains_cons, Nat.reduceBEq, Bool.or_false, Bool.or_true, Bool.true_or, Bool.false_or, E1, this]) (fun _ _ h => by cases h) (by simp only [List.length_cons, List.length_nil, sizeLine_eq]; decide)
    unfold dComp iSeq
    have e : Res.toI (dObs 4 (E1 x2 (some (.str s)) (some (.lst [.bl a, .bl b, .bl c]))) w1) itemsD = .ok [.bl a, .bl b, .bl c] w1 := rfl
    rw [e]
    exact this
  have hq : neD (.lst [.bl a, .bl b, .bl c]) (.lst [.bl a, .bl b, .bl c]) = some (.bl false) := neD_self rfl (by show (1 : Nat) ≤ 64; decide)
  unfold b1
  rw [seq_nx (r1 := E1 x2 (some (.str s)) x4) (w1 := w1) (setP (by simp only [plE, List.all_cons, List.all_nil, plS_pl, plS_none, plS_some, Bool.and_self, Bool.and_true]) (by simp only [runD, startE, SR.res, sSeq, SR.seq, sIf, Res.en, sRet, sSet, sSetO, sSetF, dVar, dObs, dC, dBin, dUn, Res.bind, Res.of, dNot, dAnd, dOr, dIf, dChain, dB, ResI.toR, aNil, aCons, ResI.mapA, dCall, dTup, dLst, sNext, rel, List.mapIdx_cons, List.mapIdx_nil, List.map_cons, List.map_nil, List.cons_append, List.nil_append, List.append_nil, List.length_cons, List.length_nil, List.replicate_succ, List.replicate_zero, List.getElem?_cons_zero, List.getElem?_cons_succ, all_, these, List.set_cons_zero, List.set_cons_succ, Bool.not_true, Bool.not_false, Bool.and_false, Bool.and_true, Bool.false_and, Bool.true_and, Nat.reduceAdd, Nat.reduceSub, dM, leD, gtD, ltD, isiD, List.contains_nil, Int.reduceLE, Int.reduceLT, decide_true, decide_false, Option.map_some, if_true, if_false, Nat.zero_le, sizeLine_eq, Nat.reduceLeDiff, Int.reduceEq, List.contains_cons, Nat.reduceBEq, Bool.or_false, Bool.or_true, Bool.true_or, Bool.false_or, E1, e1]))]
  rw [seq_nx (r1 := E1 x2 (some (.str s)) (some (.lst [.bl a, .bl b, .bl c]))) (w1 := w1) (setP (by simp only [plE, List.all_cons, List.all_nil, plS_pl, plS_none, plS_some, Bool.and_self, Bool.and_true]) (by simp only [runD, startE, SR.res, sSeq, SR.seq, sIf, Res.en, sRet, sSet, sSetO, sSetF, dVar, dObs, dC, dBin, dUn, Res.bind, Res.of, dNot, dAnd, dOr, dIf, dChain, dB, ResI.toR, aNil, aCons, ResI.mapA, dCall, dTup, dLst, sNext, rel, List.mapIdx_cons, List.mapIdx_nil, List.map_cons, List.map_nil, List.cons_append, List.nil_append, List.append_nil, List.length_cons, List.length_nil, List.replicate_succ, List.replicate_zero, List.getElem?_cons_zero, List.getElem?_cons_succ, all_, these, List.set_cons_zero, List.set_cons_succ, Bool.not_true, Bool.not_false, Bool.and_false, Bool.and_true, Bool.false_and, Bool.true_and, Nat.reduceAdd, Nat.reduceSub, dM, leD, gtD, ltD, isiD, List.contains_nil, Int.reduceLE, Int.reduceLT, decide_true, decide_false, Option.map_some, if_true, if_false, Nat.zero_le, sizeLine_eq, Nat.reduceLeDiff, Int.reduceEq, List.contains_cons, Nat.reduceBEq, Bool.or_false, Bool.or_true, Bool.true_or, Bool.false_or, E1, pl, e2]))]
  exact ifP (by simp only [plE, List.all_cons, List.all_nil, plS_pl, plS_none, plS_some, Bool.and_self, Bool.and_true]) (dOr_f (dBin_ok hc nil_ok neD_nn) (dBin_ok rfl (by simp only [runD, startE, SR.res, sSeq, SR.seq, sIf, Res.en, sRet, sSet, sSetO, sSetF, dVar, dObs, dC, dBin, dUn, Res.bind, Res.of, dNot, dAnd, dOr, dIf, dChain, dB, ResI.toR, aNil, aCons, ResI.mapA, dCall, dTup, dLst, sNext, rel, List.mapIdx_cons, List.mapIdx_nil, List.map_cons, List.map_nil, List.cons_append, List.nil_append, List.append_nil, List.length_cons, List.length_nil, List.replicate_succ, List.replicate_zero, List.getElem?_cons_zero, List.getElem?_cons_succ, all_, these, List.set_cons_zero, List.set_cons_succ, Bool.not_true, Bool.not_false, Bool.and_false, Bool.and_true, Bool.false_and, Bool.true_and, Nat.reduceAdd, Nat.reduceSub, dM, leD, gtD, ltD, isiD, List.contains_nil, Int.reduceLE, Int.reduceLT, decide_true, decide_false, Option.map_some, if_true, if_false, Nat.zero_le, sizeLine_eq, Nat.reduceLeDiff, Int.reduceEq, List.contains_cons, Nat.reduceBEq, Bool.or_false, Bool.or_true, Bool.true_or, Bool.false_or, E1, pl, e3]) hq))
end L_k13

set_option Elab.async false
set_option linter.all false
set_option maxRecDepth 100000
set_option maxHeartbeats 400000
namespace L_k13
open PySem PySem.SeqAt PySem.Spec PyProof.Rows L2 DL
abbrev E (x2 x3 x4 x5 x6 x7 x8 : Option D) (x9 : Slot) (x10 x11 x12 : Option D) : DL.Env := [none, some (.pen, false), pl x2, pl x3, pl x4, pl x5, pl x6, pl x7, pl x8, x9, pl x10, pl x11, pl x12, none, none, none, none, none]
theorem for0 {fi : IM} {g : GM} {f : SM} {r : DL.Env} {w w1 : Wd} {l : List D} {x : SR} (hf : fi r w = .ok l w1) (h : forL g f l r w1 = x) : sFor [] fi g f r w = x := by
  unfold sFor
  rw [relNil, hf]
  exact h
theorem step1 (w : Wd) : ∃ x2 x3 x4 w', sFor [] (iRange1 (aCons (dC (.int 8)) aNil)) (gN 2) b1 (lawE 18) w = .nx (E x2 x3 x4 none none none none none none none none) w' := by
  obtain ⟨r2, w2, e, x2, x3, x4, rfl⟩ := forL_inv (g := gN 2) (f := b1) (fun _ r => ∃ x2 x3 x4, r = E1 x2 x3 x4) (l := rangeL 0 8) (i := 0) (r := E1 none none none) (w := w) ⟨none, none, none, rfl⟩ (by
    rintro j d r w hj ⟨x2, x3, x4, rfl⟩
    obtain ⟨y3, y4, w', e⟩ := lap (some d) x3 x4 w
    exact ⟨_, rfl, _, w', e, some d, y3, y4, rfl⟩)
  refine ⟨x2, x3, x4, w2, ?_⟩
  have hf : iRange1 (aCons (dC (.int 8)) aNil) (lawE 18) w = .ok (rangeL 0 8) w := rfl
  exact for0 hf e
abbrev FFF : D := .lst [.bl false, .bl false, .bl false]
abbrev b2 : SM := (sIf (dBin neD (dCall F__law_answers (aCons (dVar 5) aNil)) (dLst (aCons (dC (.bl false)) (aCons (dC (.bl false)) (aCons (dC (.bl false)) aNil))))) (sRet (dC (.bl false))) sNext)
def vals : List D := [.non, .int 5, .tup [.str "a"], .lst [.str "a"], .bl true, .int 0, .dic [], .str ""]
theorem ans0 (w : Wd) : F__law_answers [.str ""] w = .ok FFF w := by
  have h : ("" : Str).length ≤ 16777216 := by decide +kernel
  have q1 : F_is_name [.str ""] w = .ok (.bl false) w := by
    unfold F_is_name g_is_name
    simp only [runD, startE, SR.res, sSeq, SR.seq, sIf, Res.en, sRet, sSet, sSetO, sSetF, dVar, dObs, dC, dBin, dUn, Res.bind, Res.of, dNot, dAnd, dOr, dIf, dChain, dB, ResI.toR, aNil, aCons, ResI.mapA, dCall, dTup, dLst, sNext, rel, List.mapIdx_cons, List.mapIdx_nil, List.map_cons, List.map_nil, List.cons_append, List.nil_append, List.append_nil, List.length_cons, List.length_nil, List.replicate_succ, List.replicate_zero, List.getElem?_cons_zero, List.getElem?_cons_succ, all_, these, List.set_cons_zero, List.set_cons_succ, Bool.not_true, Bool.not_false, Bool.and_false, Bool.and_true, Bool.false_and, Bool.true_and, Nat.reduceAdd, Nat.reduceSub, dM, leD, gtD, ltD, isiD, List.contains_nil, Int.reduceLE, Int.reduceLT, decide_true, decide_false, Option.map_some, if_true, if_false, Nat.zero_le, sizeLine_eq, Nat.reduceLeDiff, Int.reduceEq, List.contains_cons, Nat.reduceBEq, Bool.or_false, Bool.or_true, Bool.true_or, Bool.false_or, isword _ h, show wordB "" = false by decide +kernel]
  have q2 : F_is_numeral [.str ""] w = .ok (.bl false) w := by
    unfold F_is_numeral g_is_numeral
    simp only [runD, startE, SR.res, sSeq, SR.seq, sIf, Res.en, sRet, sSet, sSetO, sSetF, dVar, dObs, dC, dBin, dUn, Res.bind, Res.of, dNot, dAnd, dOr, dIf, dChain, dB, ResI.toR, aNil, aCons, ResI.mapA, dCall, dTup, dLst, sNext, rel, List.mapIdx_cons, List.mapIdx_nil, List.map_cons, List.map_nil, List.cons_append, List.nil_append, List.append_nil, List.length_cons, List.length_nil, List.replicate_succ, List.replicate_zero, List.getElem?_cons_zero, List.getElem?_cons_succ, all_, these, List.set_cons_zero, List.set_cons_succ, Bool.not_true, Bool.not_false, Bool.and_false, Bool.and_true, Bool.false_and, Bool.true_and, Nat.reduceAdd, Nat.reduceSub, dM, leD, gtD, ltD, isiD, List.contains_nil, Int.reduceLE, Int.reduceLT, decide_true, decide_false, Option.map_some, if_true, if_false, Nat.zero_le, sizeLine_eq, Nat.reduceLeDiff, Int.reduceEq, List.contains_cons, Nat.reduceBEq, Bool.or_false, Bool.or_true, Bool.true_or, Bool.false_or, isi_str (d := .str "") rfl, isS, len_str h, show ¬ (1 : Int) ≤ ("" : Str).length by decide +kernel]
  unfold F__law_answers g__law_answers
  simp only [runD, startE, SR.res, sSeq, SR.seq, sIf, Res.en, sRet, sSet, sSetO, sSetF, dVar, dObs, dC, dBin, dUn, Res.bind, Res.of, dNot, dAnd, dOr, dIf, dChain, dB, ResI.toR, aNil, aCons, ResI.mapA, dCall, dTup, dLst, sNext, rel, List.mapIdx_cons, List.mapIdx_nil, List.map_cons, List.map_nil, List.cons_append, List.nil_append, List.append_nil, List.length_cons, List.length_nil, List.replicate_succ, List.replicate_zero, List.getElem?_cons_zero, List.getElem?_cons_succ, all_, these, List.set_cons_zero, List.set_cons_succ, Bool.not_true, Bool.not_false, Bool.and_false, Bool.and_true, Bool.false_and, Bool.true_and, Nat.reduceAdd, Nat.reduceSub, dM, leD, gtD, ltD, isiD, List.contains_nil, Int.reduceLE, Int.reduceLT, decide_true, decide_false, Option.map_some, if_true, if_false, Nat.zero_le, sizeLine_eq, Nat.reduceLeDiff, Int.reduceEq, List.contains_cons, Nat.reduceBEq, Bool.or_false, Bool.or_true, Bool.true_or, Bool.false_or, q1, isword _ h, show wordB "" = false by decide +kernel, q2]
theorem vals_ok (w : Wd) : ∀ d ∈ vals, F__law_answers [d] w = .ok FFF w := by
  intro d hd
  simp only [vals, List.mem_cons, List.not_mem_nil, or_false] at hd
  rcases hd with rfl | rfl | rfl | rfl | rfl | rfl | rfl | rfl
  · exact answers_no w rfl rfl
  · exact answers_no w rfl rfl
  · exact answers_no w rfl rfl
  · exact answers_no w rfl rfl
  · exact answers_no w rfl rfl
  · exact answers_no w rfl rfl
  · exact answers_no w rfl rfl
  · exact ans0 w
theorem step2 (x2 x3 x4 : Option D) (w : Wd) : ∃ x5 w', sFor [] (iSeq (dLst (aCons (dC .non) (aCons (dC (.int 5)) (aCons (dTup (aCons (dC (.str "a")) aNil)) (aCons (dLst (aCons (dC (.str "a")) aNil)) (aCons (dC (.bl true)) (aCons (dC (.int 0)) (aCons (dC (.dic [])) (aCons (dC (.str "")) aNil)))))))))) (gN 5) b2 (E x2 x3 x4 none none none none none none none none) w = .nx (E x2 x3 x4 x5 none none none none none none none) w' := by
  obtain ⟨r2, w2, e, x5, rfl⟩ := forL_inv (g := gN 5) (f := b2) (fun _ r => ∃ x5, r = E x2 x3 x4 x5 none none none none none none none) (l := vals) (i := 0) (r := E x2 x3 x4 none none none none none none none none) (w := w) ⟨none, rfl⟩ (by
    rintro j d r w hj ⟨x5, rfl⟩
    refine ⟨_, rfl, _, w, ?_, some d, rfl⟩
    have hq : neD FFF FFF = some (.bl false) := neD_self rfl (by show (1 : Nat) ≤ 64; decide)
    refine ifP (w' := w) (r := E x2 x3 x4 (some d) none none none none none none none) (by simp only [plE, List.all_cons, List.all_nil, plS_pl, plS_none, plS_some, Bool.and_self, Bool.and_true]) (dBin_ok (x := FFF) (y := FFF) (w1 := w) ?_ (by simp only [runD, startE, SR.res, sSeq, SR.seq, sIf, Res.en, sRet, sSet, sSetO, sSetF, dVar, dObs, dC, dBin, dUn, Res.bind, Res.of, dNot, dAnd, dOr, dIf, dChain, dB, ResI.toR, aNil, aCons, ResI.mapA, dCall, dTup, dLst, sNext, rel, List.mapIdx_cons, List.mapIdx_nil, List.map_cons, List.map_nil, List.cons_append, List.nil_append, List.append_nil, List.length_cons, List.length_nil, List.replicate_succ, List.replicate_zero, List.getElem?_cons_zero, List.getElem?_cons_succ, all_, these, List.set_cons_zero, List.set_cons_succ, Bool.not_true, Bool.not_false, Bool.and_false, Bool.and_true, Bool.false_and, Bool.true_and, Nat.reduceAdd, Nat.reduceSub, dM, leD, gtD, ltD, isiD, List.contains_nil, Int.reduceLE, Int.reduceLT, decide_true, decide_false, Option.map_some, if_true, if_false, Nat.zero_le, sizeLine_eq, Nat.reduceLeDiff, Int.reduceEq, List.contains_cons, Nat.reduceBEq, Bool.or_false, Bool.or_true, Bool.true_or, Bool.false_or, if_true]) hq)
    have := vals_ok w d (List.mem_of_getElem? hj)
    simp only [runD, startE, SR.res, sSeq, SR.seq, sIf, Res.en, sRet, sSet, sSetO, sSetF, dVar, dObs, dC, dBin, dUn, Res.bind, Res.of, dNot, dAnd, dOr, dIf, dChain, dB, ResI.toR, aNil, aCons, ResI.mapA, dCall, dTup, dLst, sNext, rel, List.mapIdx_cons, List.mapIdx_nil, List.map_cons, List.map_nil, List.cons_append, List.nil_append, List.append_nil, List.length_cons, List.length_nil, List.replicate_succ, List.replicate_zero, List.getElem?_cons_zero, List.getElem?_cons_succ, all_, these, List.set_cons_zero, List.set_cons_succ, Bool.not_true, Bool.not_false, Bool.and_false, Bool.and_true, Bool.false_and, Bool.true_and, Nat.reduceAdd, Nat.reduceSub, dM, leD, gtD, ltD, isiD, List.contains_nil, Int.reduceLE, Int.reduceLT, decide_true, decide_false, Option.map_some, if_true, if_false, Nat.zero_le, sizeLine_eq, Nat.reduceLeDiff, Int.reduceEq, List.contains_cons, Nat.reduceBEq, Bool.or_false, Bool.or_true, Bool.true_or, Bool.false_or, E, pl, this])
  refine ⟨x5, w2, ?_⟩
  have hf : iSeq (dLst (aCons (dC .non) (aCons (dC (.int 5)) (aCons (dTup (aCons (dC (.str "a")) aNil)) (aCons (dLst (aCons (dC (.str "a")) aNil)) (aCons (dC (.bl true)) (aCons (dC (.int 0)) (aCons (dC (.dic [])) (aCons (dC (.str "")) aNil))))))))) (E x2 x3 x4 none none none none none none none none) w = .ok vals w := by
    unfold iSeq
    simp only [runD, startE, SR.res, sSeq, SR.seq, sIf, Res.en, sRet, sSet, sSetO, sSetF, dVar, dObs, dC, dBin, dUn, Res.bind, Res.of, dNot, dAnd, dOr, dIf, dChain, dB, ResI.toR, aNil, aCons, ResI.mapA, dCall, dTup, dLst, sNext, rel, List.mapIdx_cons, List.mapIdx_nil, List.map_cons, List.map_nil, List.cons_append, List.nil_append, List.append_nil, List.length_cons, List.length_nil, List.replicate_succ, List.replicate_zero, List.getElem?_cons_zero, List.getElem?_cons_succ, all_, these, List.set_cons_zero, List.set_cons_succ, Bool.not_true, Bool.not_false, Bool.and_false, Bool.and_true, Bool.false_and, Bool.true_and, Nat.reduceAdd, Nat.reduceSub, dM, leD, gtD, ltD, isiD, List.contains_nil, Int.reduceLE, Int.reduceLT, decide_true, decide_false, Option.map_some, if_true, if_false, Nat.zero_le, sizeLine_eq, Nat.reduceLeDiff, Int.reduceEq, List.contains_cons, Nat.reduceBEq, Bool.or_false, Bool.or_true, Bool.true_or, Bool.false_or, Res.toI, itemsD, vals]
  exact for0 hf e
end L_k13

set_option Elab.async false
set_option linter.all false
set_option maxRecDepth 100000
set_option maxHeartbeats 400000
namespace L_k13
open PySem PySem.SeqAt PySem.Spec PyProof.Rows L2 DL
/-! ### plain data that is compared -/
theorem depthAll_le : ∀ {l : List D} {k : Nat}, (∀ d ∈ l, d.py.depth ≤ k) → PyData.depthAll (D.pys l) ≤ k
  | [], k, _ => Nat.zero_le _
  | d :: l, k, h => by
    have h1 := h d List.mem_cons_self
    have h2 := depthAll_le (l := l) (k := k) fun x hx => h x (List.mem_cons_of_mem _ hx)
    show max (d.py.depth) (PyData.depthAll (D.pys l)) ≤ k
    omega
theorem tup_depth (l : List D) : (D.tup l).py.depth = PyData.depthAll (D.pys l) + 1 := by
  show PyData.depth (.tuple (D.pys l)) = _
  rw [PyData.depth]
abbrev dueT (ls : List (List Nat)) : D := .tup (dueL 0 ls)
theorem due_pl (ls : List (List Nat)) : (dueT ls).pl = true := by
  show D.pls (dueL 0 ls) = true
  refine pls_of fun d hd => ?_
  obtain ⟨n, e, h1, h2⟩ := due_form 0 ls d hd
  rw [e]
  show (true && ((D.pls (sec d)) && true)) = true
  rw [h1]; rfl
theorem due_depth (ls : List (List Nat)) : (dueT ls).py.depth ≤ 64 := by
  rw [tup_depth]
  have : PyData.depthAll (D.pys (dueL 0 ls)) ≤ 2 := depthAll_le fun d hd => by
    obtain ⟨n, e, h1, h2⟩ := due_form 0 ls d hd
    rw [e, tup_depth]
    have : PyData.depthAll (D.pys [.int n, .tup (sec d)]) ≤ 1 := depthAll_le fun x hx => by
      simp only [List.mem_cons, List.not_mem_nil, or_false] at hx
      rcases hx with rfl | rfl
      · exact Nat.zero_le _
      · rw [tup_depth]
        have := depthAll_le (l := sec d) (k := 0) fun x hx => by rw [h2 x hx]; exact Nat.le_refl _
        omega
    omega
  omega
theorem due_ne (ls : List (List Nat)) : neD (dueT ls) (dueT ls) = some (.bl false) := neD_self (due_pl ls) (due_depth ls)
/-! ### steps -/
theorem to0 {g : GM} {fe : EM} {r r' : DL.Env} {d : D} {w w' : Wd} (h : fe r w = .ok d w') (hg : g d r = some r') : sTo [] g fe r w = .nx r' w' := by
  unfold sTo
  rw [relNil, h]
  show (match g d r with | some r' => SR.nx r' w' | none => .bad) = _
  rw [hg]
theorem call1 {F : List D → Wd → Res} {fa : EM} {r : DL.Env} {w w1 : Wd} {d : D} {x : Res} (h1 : fa r w = .ok d w1) (h2 : F [d] w1 = x) : dCall F (aCons fa aNil) r w = x := by
  simp only [runD, startE, SR.res, sSeq, SR.seq, sIf, Res.en, sRet, sSet, sSetO, sSetF, dVar, dObs, dC, dBin, dUn, Res.bind, Res.of, dNot, dAnd, dOr, dIf, dChain, dB, ResI.toR, aNil, aCons, ResI.mapA, dCall, dTup, dLst, sNext, rel, List.mapIdx_cons, List.mapIdx_nil, List.map_cons, List.map_nil, List.cons_append, List.nil_append, List.append_nil, List.length_cons, List.length_nil, List.replicate_succ, List.replicate_zero, List.getElem?_cons_zero, List.getElem?_cons_succ, all_, these, List.set_cons_zero, List.set_cons_succ, Bool.not_true, Bool.not_false, Bool.and_false, Bool.and_true, Bool.false_and, Bool.true_and, Nat.reduceAdd, Nat.reduceSub, dM, leD, gtD, ltD, isiD, List.contains_nil, Int.reduceLE, Int.reduceLT, decide_true, decide_false, Option.map_some, if_true, if_false, Nat.zero_le, sizeLine_eq, Nat.reduceLeDiff, Int.reduceEq, List.contains_cons, Nat.reduceBEq, Bool.or_false, Bool.or_true, Bool.true_or, Bool.false_or, h1, h2]
theorem w_empty (w : Wd) : F_words_of [.str ""] w = .ok (.tup []) w := words_of (s := "") w (by decide +kernel)
theorem w_blank (w : Wd) : F_words_of [.str "\n \n"] w = .ok (.tup []) w := words_of (s := "\n \n") w (by decide +kernel)
theorem notN {fa : EM} {r : DL.Env} {w w1 : Wd} {b : Bool} (h : fa r w = .ok (.bl b) w1) : dNot fa r w = .ok (.bl !b) w1 := by
  unfold dNot
  rw [h]; rfl
theorem isi_ok {ts : List String} {fa : EM} {r : DL.Env} {w w1 : Wd} {d : D} {b : Bool} (h : fa r w = .ok d w1) (hb : (d.ty?.bind (isiB ts)).map D.bl = some (.bl b)) : isiD ts fa r w = .ok (.bl b) w1 := by
  unfold isiD
  rw [h]
  simp only [Res.bind]
  rw [hb]; rfl
theorem neD_e : neD (.tup []) (.tup []) = some (.bl false) := neD_self rfl (by show (1 : Nat) ≤ 64; decide)
theorem tup0 {r : DL.Env} {w : Wd} : dTup aNil r w = .ok (.tup []) w := by simp only [runD, startE, SR.res, sSeq, SR.seq, sIf, Res.en, sRet, sSet, sSetO, sSetF, dVar, dObs, dC, dBin, dUn, Res.bind, Res.of, dNot, dAnd, dOr, dIf, dChain, dB, ResI.toR, aNil, aCons, ResI.mapA, dCall, dTup, dLst, sNext, rel, List.mapIdx_cons, List.mapIdx_nil, List.map_cons, List.map_nil, List.cons_append, List.nil_append, List.append_nil, List.length_cons, List.length_nil, List.replicate_succ, List.replicate_zero, List.getElem?_cons_zero, List.getElem?_cons_succ, all_, these, List.set_cons_zero, List.set_cons_succ, Bool.not_true, Bool.not_false, Bool.and_false, Bool.and_true, Bool.false_and, Bool.true_and, Nat.reduceAdd, Nat.reduceSub, dM, leD, gtD, ltD, isiD, List.contains_nil, Int.reduceLE, Int.reduceLT, decide_true, decide_false, Option.map_some, if_true, if_false, Nat.zero_le, sizeLine_eq, Nat.reduceLeDiff, Int.reduceEq, List.contains_cons, Nat.reduceBEq, Bool.or_false, Bool.or_true, Bool.true_or, Bool.false_or, if_true]
/-- the loop over told's pairs -/
theorem comp14 (ls : List (List Nat)) (x2 x3 x4 x5 x6 x7 : Option D) (w : Wd) (hl : ls.length ≤ 300000) : dComp [14] (iSeq (dObs 8)) (gN 14) (dOr (dNot (isiD ["tuple"] (dObs 14))) (dNot (isiD ["tuple"] (dBin ixD (dObs 14) (dC (.int 1)))))) (dVar 14) (E x2 x3 x4 x5 x6 x7 (some (dueT ls)) none none none none) w = .ok (.lst []) w := by
  have hz := dueL_len 0 ls
  have := lcL_filter (vs := [14]) (g := gN 14) (ft := dOr (dNot (isiD ["tuple"] (dObs 14))) (dNot (isiD ["tuple"] (dBin ixD (dObs 14) (dC (.int 1)))))) (fe := dVar 14) (r := E x2 x3 x4 x5 x6 x7 (some (dueT ls)) none none none none) (w := w) (l := dueL 0 ls) (fun d => (E x2 x3 x4 x5 x6 x7 (some (dueT ls)) none none none none).set 14 (some (d, false))) (fun _ => false) (fun _ _ => rfl) (fun d hd => by
    obtain ⟨n, e, h1, h2⟩ := due_form 0 ls d hd
    generalize sec d = s at e
    subst e
    exact dOr_f (notN (b := true) (isi_ok (d := .tup [.int n, .tup s]) rfl rfl)) (notN (b := true) (isi_ok (d := .tup s) (dBin_ok (x := .tup [.int n, .tup s]) (y := .int 1) rfl rfl rfl) rfl))) (fun _ _ h => by cases h) (by rw [sizeLine_eq]; omega)
  have e : Res.toI (dObs 8 (E x2 x3 x4 x5 x6 x7 (some (dueT ls)) none none none none) w) itemsD = .ok (dueL 0 ls) w := rfl
  unfold dComp iSeq
  rw [e]
  show lcL _ _ _ _ _ _ _ _ = _
  rw [this]
  congr 2
  exact List.filter_eq_nil_iff.mpr (by simp)
def fst' : D → D
  | .tup (a :: _) => a
  | d => d
/-- the rows -/
theorem comp1516 (ls : List (List Nat)) (x2 x3 x4 x5 x6 x8 : Option D) (w : Wd) (hl : ls.length ≤ 300000) : dComp [15, 16] (iSeq (dObs 7)) (gTupD 2 (gCo (gN 15) (gCo (gN 16) gNo))) dYes (dB listD (aCons (dObs 16) aNil)) (E x2 x3 x4 x5 x6 (some (dueT ls)) x8 none none none none) w = .ok (.lst ((rowsOf ls).map fun ws => .lst (wsD ws))) w := by
  have hz := dueL_len 0 ls
  have := lcL_map (vs := [15, 16]) (g := gTupD 2 (gCo (gN 15) (gCo (gN 16) gNo))) (fe := dB listD (aCons (dObs 16) aNil)) (r := E x2 x3 x4 x5 x6 (some (dueT ls)) x8 none none none none) (w := w) (l := dueL 0 ls) (fun d => ((E x2 x3 x4 x5 x6 (some (dueT ls)) x8 none none none none).set 15 (some (fst' d, false))).set 16 (some (.tup (sec d), false))) (fun d => .lst (sec d)) (fun d hd => by
    obtain ⟨n, e, h1, h2⟩ := due_form 0 ls d hd
    generalize hs : sec d = s at e
    subst e
    rfl) (fun d hd => rfl) (by rw [sizeLine_eq]; omega)
  have e : Res.toI (dObs 7 (E x2 x3 x4 x5 x6 (some (dueT ls)) x8 none none none none) w) itemsD = .ok (dueL 0 ls) w := rfl
  unfold dComp iSeq
  rw [e]
  show lcL _ _ _ _ _ _ _ _ = _
  rw [this]
  congr 2
  have h := congrArg (List.map D.lst) (due_sec 0 ls)
  rw [List.map_map, List.map_map] at h
  exact h
end L_k13

set_option Elab.async false
set_option linter.all false
set_option maxRecDepth 100000
set_option maxHeartbeats 400000
namespace L_k13
open PySem PySem.SeqAt PySem.Spec PyProof.Rows L2 DL
theorem dB1 {g : List D → Option D} {fa : EM} {r : DL.Env} {w w1 : Wd} {x d : D} (h1 : fa r w = .ok x w1) (h2 : g [x] = some d) : dB g (aCons fa aNil) r w = .ok d w1 := by
  simp only [runD, startE, SR.res, sSeq, SR.seq, sIf, Res.en, sRet, sSet, sSetO, sSetF, dVar, dObs, dC, dBin, dUn, Res.bind, Res.of, dNot, dAnd, dOr, dIf, dChain, dB, ResI.toR, aNil, aCons, ResI.mapA, dCall, dTup, dLst, sNext, rel, List.mapIdx_cons, List.mapIdx_nil, List.map_cons, List.map_nil, List.cons_append, List.nil_append, List.append_nil, List.length_cons, List.length_nil, List.replicate_succ, List.replicate_zero, List.getElem?_cons_zero, List.getElem?_cons_succ, all_, these, List.set_cons_zero, List.set_cons_succ, Bool.not_true, Bool.not_false, Bool.and_false, Bool.and_true, Bool.false_and, Bool.true_and, Nat.reduceAdd, Nat.reduceSub, dM, leD, gtD, ltD, isiD, List.contains_nil, Int.reduceLE, Int.reduceLT, decide_true, decide_false, Option.map_some, if_true, if_false, Nat.zero_le, sizeLine_eq, Nat.reduceLeDiff, Int.reduceEq, List.contains_cons, Nat.reduceBEq, Bool.or_false, Bool.or_true, Bool.true_or, Bool.false_or, h1, h2]
abbrev rowsL (rows : List (List (List Nat))) : List D := rows.map fun ws => .lst (wsD ws)
abbrev rowsT (rows : List (List (List Nat))) : List D := rows.map fun ws => .tup (wsD ws)
def relS (b : Bool) : Slot → Slot
  | some (d, o) => some (d, o && !b)
  | none => none
theorem rel_cons (S : Nat → Bool) (a : Slot) (r : DL.Env) : rel S (a :: r) = relS (S 0) a :: rel (fun i => S (i + 1)) r := by
  unfold rel
  rw [List.mapIdx_cons]
  congr 1
theorem rel_nil (S : Nat → Bool) : rel S [] = [] := rfl
theorem relS_pl (b : Bool) (x : Option D) : relS b (pl x) = pl x := by cases x <;> rfl
theorem relS_none (b : Bool) : relS b none = none := rfl
theorem relS_f (b : Bool) (d : D) : relS b (some (d, false)) = some (d, false) := rfl
theorem rel9 (x2 x3 x4 x5 x6 x7 x8 : Option D) (X : D) (x10 x11 x12 : Option D) : rel (these [9]) (E x2 x3 x4 x5 x6 x7 x8 (some (X, true)) x10 x11 x12) = E x2 x3 x4 x5 x6 x7 x8 (some (X, false)) x10 x11 x12 := by
  unfold E
  simp only [rel_cons, rel_nil, relS_pl, relS_none, relS_f]
  rfl
/-- tuple([tuple(words) for words in rows]) -/
theorem comp16t (rows : List (List (List Nat))) (x2 x3 x4 x5 x6 x7 x8 : Option D) (w : Wd) (hl : rows.length ≤ 300000) : dComp [16] (iSeq (dObs 9)) (gN 16) dYes (dB tupleD (aCons (dObs 16) aNil)) (E x2 x3 x4 x5 x6 x7 x8 (some (.lst (rowsL rows), false)) none none none) w = .ok (.lst (rowsT rows)) w := by
  have := lcL_map (vs := [16]) (g := gN 16) (fe := dB tupleD (aCons (dObs 16) aNil)) (r := E x2 x3 x4 x5 x6 x7 x8 (some (.lst (rowsL rows), false)) none none none) (w := w) (l := rowsL rows) (fun d => (E x2 x3 x4 x5 x6 x7 x8 (some (.lst (rowsL rows), false)) none none none).set 16 (some (d, false))) (fun d => match d with | .lst l => .tup l | d => d) (fun d hd => rfl) (fun d hd => by
    obtain ⟨ws, _, rfl⟩ := List.mem_map.mp hd
    rfl) (by rw [List.length_map, sizeLine_eq]; omega)
  have e : Res.toI (dObs 9 (E x2 x3 x4 x5 x6 x7 x8 (some (.lst (rowsL rows), false)) none none none) w) itemsD = .ok (rowsL rows) w := rfl
  unfold dComp iSeq
  rw [e]
  show lcL _ _ _ _ _ _ _ _ = _
  rw [this]
  congr 2
  rw [List.map_map]; rfl
theorem step8 (rows : List (List (List Nat))) (x2 x3 x4 x5 x6 x7 x8 : Option D) (w : Wd) (hl : rows.length ≤ 300000) : ∃ (P : D) (mk : List (List Nat) → D) (w' : Wd), sSet 10 [9] (dIf (dBin eqD (dCall F__law_draw (aCons (dVar 1) (aCons (dC (.int 2)) aNil))) (dC (.int 0))) (dVar 9) (dB tupleD (aCons (dComp [16] (iSeq (dObs 9)) (gN 16) dYes (dB tupleD (aCons (dObs 16) aNil))) aNil))) (E x2 x3 x4 x5 x6 x7 x8 (some (.lst (rowsL rows), true)) none none none) w =
    .nx (E x2 x3 x4 x5 x6 x7 x8 (some (.lst (rowsL rows), false)) (some P) none none) w' ∧ (∀ ws, itemsD (mk ws) = some (wsD ws)) ∧ itemsD P = some (rows.map mk) := by
  obtain ⟨j, w1, e1, j0, j1⟩ := draws 2 w (by decide) (by decide)
  have hd : dCall F__law_draw (aCons (dVar 1) (aCons (dC (.int 2)) aNil)) (E x2 x3 x4 x5 x6 x7 x8 (some (.lst (rowsL rows), false)) none none none) w = .ok (.int j) w1 := by
    simp only [runD, startE, SR.res, sSeq, SR.seq, sIf, Res.en, sRet, sSet, sSetO, sSetF, dVar, dObs, dC, dBin, dUn, Res.bind, Res.of, dNot, dAnd, dOr, dIf, dChain, dB, ResI.toR, aNil, aCons, ResI.mapA, dCall, dTup, dLst, sNext, rel, List.mapIdx_cons, List.mapIdx_nil, List.map_cons, List.map_nil, List.cons_append, List.nil_append, List.append_nil, List.length_cons, List.length_nil, List.replicate_succ, List.replicate_zero, List.getElem?_cons_zero, List.getElem?_cons_succ, all_, these, List.set_cons_zero, List.set_cons_succ, Bool.not_true, Bool.not_false, Bool.and_false, Bool.and_true, Bool.false_and, Bool.true_and, Nat.reduceAdd, Nat.reduceSub, dM, leD, gtD, ltD, isiD, List.contains_nil, Int.reduceLE, Int.reduceLT, decide_true, decide_false, Option.map_some, if_true, if_false, Nat.zero_le, sizeLine_eq, Nat.reduceLeDiff, Int.reduceEq, List.contains_cons, Nat.reduceBEq, Bool.or_false, Bool.or_true, Bool.true_or, Bool.false_or, E, e1]
  have ht : ∀ b, eqD (.int j) (.int 0) = some (.bl b) → ∀ x, (if b = true then dVar 9 else dB tupleD (aCons (dComp [16] (iSeq (dObs 9)) (gN 16) dYes (dB tupleD (aCons (dObs 16) aNil))) aNil)) (E x2 x3 x4 x5 x6 x7 x8 (some (.lst (rowsL rows), false)) none none none) w1 = .ok x w1 →
      dIf (dBin eqD (dCall F__law_draw (aCons (dVar 1) (aCons (dC (.int 2)) aNil))) (dC (.int 0))) (dVar 9) (dB tupleD (aCons (dComp [16] (iSeq (dObs 9)) (gN 16) dYes (dB tupleD (aCons (dObs 16) aNil))) aNil)) (E x2 x3 x4 x5 x6 x7 x8 (some (.lst (rowsL rows), false)) none none none) w = .ok x w1 := by
    intro b hb x hx
    unfold dIf
    rw [dBin_ok hd rfl hb]
    cases b with
    | true => exact hx
    | false => exact hx
  by_cases hj : j = 0
  · refine ⟨.lst (rowsL rows), fun ws => .lst (wsD ws), w1, ?_, fun _ => rfl, rfl⟩
    unfold sSet
    rw [rel9, ht true (by rw [eqD_int]; simp [hj]) (.lst (rowsL rows)) rfl]
    rfl
  · refine ⟨.tup (rowsT rows), fun ws => .tup (wsD ws), w1, ?_, fun _ => rfl, rfl⟩
    have hc := comp16t rows x2 x3 x4 x5 x6 x7 x8 w1 hl
    have hc2 : dB tupleD (aCons (dComp [16] (iSeq (dObs 9)) (gN 16) dYes (dB tupleD (aCons (dObs 16) aNil))) aNil) (E x2 x3 x4 x5 x6 x7 x8 (some (.lst (rowsL rows), false)) none none none) w1 = .ok (.tup (rowsT rows)) w1 := by
      exact dB1 hc rfl
    unfold sSet
    rw [rel9, ht false (by rw [eqD_int]; simp [hj]) (.tup (rowsT rows)) hc2]
    rfl
theorem dM_ok {g : D → D → Option D} {fa fb : EM} {r : DL.Env} {w w1 w2 : Wd} {s : Str} {y d : D} (h1 : fa r w = .ok (.str s) w1) (h2 : fb r w1 = .ok y w2) (h3 : g (.str s) y = some d) : dM g fa fb r w = .ok d w2 := by
  unfold dM
  rw [h1]
  simp only [Res.bind]
  rw [h2]
  simp only [Res.bind]
  rw [h3]; rfl
/-- the law's own text -/
theorem own_text (rows : List (List (List Nat))) (x2 x3 x4 x5 x6 x7 x8 x10 x11 x12 : Option D) (w : Wd) (hz : rwt rows ≤ 16777216) : dM joinD (dC (.str "")) (dComp [16] (iSeq (dObs 9)) (gN 16) dYes (dBin plusD (dM joinD (dC (.str " ")) (dObs 16)) (dC (.str "\n")))) (E x2 x3 x4 x5 x6 x7 x8 (some (.lst (rowsL rows), false)) x10 x11 x12) w = .ok (.str (SX.S (txt rows))) w := by
  have e := comp_lines (vs := [16]) (g := gN 16) (fe := (dBin plusD (dM joinD (dC (.str " ")) (dObs 16)) (dC (.str "\n")))) (r := E x2 x3 x4 x5 x6 x7 x8 (some (.lst (rowsL rows), false)) x10 x11 x12) (w := w) (rows := rows) (fun ws => .lst (wsD ws)) (fun d => (E x2 x3 x4 x5 x6 x7 x8 (some (.lst (rowsL rows), false)) x10 x11 x12).set 16 (some (d, false))) (fun _ => rfl) (fun _ => rfl) (fun d w => by
    cases h : joinD (.str " ") d with
    | none => simp only [runD, startE, SR.res, sSeq, SR.seq, sIf, Res.en, sRet, sSet, sSetO, sSetF, dVar, dObs, dC, dBin, dUn, Res.bind, Res.of, dNot, dAnd, dOr, dIf, dChain, dB, ResI.toR, aNil, aCons, ResI.mapA, dCall, dTup, dLst, sNext, rel, List.mapIdx_cons, List.mapIdx_nil, List.map_cons, List.map_nil, List.cons_append, List.nil_append, List.append_nil, List.length_cons, List.length_nil, List.replicate_succ, List.replicate_zero, List.getElem?_cons_zero, List.getElem?_cons_succ, all_, these, List.set_cons_zero, List.set_cons_succ, Bool.not_true, Bool.not_false, Bool.and_false, Bool.and_true, Bool.false_and, Bool.true_and, Nat.reduceAdd, Nat.reduceSub, dM, leD, gtD, ltD, isiD, List.contains_nil, Int.reduceLE, Int.reduceLT, decide_true, decide_false, Option.map_some, if_true, if_false, Nat.zero_le, sizeLine_eq, Nat.reduceLeDiff, Int.reduceEq, List.contains_cons, Nat.reduceBEq, Bool.or_false, Bool.or_true, Bool.true_or, Bool.false_or, E, h, Option.bind]
    | some y => simp only [runD, startE, SR.res, sSeq, SR.seq, sIf, Res.en, sRet, sSet, sSetO, sSetF, dVar, dObs, dC, dBin, dUn, Res.bind, Res.of, dNot, dAnd, dOr, dIf, dChain, dB, ResI.toR, aNil, aCons, ResI.mapA, dCall, dTup, dLst, sNext, rel, List.mapIdx_cons, List.mapIdx_nil, List.map_cons, List.map_nil, List.cons_append, List.nil_append, List.append_nil, List.length_cons, List.length_nil, List.replicate_succ, List.replicate_zero, List.getElem?_cons_zero, List.getElem?_cons_succ, all_, these, List.set_cons_zero, List.set_cons_succ, Bool.not_true, Bool.not_false, Bool.and_false, Bool.and_true, Bool.false_and, Bool.true_and, Nat.reduceAdd, Nat.reduceSub, dM, leD, gtD, ltD, isiD, List.contains_nil, Int.reduceLE, Int.reduceLT, decide_true, decide_false, Option.map_some, if_true, if_false, Nat.zero_le, sizeLine_eq, Nat.reduceLeDiff, Int.reduceEq, List.contains_cons, Nat.reduceBEq, Bool.or_false, Bool.or_true, Bool.true_or, Bool.false_or, E, h, Option.bind]) hz
  refine dM_ok (s := "") (y := .lst (rows.map lineD)) (w1 := w) rfl ?_ (join_lines hz)
  have e2 : Res.toI (dObs 9 (E x2 x3 x4 x5 x6 x7 x8 (some (.lst (rowsL rows), false)) x10 x11 x12) w) itemsD = .ok (rowsL rows) w := rfl
  unfold dComp iSeq
  rw [e2]
  exact e
end L_k13

set_option Elab.async false
set_option linter.all false
set_option maxRecDepth 100000
set_option maxHeartbeats 400000
namespace L_k13
open PySem PySem.SeqAt PySem.Spec PyProof.Rows L2 DL
def hE : D → D
  | .tup [.int i, .lst l] => .tup [.int (i + 1), .tup l]
  | d => d
theorem enum_numb : ∀ (i : Nat) (rows : List (List (List Nat))), (enumL i (rowsL rows)).map hE = numb i rows
  | _, [] => rfl
  | i, ws :: rows => by
    show hE (.tup [.int i, .lst (wsD ws)]) :: (enumL (i + 1) (rowsL rows)).map hE = _
    rw [enum_numb (i + 1) rows]; rfl
theorem enum_form : ∀ (i : Nat) (rows : List (List (List Nat))), ∀ d ∈ enumL i (rowsL rows), ∃ (n : Int) (ws : List (List Nat)), d = .tup [.int n, .lst (wsD ws)]
  | _, [], d, h => by cases h
  | i, ws :: rows, d, h => by
    have h : d ∈ D.tup [.int i, .lst (wsD ws)] :: enumL (i + 1) (rowsL rows) := h
    rcases List.mem_cons.mp h with rfl | h
    · exact ⟨_, _, rfl⟩
    · exact enum_form (i + 1) rows d h
theorem enumL_len : ∀ (i : Nat) (l : List D), (enumL i l).length = l.length
  | _, [] => rfl
  | i, d :: l => by
    show (enumL (i + 1) l).length + 1 = l.length + 1
    rw [enumL_len (i + 1) l]
def snd' : D → D
  | .tup [_, b] => b
  | d => d
theorem compEn (rows : List (List (List Nat))) (x2 x3 x4 x5 x6 x7 x8 x10 x11 x12 : Option D) (w : Wd) (hl : rows.length ≤ 300000) : dB tupleD (aCons (dComp [17, 16] (DL.iEnum (aCons (dObs 9) aNil)) (gTupD 2 (gCo (gN 17) (gCo (gN 16) gNo))) dYes (dTup (aCons (dBin plusD (dObs 17) (dC (.int 1))) (aCons (dB tupleD (aCons (dObs 16) aNil)) aNil)))) aNil) (E x2 x3 x4 x5 x6 x7 x8 (some (.lst (rowsL rows), false)) x10 x11 x12) w = .ok (.tup (numb 0 rows)) w := by
  refine dB1 (x := .lst (numb 0 rows)) ?_ rfl
  have := lcL_map (vs := [17, 16]) (g := gTupD 2 (gCo (gN 17) (gCo (gN 16) gNo))) (fe := (dTup (aCons (dBin plusD (dObs 17) (dC (.int 1))) (aCons (dB tupleD (aCons (dObs 16) aNil)) aNil)))) (r := E x2 x3 x4 x5 x6 x7 x8 (some (.lst (rowsL rows), false)) x10 x11 x12) (w := w) (l := enumL 0 (rowsL rows)) (fun d => ((E x2 x3 x4 x5 x6 x7 x8 (some (.lst (rowsL rows), false)) x10 x11 x12).set 17 (some (fst' d, false))).set 16 (some (snd' d, false))) hE (fun d hd => by
    obtain ⟨n, ws, rfl⟩ := enum_form 0 rows d hd
    rfl) (fun d hd => by
    obtain ⟨n, ws, rfl⟩ := enum_form 0 rows d hd
    have e4 : tupleD [.lst (wsD ws)] = some (.tup (wsD ws)) := rfl
    generalize wsD ws = X at *
    simp only [runD, startE, SR.res, sSeq, SR.seq, sIf, Res.en, sRet, sSet, sSetO, sSetF, dVar, dObs, dC, dBin, dUn, Res.bind, Res.of, dNot, dAnd, dOr, dIf, dChain, dB, ResI.toR, aNil, aCons, ResI.mapA, dCall, dTup, dLst, sNext, rel, List.mapIdx_cons, List.mapIdx_nil, List.map_cons, List.map_nil, List.cons_append, List.nil_append, List.append_nil, List.length_cons, List.length_nil, List.replicate_succ, List.replicate_zero, List.getElem?_cons_zero, List.getElem?_cons_succ, all_, these, List.set_cons_zero, List.set_cons_succ, Bool.not_true, Bool.not_false, Bool.and_false, Bool.and_true, Bool.false_and, Bool.true_and, Nat.reduceAdd, Nat.reduceSub, dM, leD, gtD, ltD, isiD, List.contains_nil, Int.reduceLE, Int.reduceLT, decide_true, decide_false, Option.map_some, if_true, if_false, Nat.zero_le, sizeLine_eq, Nat.reduceLeDiff, Int.reduceEq, List.contains_cons, Nat.reduceBEq, Bool.or_false, Bool.or_true, Bool.true_or, Bool.false_or, E, fst', snd', plusD_i, e4, hE]) (by rw [enumL_len, List.length_map, sizeLine_eq]; omega)
  have e : DL.iEnum (aCons (dObs 9) aNil) (E x2 x3 x4 x5 x6 x7 x8 (some (.lst (rowsL rows), false)) x10 x11 x12) w = .ok (enumL 0 (rowsL rows)) w := rfl
  unfold dComp
  rw [e]
  show lcL _ _ _ _ _ _ _ _ = _
  rw [this, enum_numb]
/-! ### faults -/
theorem fault_no {d : D} (w : Wd) (h : d.ty?.isSome = true) (n : isS d = false) : F__law_fault [d] w = .ok (.tup [.int 0, .int 0]) w := by
  have e : F_words_of [d] w = .exc "BadText" [("word", .int 0), ("line", .int 0)] w := by
    unfold F_words_of g_words_of
    simp only [runD, startE, SR.res, sSeq, SR.seq, sIf, Res.en, sRet, sSet, sSetO, sSetF, dVar, dObs, dC, dBin, dUn, Res.bind, Res.of, dNot, dAnd, dOr, dIf, dChain, dB, ResI.toR, aNil, aCons, ResI.mapA, dCall, dTup, dLst, sNext, rel, List.mapIdx_cons, List.mapIdx_nil, List.map_cons, List.map_nil, List.cons_append, List.nil_append, List.append_nil, List.length_cons, List.length_nil, List.replicate_succ, List.replicate_zero, List.getElem?_cons_zero, List.getElem?_cons_succ, all_, these, List.set_cons_zero, List.set_cons_succ, Bool.not_true, Bool.not_false, Bool.and_false, Bool.and_true, Bool.false_and, Bool.true_and, Nat.reduceAdd, Nat.reduceSub, dM, leD, gtD, ltD, isiD, List.contains_nil, Int.reduceLE, Int.reduceLT, decide_true, decide_false, Option.map_some, if_true, if_false, Nat.zero_le, sizeLine_eq, Nat.reduceLeDiff, Int.reduceEq, List.contains_cons, Nat.reduceBEq, Bool.or_false, Bool.or_true, Bool.true_or, Bool.false_or, isi_str h, n, sRaise]
    rfl
  unfold F__law_fault g__law_fault
  simp only [runD, startE, SR.res, sSeq, SR.seq, sIf, Res.en, sRet, sSet, sSetO, sSetF, dVar, dObs, dC, dBin, dUn, Res.bind, Res.of, dNot, dAnd, dOr, dIf, dChain, dB, ResI.toR, aNil, aCons, ResI.mapA, dCall, dTup, dLst, sNext, rel, List.mapIdx_cons, List.mapIdx_nil, List.map_cons, List.map_nil, List.cons_append, List.nil_append, List.append_nil, List.length_cons, List.length_nil, List.replicate_succ, List.replicate_zero, List.getElem?_cons_zero, List.getElem?_cons_succ, all_, these, List.set_cons_zero, List.set_cons_succ, Bool.not_true, Bool.not_false, Bool.and_false, Bool.and_true, Bool.false_and, Bool.true_and, Nat.reduceAdd, Nat.reduceSub, dM, leD, gtD, ltD, isiD, List.contains_nil, Int.reduceLE, Int.reduceLT, decide_true, decide_false, Option.map_some, if_true, if_false, Nat.zero_le, sizeLine_eq, Nat.reduceLeDiff, Int.reduceEq, List.contains_cons, Nat.reduceBEq, Bool.or_false, Bool.or_true, Bool.true_or, Bool.false_or, sTry, sDrop, e]
  rfl
theorem fault_str {s : Str} (w : Wd) (h : s.length + 2 ≤ 16777216) : F__law_fault [.str s] w = .ok .non w := by
  have e := words_of (s := s) w h
  unfold F__law_fault g__law_fault
  simp only [runD, startE, SR.res, sSeq, SR.seq, sIf, Res.en, sRet, sSet, sSetO, sSetF, dVar, dObs, dC, dBin, dUn, Res.bind, Res.of, dNot, dAnd, dOr, dIf, dChain, dB, ResI.toR, aNil, aCons, ResI.mapA, dCall, dTup, dLst, sNext, rel, List.mapIdx_cons, List.mapIdx_nil, List.map_cons, List.map_nil, List.cons_append, List.nil_append, List.append_nil, List.length_cons, List.length_nil, List.replicate_succ, List.replicate_zero, List.getElem?_cons_zero, List.getElem?_cons_succ, all_, these, List.set_cons_zero, List.set_cons_succ, Bool.not_true, Bool.not_false, Bool.and_false, Bool.and_true, Bool.false_and, Bool.true_and, Nat.reduceAdd, Nat.reduceSub, dM, leD, gtD, ltD, isiD, List.contains_nil, Int.reduceLE, Int.reduceLT, decide_true, decide_false, Option.map_some, if_true, if_false, Nat.zero_le, sizeLine_eq, Nat.reduceLeDiff, Int.reduceEq, List.contains_cons, Nat.reduceBEq, Bool.or_false, Bool.or_true, Bool.true_or, Bool.false_or, sTry, sDrop, e]
theorem odd_ok (w : Wd) : ∃ d w', F__law_pick [.pen, .lst [.non, .int 5, .lst [.str "sort a"], .tup [.str "sort a"], .bl true, .dic []]] w = .ok d w' ∧ (d.ty?.isSome = true ∧ isS d = false) := by
  exact pick_in w (by simp) (by decide) (P := fun d => d.ty?.isSome = true ∧ isS d = false) (by
    intro d hd
    simp only [List.mem_cons, List.not_mem_nil, or_false] at hd
    rcases hd with rfl | rfl | rfl | rfl | rfl | rfl <;> exact ⟨rfl, rfl⟩)
end L_k13

set_option Elab.async false
set_option linter.all false
set_option maxRecDepth 100000
set_option maxHeartbeats 400000
namespace L_k13
open PySem PySem.SeqAt PySem.Spec PyProof.Rows L2 DL
theorem retP {fe : EM} {r : DL.Env} {w w' : Wd} {d : D} (hp : plE r = true) (h : fe r w = .ok d w') : (sRet fe r w).res = .ok d w' := by
  unfold sRet
  rw [relP _ hp, h]; rfl
theorem S_nil : SX.S [] = "" := by decide +kernel
theorem plain : ∀ w : Wd, ∃ w', (g_law (lawE 18) w).res = .ok (.bl true) w' := by
  intro w
  obtain ⟨x2, x3, x4, w1, h1⟩ := step1 w
  obtain ⟨x5, w2, h2⟩ := step2 x2 x3 x4 w1
  obtain ⟨t, w3, h3, ht⟩ := drawn w2
  generalize hls : TL.spl [10] 0 [] t = ls at h3
  have hlen : ls.length ≤ 100001 := by
    have := spl_len 10 t []
    rw [hls] at this; omega
  have hwt : wt ls ≤ 100001 := by
    have := spl_wt 10 t []
    rw [hls] at this; simp at this; omega
  have hrows := rwt_rows ls
  have hrl := rwt_len (rowsOf ls)
  have hok : ∀ ws ∈ rowsOf ls, ws ≠ [] ∧ ∀ p ∈ ws, Ok3 p := by rw [← hls]; exact rows_ok
  have htl : TL.tl (SX.S t) = t := rfl
  have htn : (SX.S t).length + 2 ≤ 16777216 := by rw [SX.S_len]; omega
  have h4 : F_words_of [.str (SX.S t)] w3 = .ok (dueT ls) w3 := by rw [words_of w3 htn, htl, hls]
  have hd := due_ne ls
  generalize hR : rowsOf ls = rows at hrows hrl hok
  obtain ⟨P, mk, w4, h8, hmk, hP⟩ := step8 rows x2 x3 x4 x5 (some (.str (SX.S t))) (some (dueT ls)) (some (dueT ls)) w3 (by omega)
  have h9 : F_text_of [P] w4 = .ok (.str (SX.S (txt rows))) w4 := text_of mk hmk hP w4 (by omega)
  have h10 := own_text rows x2 x3 x4 x5 (some (.str (SX.S t))) (some (dueT ls)) (some (dueT ls)) (some P) (some (.str (SX.S (txt rows)))) none w4 (by omega)
  have h10b : F_text_of [.lst []] w4 = .ok (.str (SX.S (txt []))) w4 := text_of (x := .lst []) (rows := []) (fun ws => .lst (wsD ws)) (fun _ => rfl) rfl w4 (by decide)
  have htx : (SX.S (txt rows)).length + 2 ≤ 16777216 := by
    rw [SX.S_len]
    have := rwt_sum rows
    have e : (txt rows).length = ((rows.map fun ws => SX.S (TL.joinL [32] ws ++ [10])).map (·.length)).sum := by
      unfold txt
      rw [List.length_flatten, List.map_map, List.map_map]
      congr 1
    omega
  have h11 : F_words_of [.str (SX.S (txt rows))] w4 = .ok (.tup (numb 0 rows)) w4 := by
    rw [words_of w4 htx, show TL.tl (SX.S (txt rows)) = txt rows from rfl, spl_txt fun ws h => (hok ws h).2, dueL_txt 0 hok]
  have h11b := compEn rows x2 x3 x4 x5 (some (.str (SX.S t))) (some (dueT ls)) (some (dueT ls)) (some P) (some (.str (SX.S (txt rows)))) none w4 (by omega)
  have h11c : neD (.tup (numb 0 rows)) (.tup (numb 0 rows)) = some (.bl false) := by
    have := due_ne (rows.map (TL.joinL [32]) ++ [[]])
    unfold dueT at this
    rw [dueL_txt 0 hok] at this
    exact this
  obtain ⟨o, w5, h12, ho1, ho2⟩ := odd_ok w4
  have h13 := fault_no w5 ho1 ho2
  have h14 := fault_str (s := SX.S t) w5 htn
  refine ⟨w5, ?_⟩
  unfold g_law
  rw [seq_nx h1, seq_nx h2]
  rw [seq_nx (r1 := E x2 x3 x4 x5 (some (.str (SX.S t))) (some (dueT ls)) none none none none none) (w1 := w3) (to0 (call1 rfl h3) rfl)]
  rw [seq_nx (r1 := E x2 x3 x4 x5 (some (.str (SX.S t))) (some (dueT ls)) (some (dueT ls)) none none none none) (w1 := w3) (setP (by simp only [plE, List.all_cons, List.all_nil, plS_pl, plS_none, plS_some, Bool.and_self, Bool.and_true]) (call1 rfl h4))]
  rw [seq_nx (r1 := E x2 x3 x4 x5 (some (.str (SX.S t))) (some (dueT ls)) (some (dueT ls)) none none none none) (w1 := w3) (ifP (by simp only [plE, List.all_cons, List.all_nil, plS_pl, plS_none, plS_some, Bool.and_self, Bool.and_true]) (dOr_f (notN (b := true) (isi_ok (d := dueT ls) rfl rfl)) (dOr_f (dBin_ok (x := dueT ls) (y := dueT ls) rfl rfl hd) (dOr_f (dBin_ok (call1 rfl (w_empty w3)) tup0 neD_e) (dBin_ok (call1 rfl (w_blank w3)) tup0 neD_e)))))]
  rw [seq_nx (r1 := E x2 x3 x4 x5 (some (.str (SX.S t))) (some (dueT ls)) (some (dueT ls)) none none none none) (w1 := w3) (ifP (by simp only [plE, List.all_cons, List.all_nil, plS_pl, plS_none, plS_some, Bool.and_self, Bool.and_true]) (dBin_ok (comp14 ls x2 x3 x4 x5 (some (.str (SX.S t))) (some (dueT ls)) w3 (by omega)) nil_ok neD_nn))]
  have h7 := comp1516 ls x2 x3 x4 x5 (some (.str (SX.S t))) (some (dueT ls)) w3 (by omega)
  rw [hR] at h7
  rw [seq_nx (r1 := E x2 x3 x4 x5 (some (.str (SX.S t))) (some (dueT ls)) (some (dueT ls)) (some (.lst (rowsL rows), true)) none none none) (w1 := w3) (setO_nx h7)]
  rw [seq_nx h8]
  rw [seq_nx (r1 := E x2 x3 x4 x5 (some (.str (SX.S t))) (some (dueT ls)) (some (dueT ls)) (some (.lst (rowsL rows), false)) (some P) (some (.str (SX.S (txt rows)))) none) (w1 := w4) (setP (by simp only [plE, List.all_cons, List.all_nil, plS_pl, plS_none, plS_some, Bool.and_self, Bool.and_true]) (call1 rfl h9))]
  rw [seq_nx (r1 := E x2 x3 x4 x5 (some (.str (SX.S t))) (some (dueT ls)) (some (dueT ls)) (some (.lst (rowsL rows), false)) (some P) (some (.str (SX.S (txt rows)))) none) (w1 := w4) (ifP (by simp only [plE, List.all_cons, List.all_nil, plS_pl, plS_none, plS_some, Bool.and_self, Bool.and_true]) (dOr_f (notN (b := true) (isi_ok (d := .str (SX.S (txt rows))) rfl rfl)) (dOr_f (dBin_ok (x := .str (SX.S (txt rows))) rfl h10 (by rw [neD_str]; simp)) (dBin_ok (call1 nil_ok h10b) rfl (by
    rw [show txt [] = [] from rfl, S_nil, neD_str]; simp)))))]
  rw [seq_nx (r1 := E x2 x3 x4 x5 (some (.str (SX.S t))) (some (dueT ls)) (some (dueT ls)) (some (.lst (rowsL rows), false)) (some P) (some (.str (SX.S (txt rows)))) none) (w1 := w4) (ifP (by simp only [plE, List.all_cons, List.all_nil, plS_pl, plS_none, plS_some, Bool.and_self, Bool.and_true]) (dBin_ok (call1 rfl h11) h11b h11c))]
  rw [seq_nx (r1 := E x2 x3 x4 x5 (some (.str (SX.S t))) (some (dueT ls)) (some (dueT ls)) (some (.lst (rowsL rows), false)) (some P) (some (.str (SX.S (txt rows)))) (some o)) (w1 := w5) (setP (by simp only [plE, List.all_cons, List.all_nil, plS_pl, plS_none, plS_some, Bool.and_self, Bool.and_true]) (by simp only [runD, startE, SR.res, sSeq, SR.seq, sIf, Res.en, sRet, sSet, sSetO, sSetF, dVar, dObs, dC, dBin, dUn, Res.bind, Res.of, dNot, dAnd, dOr, dIf, dChain, dB, ResI.toR, aNil, aCons, ResI.mapA, dCall, dTup, dLst, sNext, rel, List.mapIdx_cons, List.mapIdx_nil, List.map_cons, List.map_nil, List.cons_append, List.nil_append, List.append_nil, List.length_cons, List.length_nil, List.replicate_succ, List.replicate_zero, List.getElem?_cons_zero, List.getElem?_cons_succ, all_, these, List.set_cons_zero, List.set_cons_succ, Bool.not_true, Bool.not_false, Bool.and_false, Bool.and_true, Bool.false_and, Bool.true_and, Nat.reduceAdd, Nat.reduceSub, dM, leD, gtD, ltD, isiD, List.contains_nil, Int.reduceLE, Int.reduceLT, decide_true, decide_false, Option.map_some, if_true, if_false, Nat.zero_le, sizeLine_eq, Nat.reduceLeDiff, Int.reduceEq, List.contains_cons, Nat.reduceBEq, Bool.or_false, Bool.or_true, Bool.true_or, Bool.false_or, E, h12]))]
  refine retP (by simp only [plE, List.all_cons, List.all_nil, plS_pl, plS_none, plS_some, Bool.and_self, Bool.and_true]) (dAnd_t (dBin_ok (call1 rfl h13) (by simp only [runD, startE, SR.res, sSeq, SR.seq, sIf, Res.en, sRet, sSet, sSetO, sSetF, dVar, dObs, dC, dBin, dUn, Res.bind, Res.of, dNot, dAnd, dOr, dIf, dChain, dB, ResI.toR, aNil, aCons, ResI.mapA, dCall, dTup, dLst, sNext, rel, List.mapIdx_cons, List.mapIdx_nil, List.map_cons, List.map_nil, List.cons_append, List.nil_append, List.append_nil, List.length_cons, List.length_nil, List.replicate_succ, List.replicate_zero, List.getElem?_cons_zero, List.getElem?_cons_succ, all_, these, List.set_cons_zero, List.set_cons_succ, Bool.not_true, Bool.not_false, Bool.and_false, Bool.and_true, Bool.false_and, Bool.true_and, Nat.reduceAdd, Nat.reduceSub, dM, leD, gtD, ltD, isiD, List.contains_nil, Int.reduceLE, Int.reduceLT, decide_true, decide_false, Option.map_some, if_true, if_false, Nat.zero_le, sizeLine_eq, Nat.reduceLeDiff, Int.reduceEq, List.contains_cons, Nat.reduceBEq, Bool.or_false, Bool.or_true, Bool.true_or, Bool.false_or, if_true]) (eqD_self rfl (by show (1 : Nat) ≤ 64; decide))) (dBin_ok (call1 rfl h14) rfl rfl))
end L_k13

set_option maxHeartbeats 0
open PySem PySem.W PySem.Calls PyProof.Rows DL
theorem PySem.Challenge.cw_leastwaits_k13_words_holds : PySem.Challenge.rw_leastwaits_k13_words.Holds := by
  w_on; o_law
  refine HandSHeadRun.head_any (r := OpenLaw.row PySem.Challenge.rw_leastwaits_k13_words) (q := view (OpenLaw.row PySem.Challenge.rw_leastwaits_k13_words).prog [32]) (H := L_k13.hk) (ob := L_k13.ob) (M := 20000) (loose := L_k13.names) (d := HandSHeadRun.topDef (OpenLaw.row PySem.Challenge.rw_leastwaits_k13_words).prog 32) (kwd := []) L_k13.ob_eq
    (by kernel_rfl) (fun s => by kernel_rfl) L_k13.run (by kernel_rfl) (by kernel_rfl) (by kernel_rfl) (by rfl) (by first | assumption | decide +kernel) (by decide +kernel) ⟨rfl, rfl, rfl, rfl, rfl, by decide +kernel⟩ ?hw ?hc
  case hw => w_witness2
  case hc =>
    exact walk_ofQ (l := PySem.Challenge.rw_leastwaits_k13_words) (k := 7) (ev := 5) (fa := L_k13.fa) (fn := L_k13.fn) rfl (by kernel_rfl) (by kernel_rfl) ⟨rfl, by decide, by decide⟩ fun w mg a h K KX G hfa c => L_k13.facts KX G hfa c L_k13.plain
#print axioms PySem.Challenge.cw_leastwaits_k13_words_holds

