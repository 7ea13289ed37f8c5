import PyProof.Rows.All
import Wide.All
import OpenK.AllK
import Wide.FinOn
import HandS.ForMost
import HandS.Exc
import HandS.TryMany
import HandS.WordsExc
import KE.DataEq
import HandS.Lambda
import HandS.ExcInit
import HandS.ExcValue
import HandS.Walk
import HandS.TryOnly
import HandS.Comp
import HandS.Iter
import HandS.CallSlots
import HandS.IsInst
import HandS.TupAny
import HandS.WordsList
import KE.GoesNew
import KE.GoesMore
import KE.GoesEnum
import HandS.TupMul
import HandS.Style
import HandS.ExcField
import KE.KExcIs
import HandS.Text
import HandS.StrMore
import HandS.Codes
import HandS.HeadHook2
import HandS.HeadEnd
import HandS.Head2
import HandS.HeadHook4
import HandS.EndTab
import HandS.Conv
import HandS.TupLe
import HandS.HeadHook3
import HandS.OwnEq
import PyProof.InstNe
import KE.KFmtOwn
import PySem.Challenge.RW_leastwaits_k12_answers_of_integers_kept
set_option Elab.async false
set_option linter.all false
set_option maxRecDepth 100000
set_option maxHeartbeats 2000000
namespace DL
open PySem L2

/-- data -/
inductive D where
  | non | bl (b : Bool) | int (i : Int) | str (s : Str) | tup (l : List D) | kup (l : List D) | lst (l : List D)
  | dic (l : List (Key × D)) | dit (l : List (List Key × D)) | obj (c : Str) (fs : List (Str × D)) | pen | clo (f c : Addr) (q : Str) (vs : List V) (ds : List D) | err (n : Str) (fs : List (Str × D)) | brw (d : D)

/-- a code object's table -/
def tabK (K : PySem.W.Frag) (c : Addr) : Addr := match K.lookup c with
  | some ⟨_, _, .fields vs, _⟩ => (match vs.getD 11 .none with
    | .ref P => P
    | _ => 0)
  | _ => 0
/-- the defs of the written part: code object, its table, the name -/
def TF (K : PySem.W.Frag) : List (Addr × Addr × Str) := K.filterMap fun q => match q.2.data with
  | .func fd => (match fd.code with
    | .ref c => some (c, tabK K c, fd.qualname)
    | _ => none)
  | _ => none
def TK (K : PySem.W.Frag) : List (Addr × Str) := (TF K).map fun t => (t.2.1, (t.2.2 ++ ".<locals>.") ++ "<lambda>")
/-- where the cells stand; the tables of code objects that are known -/
structure Lx where
  a : Addr
  T : List (Addr × Str)
  /-- the heap in which borrowed data was seen, and its lists -/
  G : Hp
  S : Addr → Prop
mutual
/-- v is, in G, a tree of lists and tuples, its lists in S -/
inductive TrR (S : Addr → Prop) (G : Hp) : V → D → Prop
  | non : TrR S G .non .non
  | bl (b : Bool) : TrR S G (.bl b) (.bl b)
  | int (i : Int) : TrR S G (.int i) (.int i)
  | str (x : Str) : TrR S G (.str x) (.str x)
  | tup {a : Addr} {vs : List V} {ds : List D} : G a = some (.tup vs) → TrRL S G vs ds → TrR S G (.ref a) (.tup ds)
  | lst {a : Addr} {vs : List V} {ds : List D} : G a = some (.lst vs) → S a → TrRL S G vs ds → TrR S G (.ref a) (.lst ds)
inductive TrRL (S : Addr → Prop) (G : Hp) : List V → List D → Prop
  | nil : TrRL S G [] []
  | cons {v : V} {d : D} {vs : List V} {ds : List D} : TrR S G v d → TrRL S G vs ds → TrRL S G (v :: vs) (d :: ds)
end
/-- the fixed things of a run: the written part, the module's names, the pen's address -/
structure Cf where
  K : PySem.W.Frag
  mg : Str → Option Value
  p : Addr
  lc : Lx

abbrev noH : Hp := fun _ => none
/-- at a: an own error of the class at C with its fields, or without any dict -/
def EShape (p : Addr) (A : Addr → Prop) (H : Hp) (a C : Addr) (fvs : List (Str × V)) : Prop := ¬ A a ∧ a ≠ p ∧ ((∃ dx, H a = some (exo a C (some dx)) ∧ H dx = some (exd dx fvs) ∧ ¬ A dx ∧ dx ≠ p) ∨ (H a = some (ExO (.ref C) a) ∧ fvs = []))
mutual
/-- v, in H, is the data d, with no object of A in it -/
inductive Rep (c : Cf) (A : Addr → Prop) (H : Hp) : V → D → Prop
  | non : Rep c A H .non .non
  | bl (b : Bool) : Rep c A H (.bl b) (.bl b)
  | int (i : Int) : Rep c A H (.int i) (.int i)
  | str (x : Str) : Rep c A H (.str x) (.str x)
  | tup {a : Addr} {vs : List V} {ds : List D} : H a = some (.tup vs) → ¬ A a → a ≠ c.p → RepL c A H vs ds → Rep c A H (.ref a) (.tup ds)
  | tupK {a : Addr} {vs : List V} {ds : List D} : SqT c.K noH a vs → RepL c A H vs ds → Rep c A H (.ref a) (.kup ds)
  | lst {a : Addr} {vs : List V} {ds : List D} : H a = some (.lst vs) → ¬ A a → (a ≠ c.p ∧ a ≠ c.lc.a) → RepL c A H vs ds → Rep c A H (.ref a) (.lst ds)
  | dic {a : Addr} {kvs : List (Key × V)} {kds : List (Key × D)} : Rd H a (.dK kvs) → ¬ A a → a ≠ c.p → kvs.map (·.1) = kds.map (·.1) → RepL c A H (kvs.map (·.2)) (kds.map (·.2)) → Rep c A H (.ref a) (.dic kds)
  | dit {a : Addr} {kvs : List (List Key × V)} {kds : List (List Key × D)} : Rd H a (.dT kvs) → ¬ A a → a ≠ c.p → kvs.map (·.1) = kds.map (·.1) → RepL c A H (kvs.map (·.2)) (kds.map (·.2)) → Rep c A H (.ref a) (.dit kds)
  | obj {a C dx : Addr} {n : Str} {fvs : List (Str × V)} {fds : List (Str × D)} : c.mg n = some (.ref C) → H a = some (.ins C dx fvs) → ¬ A a → a ≠ c.p → fvs.map (·.1) = fds.map (·.1) → RepL c A H (fvs.map (·.2)) (fds.map (·.2)) → Rep c A H (.ref a) (.obj n fds)
  | pen : Rep c A H (.ref c.p) .pen
  | err {a C : Addr} {n : Str} {fvs : List (Str × V)} {fds : List (Str × D)} : c.mg n = some (.ref C) → EShape c.p A H a C fvs → fvs.map (·.1) = fds.map (·.1) → RepL c A H (fvs.map (·.2)) (fds.map (·.2)) → Rep c A H (.ref a) (.err n fds)
  | clo {f c' : Addr} {q : Str} {vs : List V} {ds : List D} : H c' = some (LamX.CodeO c' q) → ¬ A c' → c' ≠ c.p → RepL c A H vs ds → Rep c A H (.ref f) (.clo f c' q vs ds)
  | brw {v : V} {d : D} : TrR c.lc.S c.lc.G v d → v ≠ .non → Rep c A H v (.brw d)
inductive RepL (c : Cf) (A : Addr → Prop) (H : Hp) : List V → List D → Prop
  | nil : RepL c A H [] []
  | cons {v : V} {d : D} {vs : List V} {ds : List D} : Rep c A H v d → RepL c A H vs ds → RepL c A H (v :: vs) (d :: ds)
end

/-- all but the pen is as it was, and the pen is there -/
def NT : HO → Prop
  | .tbl _ => False
  | _ => True
/-- what may be owned -/
def WO : HO → Prop
  | .lst _ => True
  | .dK _ => True
  | .dT _ => True
  | .ins _ _ _ => True
  | _ => False
theorem WO.nt {o : HO} (h : WO o) : NT o := by cases o <;> first | exact h.elim | trivial
structure Kp (p : Addr) (H H' : Hp) : Prop where
  k : ∀ b o, b ≠ p → NT o → H b = some o → H' b = some o
  t : ∀ b, (∃ o, H b = some o ∧ NT o) → ∃ o, H' b = some o ∧ NT o
/-- nothing but a table stands there -/
def Fr (H : Hp) (a : Addr) : Prop := ∀ o, H a = some o → ¬ NT o
theorem fr_none {H : Hp} {a : Addr} (h : H a = none) : Fr H a := fun o e => by rw [h] at e; cases e
instance {H : Hp} {a : Addr} : Coe (H a = none) (Fr H a) := ⟨fr_none⟩
/-- all but the pen and A's -/
def KpA (p : Addr) (A : Addr → Prop) (H H' : Hp) : Prop := ∀ b o, ¬ A b → b ≠ p → NT o → H b = some o → H' b = some o
theorem Kp.refl {p : Addr} {H : Hp} : Kp p H H := ⟨fun _ _ _ _ h => h, fun _ h => h⟩
theorem Kp.trans {p : Addr} {H H1 H2 : Hp} (a : Kp p H H1) (b : Kp p H1 H2) : Kp p H H2 := ⟨fun c o n m h => b.k c o n m (a.k c o n m h), fun c h => b.t c (a.t c h)⟩
theorem Kp.a {p : Addr} {A : Addr → Prop} {H H' : Hp} (k : Kp p H H') : KpA p A H H' := fun b o _ n m h => k.k b o n m h
theorem Kp.of {p : Addr} {H H' : Hp} (k : Same H H') : Kp p H H' := ⟨fun b o _ _ h => k b o h, fun b ⟨o, h, n⟩ => ⟨o, k b o h, n⟩⟩
theorem same_new {q : Addr} {H : Hp} {o : HO} (h : H q = none) : Same H (upd H q o) := fun a u e => by rw [upd_ne (ne_of_none e h)]; exact e
theorem Kp.tr {p a : Addr} {H H' : Hp} (k : Kp p H H') (h : ∃ o, H a = some o ∧ NT o) : ∃ o, H' a = some o ∧ NT o := k.t a h
theorem Kp.free {p q : Addr} {H H' : Hp} (k : Kp p H H') (h : Fr H' q) : Fr H q := fun o e n => by
  obtain ⟨u, z, m⟩ := k.tr ⟨o, e, n⟩; exact h u z m
theorem KpA.upd {p q : Addr} {A : Addr → Prop} {H : Hp} {o : HO} (h : A q) : KpA p A H (upd H q o) := fun b u n _ _ e => by
  rw [upd_ne (fun z => n (by rw [z]; exact h))]; exact e
theorem Rd.keepA {p a : Addr} {A : Addr → Prop} {H H' : Hp} {u : HO} (k : KpA p A H H') (n : ¬ A a) (m : a ≠ p) (t : NT u) (h : Rd H a u) : Rd H' a u := by
  rcases h with h | ⟨o, h⟩
  · exact .inl (k a _ n m t h)
  · exact .inr ⟨o, k a _ n m trivial h⟩

theorem EShape.keepA {p : Addr} {A : Addr → Prop} {H H' : Hp} {a C : Addr} {fvs : List (Str × V)} (k : KpA p A H H') (h : EShape p A H a C fvs) : EShape p A H' a C fvs := by
  obtain ⟨n, m, h⟩ := h
  refine ⟨n, m, ?_⟩
  rcases h with ⟨dx, h1, h2, h3, h4⟩ | ⟨h1, h2⟩
  · exact .inl ⟨dx, k _ _ n m trivial h1, k _ _ h3 h4 trivial h2, h3, h4⟩
  · exact .inr ⟨k _ _ n m trivial h1, h2⟩
theorem EShape.to {p : Addr} {A A' : Addr → Prop} {H : Hp} {a C : Addr} {fvs : List (Str × V)} (k : ∀ a, A' a → A a ∨ Fr H a) (h : EShape p A H a C fvs) : EShape p A' H a C fvs := by
  obtain ⟨n, m, h⟩ := h
  rcases h with ⟨dx, h1, h2, h3, h4⟩ | ⟨h1, h2⟩
  · exact ⟨fun z => (k _ z).elim n fun e => e _ h1 trivial, m, .inl ⟨dx, h1, h2, fun z => (k _ z).elim h3 fun e => e _ h2 trivial, h4⟩⟩
  · exact ⟨fun z => (k _ z).elim n fun e => e _ h1 trivial, m, .inr ⟨h1, h2⟩⟩
mutual
theorem Rep.keepA {c : Cf} {A : Addr → Prop} {H H' : Hp} (k : KpA c.p A H H') : ∀ {v : V} {d : D}, Rep c A H v d → Rep c A H' v d
  | _, _, .non => .non
  | _, _, .bl b => .bl b
  | _, _, .int i => .int i
  | _, _, .str x => .str x
  | _, _, .tup h n m r => .tup (k _ _ n m trivial h) n m (RepL.keepA k r)
  | _, _, .tupK h r => .tupK h (RepL.keepA k r)
  | _, _, .lst h n m r => .lst (k _ _ n m.1 trivial h) n m (RepL.keepA k r)
  | _, _, .brw h n => .brw h n
  | _, _, .dic h n m e r => .dic (Rd.keepA k n m trivial h) n m e (RepL.keepA k r)
  | _, _, .dit h n m e r => .dit (Rd.keepA k n m trivial h) n m e (RepL.keepA k r)
  | _, _, .obj g h n m e r => .obj g (k _ _ n m trivial h) n m e (RepL.keepA k r)
  | _, _, .pen => .pen
  | _, _, .clo h n m r => .clo (k _ _ n m trivial h) n m (RepL.keepA k r)
  | _, _, .err g h e r => .err g (h.keepA k) e (RepL.keepA k r)
theorem RepL.keepA {c : Cf} {A : Addr → Prop} {H H' : Hp} (k : KpA c.p A H H') : ∀ {vs : List V} {ds : List D}, RepL c A H vs ds → RepL c A H' vs ds
  | _, _, .nil => .nil
  | _, _, .cons h r => .cons (Rep.keepA k h) (RepL.keepA k r)
end
mutual
/-- A may grow by what is not tracked, and shrink -/
theorem Rep.to {c : Cf} {A A' : Addr → Prop} {H : Hp} (k : ∀ a, A' a → A a ∨ Fr H a) : ∀ {v : V} {d : D}, Rep c A H v d → Rep c A' H v d
  | _, _, .non => .non
  | _, _, .bl b => .bl b
  | _, _, .int i => .int i
  | _, _, .str x => .str x
  | _, _, .tup h n m r => .tup h (fun z => (k _ z).elim n fun e => e _ h trivial) m (RepL.to k r)
  | _, _, .tupK h r => .tupK h (RepL.to k r)
  | _, _, .lst h n m r => .lst h (fun z => (k _ z).elim n fun e => e _ h trivial) m (RepL.to k r)
  | _, _, .brw h n => .brw h n
  | _, _, .dic h n m e r => .dic h (fun z => (k _ z).elim n fun e => by rcases h with h | ⟨_, h⟩ <;> exact e _ h trivial) m e (RepL.to k r)
  | _, _, .dit h n m e r => .dit h (fun z => (k _ z).elim n fun e => by rcases h with h | ⟨_, h⟩ <;> exact e _ h trivial) m e (RepL.to k r)
  | _, _, .obj g h n m e r => .obj g h (fun z => (k _ z).elim n fun e => e _ h trivial) m e (RepL.to k r)
  | _, _, .pen => .pen
  | _, _, .clo h n m r => .clo h (fun z => (k _ z).elim n fun e => e _ h trivial) m (RepL.to k r)
  | _, _, .err g h e r => .err g (h.to k) e (RepL.to k r)
theorem RepL.to {c : Cf} {A A' : Addr → Prop} {H : Hp} (k : ∀ a, A' a → A a ∨ Fr H a) : ∀ {vs : List V} {ds : List D}, RepL c A H vs ds → RepL c A' H vs ds
  | _, _, .nil => .nil
  | _, _, .cons h r => .cons (Rep.to k h) (RepL.to k r)
end

/-! ### the world: the pen's state -/
structure Wd where
  cells : List Int
  at_ : Int
  dg : Int
  ct : Int
  fo : Int
  at0 : 0 ≤ at_
  dg0 : 0 ≤ dg
  ct0 : 0 ≤ ct
  fo0 : 0 ≤ fo
  fo1 : fo < 2 ^ 31
  cl : cells.length ≤ 63
/-- the pen's dict -/
def penKvs (lc : Addr) (w : Wd) : List (Key × V) := [(.inr "cells", .ref lc), (.inr "at", .int w.at_), (.inr "digits", .int w.dg), (.inr "count", .int w.ct), (.inr "fold", .int w.fo)]
def wlim : Int := 2 ^ 40
structure Wd.Ok (w : Wd) : Prop where
  at0 : 0 ≤ w.at_
  dg0 : 0 ≤ w.dg
  ct0 : 0 ≤ w.ct
  fo0 : 0 ≤ w.fo
  fo1 : w.fo < 2 ^ 31
theorem Wd.isOk (w : Wd) : w.Ok := ⟨w.at0, w.dg0, w.ct0, w.fo0, w.fo1⟩
/-- the pen stands at p, or none does -/
def PenAt (p : Addr) (lc : Lx) (A : Addr → Prop) (H : Hp) (w : Wd) : Prop := (w.Ok ∧ LamX.Tabs lc.T H) ∧ w.cells.length ≤ 63 ∧ H p = some (.dK (penKvs lc.a w)) ∧ H lc.a = some (.lst (w.cells.map V.int)) ∧ ¬ A lc.a ∧ ¬ A p ∧ lc.a ≠ p

abbrev Slot := Option (D × Bool)
abbrev Env := List Slot
/-- what an expression comes to -/
inductive Res where
  | ok (d : D) (w : Wd)
  | exc (n : Str) (fs : List (Str × D)) (w : Wd)
  | bad
/-- what a statement comes to -/
inductive SR where
  | nx (r : Env) (w : Wd)
  | rt (d : D) (w : Wd)
  | bk (r : Env) (w : Wd)
  | ct (r : Env) (w : Wd)
  | exc (n : Str) (fs : List (Str × D)) (r : Env) (w : Wd)
  | bad
abbrev EM := Env → Wd → Res
abbrev SM := Env → Wd → SR

/-- what is fixed through a call: the pen, what the callers own, the heap at the entry -/
structure Bs where
  p : Addr
  lc : Lx
  A0 : Addr → Prop
  H0 : Hp
abbrev Bs.cf (B : Bs) (K : PySem.W.Frag) (mg : Str → Option Value) : Cf := ⟨K, mg, B.p, B.lc⟩
/-- an owned object at a: what it holds avoids A -/
def OwnR (c : Cf) (A : Addr → Prop) (H : Hp) (a : Addr) : D → Prop
  | .lst ds => ∃ vs, H a = some (.lst vs) ∧ RepL c A H vs ds
  | .dic kds => ∃ kvs, H a = some (.dK kvs) ∧ kvs.map (·.1) = kds.map (·.1) ∧ RepL c A H (kvs.map (·.2)) (kds.map (·.2))
  | .dit kds => ∃ kvs, H a = some (.dT kvs) ∧ kvs.map (·.1) = kds.map (·.1) ∧ RepL c A H (kvs.map (·.2)) (kds.map (·.2))
  | .obj n fds => ∃ C dx fvs, c.mg n = some (.ref C) ∧ H a = some (.ins C dx fvs) ∧ fvs.map (·.1) = fds.map (·.1) ∧ RepL c A H (fvs.map (·.2)) (fds.map (·.2))
  | _ => False
theorem OwnR.keepA {c : Cf} {A : Addr → Prop} {H H' : Hp} {a : Addr} {d : D} (k : KpA c.p A H H') (e : ∀ o, NT o → H a = some o → H' a = some o) (h : OwnR c A H a d) : OwnR c A H' a d := by
  cases d <;> first | exact h.elim | skip
  · obtain ⟨vs, h1, h2⟩ := h; exact ⟨vs, e _ trivial h1, h2.keepA k⟩
  · obtain ⟨vs, h1, h0, h2⟩ := h; exact ⟨vs, e _ trivial h1, h0, h2.keepA k⟩
  · obtain ⟨vs, h1, h0, h2⟩ := h; exact ⟨vs, e _ trivial h1, h0, h2.keepA k⟩
  · obtain ⟨C, dx, vs, g, h1, h0, h2⟩ := h; exact ⟨C, dx, vs, g, e _ trivial h1, h0, h2.keepA k⟩
theorem OwnR.to {c : Cf} {A A' : Addr → Prop} {H : Hp} {a : Addr} {d : D} (k : ∀ a, A' a → A a ∨ Fr H a) (h : OwnR c A H a d) : OwnR c A' H a d := by
  cases d <;> first | exact h.elim | skip
  · obtain ⟨vs, h1, h2⟩ := h; exact ⟨vs, h1, h2.to k⟩
  · obtain ⟨vs, h1, h0, h2⟩ := h; exact ⟨vs, h1, h0, h2.to k⟩
  · obtain ⟨vs, h1, h0, h2⟩ := h; exact ⟨vs, h1, h0, h2.to k⟩
  · obtain ⟨C, dx, vs, g, h1, h0, h2⟩ := h; exact ⟨C, dx, vs, g, h1, h0, h2.to k⟩
/-- an owned object is tracked -/
theorem OwnR.some {c : Cf} {A : Addr → Prop} {H : Hp} {a : Addr} {d : D} (h : OwnR c A H a d) : ∃ o, H a = some o ∧ WO o := by
  cases d <;> first | exact h.elim | skip
  · obtain ⟨vs, h1, h2⟩ := h; exact ⟨_, h1, trivial⟩
  · obtain ⟨vs, h1, h0, h2⟩ := h; exact ⟨_, h1, trivial⟩
  · obtain ⟨vs, h1, h0, h2⟩ := h; exact ⟨_, h1, trivial⟩
  · obtain ⟨C, dx, vs, g, h1, h0, h2⟩ := h; exact ⟨_, h1, trivial⟩
/-- let go: it is plain data -/
theorem OwnR.rep {c : Cf} {A : Addr → Prop} {H : Hp} {a : Addr} {d : D} (n : ¬ A a) (m : a ≠ c.p ∧ a ≠ c.lc.a) (h : OwnR c A H a d) : Rep c A H (.ref a) d := by
  cases d <;> first | exact h.elim | skip
  · obtain ⟨vs, h1, h2⟩ := h; exact .lst h1 n m h2
  · obtain ⟨vs, h1, h0, h2⟩ := h; exact .dic (.inl h1) n m.1 h0 h2
  · obtain ⟨vs, h1, h0, h2⟩ := h; exact .dit (.inl h1) n m.1 h0 h2
  · obtain ⟨C, dx, vs, g, h1, h0, h2⟩ := h; exact .obj g h1 n m.1 h0 h2

/-- what is fixed of a call -/
structure LcOk (K : PySem.W.Frag) (mg : Str → Option Value) (p : Addr) (lc : Lx) (H : Hp) : Prop where
  t : lc.T = TK K
  g : Kp p lc.G H
  s : ∀ a, lc.S a → a ≠ p ∧ a ≠ lc.a
  n : ∀ vs, lc.G p ≠ some (.tup vs)
theorem LcOk.keep {K : PySem.W.Frag} {mg : Str → Option Value} {p : Addr} {lc : Lx} {H H' : Hp} (h : LcOk K mg p lc H) (k : Kp p H H') : LcOk K mg p lc H' := ⟨h.t, h.g.trans k, h.s, h.n⟩
structure BOk (K : PySem.W.Frag) (mg : Str → Option Value) (B : Bs) : Prop where
  l : LcOk K mg B.p B.lc B.H0
  a : ∃ o, B.H0 B.lc.a = some o ∧ NT o
  n : ¬ B.A0 B.lc.a
/-- the slots σ in the heap H are the environment r; A: all that is owned, here or by callers -/
structure StOk (K : PySem.W.Frag) (mg : Str → Option Value) (B : Bs) (A : Addr → Prop) (σ : L2.St) (H : Hp) (r : Env) : Prop where
  kp : Kp B.p B.H0 H
  tp : ∃ o, H B.p = some o ∧ NT o
  tr : ∀ a, A a → ∃ o, H a = some o ∧ WO o
  a0 : ∀ a, B.A0 a → A a
  t0 : ∀ a, B.A0 a → ∃ o, B.H0 a = some o ∧ NT o
  ax : ∀ a, A a → B.A0 a ∨ Fr B.H0 a
  np : ¬ A B.p
  pl : ∀ (i : Nat) (d : D), r[i]? = some (some (d, false)) → ∃ v, σ[i]? = some (some v) ∧ Rep (B.cf K mg) A H v d
  ow : ∀ (i : Nat) (d : D), r[i]? = some (some (d, true)) → ∃ a, σ[i]? = some (some (.ref a)) ∧ A a ∧ Fr B.H0 a ∧ OwnR (B.cf K mg) A H a d
  ne : ∀ (i j : Nat) (d e : D) (a : Addr), r[i]? = some (some (d, true)) → r[j]? = some (some (e, true)) → σ[i]? = some (some (.ref a)) → σ[j]? = some (some (.ref a)) → i = j
  ln : r.length = σ.length
  tq : BOk K mg B
theorem StOk.lco {K : PySem.W.Frag} {mg : Str → Option Value} {B : Bs} {A : Addr → Prop} {σ : L2.St} {H : Hp} {r : Env} (h : StOk K mg B A σ H r) : LcOk K mg B.p B.lc H := h.tq.l.keep h.kp
theorem StOk.nl {K : PySem.W.Frag} {mg : Str → Option Value} {B : Bs} {A : Addr → Prop} {σ : L2.St} {H : Hp} {r : Env} (h : StOk K mg B A σ H r) {a : Addr} (q : A a) : a ≠ B.lc.a := fun e => by
  subst e
  obtain ⟨o, z, n⟩ := h.tq.a
  exact (h.ax _ q).elim h.tq.n fun f => f o z n
theorem StOk.nlf {K : PySem.W.Frag} {mg : Str → Option Value} {B : Bs} {A : Addr → Prop} {σ : L2.St} {H : Hp} {r : Env} (h : StOk K mg B A σ H r) {a : Addr} (q : Fr H a) : a ≠ B.lc.a := fun e => by
  subst e
  obtain ⟨o, z, n⟩ := h.kp.t _ h.tq.a
  exact q o z n
theorem StOk.keep {K : PySem.W.Frag} {mg : Str → Option Value} {B : Bs} {A : Addr → Prop} {σ : L2.St} {H H' : Hp} {r : Env} (k : Kp B.p H H') (h : StOk K mg B A σ H r) : StOk K mg B A σ H' r where
  kp := h.kp.trans k
  tp := k.tr h.tp
  tr := fun a q => let ⟨o, e, w⟩ := h.tr a q; ⟨o, k.k a o (fun z => h.np (z ▸ q)) w.nt e, w⟩
  a0 := h.a0
  t0 := h.t0
  ax := h.ax
  np := h.np
  pl := fun i d e => let ⟨v, h1, h2⟩ := h.pl i d e; ⟨v, h1, h2.keepA (Kp.a k)⟩
  ow := fun i d e => let ⟨a, h1, h2, h3, h4⟩ := h.ow i d e; ⟨a, h1, h2, h3, h4.keepA (Kp.a k) fun o m q => k.k a o (fun z => h.np (z ▸ h2)) m q⟩
  ne := h.ne
  ln := h.ln
  tq := h.tq
theorem StOk.fresh {K : PySem.W.Frag} {mg : Str → Option Value} {B : Bs} {A : Addr → Prop} {σ : L2.St} {H : Hp} {r : Env} {q : Addr} (h : StOk K mg B A σ H r) (n : H q = none) : ¬ A q ∧ q ≠ B.p :=
  ⟨fun z => (by obtain ⟨o, e, _⟩ := h.tr q z; rw [n] at e; cases e), fun z => (by obtain ⟨o, e, _⟩ := h.tp; rw [← z, n] at e; cases e)⟩
theorem StOk.freshF {K : PySem.W.Frag} {mg : Str → Option Value} {B : Bs} {A : Addr → Prop} {σ : L2.St} {H : Hp} {r : Env} {q : Addr} (h : StOk K mg B A σ H r) (n : Fr H q) : ¬ A q ∧ q ≠ B.p :=
  ⟨fun z => (by obtain ⟨o, e, w⟩ := h.tr q z; exact n o e w.nt), fun z => (by obtain ⟨o, e, w⟩ := h.tp; exact n o (by rw [z]; exact e) w)⟩
theorem PenAt.keep {p : Addr} {lc : Lx} {A : Addr → Prop} {H H' : Hp} {w : Wd} (k : Same H H') (h : PenAt p lc A H w) : PenAt p lc A H' w := by
  obtain ⟨o, l, h1, h2, h3⟩ := h; exact ⟨⟨o.1, o.2.ext k⟩, l, k _ _ h1, k _ _ h2, h3⟩

/-! ### what an expression comes to, over the layer -/
def Res.bind : Res → (D → Wd → Res) → Res
  | .ok d w, k => k d w
  | .exc n fs w, _ => .exc n fs w
  | .bad, _ => .bad
/-- an error of the class named n, with its fields -/
def ErrR (c : Cf) (A : Addr → Prop) (n : Str) (fs : List (Str × D)) (cls : Value) (dd : Option Addr) (H : Hp) : Prop :=
  ∃ C, cls = .ref C ∧ c.mg n = some (.ref C) ∧ match dd with
    | none => fs = []
    | some x => ∃ fvs, H x = some (.xd fvs) ∧ x ≠ c.p ∧ ¬ A x ∧ fvs.map (·.1) = fs.map (·.1) ∧ RepL c A H (fvs.map (·.2)) (fs.map (·.2))
abbrev RK := Cf → (Addr → Prop) → Hp → Hp → V → D → Prop
/-- plain data | data or an owned object, looked at | a new object that nobody has -/
def rE : RK := fun c A _ H' v d => Rep c A H' v d
def rO : RK := fun c A _ H' v d => Rep c A H' v d ∨ ∃ a, v = .ref a ∧ A a ∧ OwnR c A H' a d
def rF : RK := fun c A H H' v d => ∃ a, v = .ref a ∧ Fr H a ∧ OwnR c (fun b => A b ∨ b = a) H' a d
class RKm (R : RK) : Prop where
  back : ∀ {c A H H1 H' v d}, Kp c.p H H1 → R c A H1 H' v d → R c A H H' v d
instance : RKm rE := ⟨fun _ h => h⟩
instance : RKm rO := ⟨fun _ h => h⟩
instance : RKm rF := ⟨fun k ⟨a, h1, h2, h3⟩ => ⟨a, h1, k.free h2, h3⟩⟩
def Post (c : Cf) (A : Addr → Prop) (σ : L2.St) (H : Hp) (R : RK) (W : WX) (Q : VK) : Res → Prop
  | .ok d w => ∀ v H', Kp c.p H H' → PenAt c.p c.lc A H' w → R c A H H' v d → Q v H'
  | .exc n fs w => ∀ cls dd H', Kp c.p H H' → PenAt c.p c.lc A H' w → ErrR c A n fs cls dd H' → W cls dd σ H'
  | .bad => False
theorem Post.at {c : Cf} {A : Addr → Prop} {σ : L2.St} {H H1 : Hp} {R : RK} [RKm R] {W : WX} {Q : VK} {x : Res} (k : Kp c.p H H1) (h : Post c A σ H R W Q x) : Post c A σ H1 R W Q x := by
  cases x with
  | ok d w => exact fun v H' k' p r => h v H' (k.trans k') p (RKm.back k r)
  | exc n fs w => exact fun cls dd H' k' p r => h cls dd H' (k.trans k') p r
  | bad => exact h
theorem Post.bind {c : Cf} {A : Addr → Prop} {σ : L2.St} {H : Hp} {R R1 : RK} [RKm R] {W : WX} {Q Q1 : VK} {x : Res} {k : D → Wd → Res} (h : Post c A σ H R W Q (x.bind k))
    (hk : ∀ d w v H1, Kp c.p H H1 → PenAt c.p c.lc A H1 w → R1 c A H H1 v d → Post c A σ H1 R W Q (k d w) → Q1 v H1) : Post c A σ H R1 W Q1 x := by
  cases x with
  | ok d w => exact fun v H' k' p r => hk d w v H' k' p r (Post.at k' h)
  | exc n fs w => exact h
  | bad => exact h
/-- the reading of an expression that comes to f -/
def tV (K : PySem.W.Frag) (mg : Str → Option Value) (R : RK) (W : WX) (f : EM) : TE := fun σ H Q =>
  ∃ (B : Bs) (A : Addr → Prop) (r : Env) (w : Wd), StOk K mg B A σ H r ∧ PenAt B.p B.lc A H w ∧ Post (B.cf K mg) A σ H R W Q (f r w)
abbrev VE (X : Cx) (R : RK) (W : WX) (e : Expr) (f : EM) : Prop := PE X e (tV X.K X.mg R W f)
theorem weak {X : Cx} {e : Expr} {t t' : TE} (h : PE X e t) (k : ∀ σ H Q, t' σ H Q → t σ H Q) : PE X e t' := ⟨fun pins s σ H Q I q => h.run pins s σ H Q I (k σ H Q q)⟩
theorem ve_o {X : Cx} {W : WX} {e : Expr} {f : EM} (h : VE X rE W e f) : VE X rO W e f := weak h fun σ H Q ⟨B, A, r, w, hs, hp, q⟩ => ⟨B, A, r, w, hs, hp, by
  cases z : f r w with
  | ok d w' => rw [z] at q; exact fun v H' k p r => q v H' k p (.inl r)
  | exc n fs w' => rw [z] at q; exact q
  | bad => rw [z] at q; exact q⟩
/-- a new object is plain data -/
theorem ve_f {X : Cx} {W : WX} {e : Expr} {f : EM} (h : VE X rF W e f) : VE X rE W e f := weak h fun σ H Q ⟨B, A, r, w, hs, hp, q⟩ => ⟨B, A, r, w, hs, hp, by
  cases z : f r w with
  | ok d w' => rw [z] at q; exact fun v H' k p ⟨a, e, n, o⟩ => by subst e; exact q _ H' k p ((o.to fun b z => .inl (.inl z)).rep (hs.freshF n).1 ⟨(hs.freshF n).2, hs.nlf n⟩)
  | exc n fs w' => rw [z] at q; exact q
  | bad => rw [z] at q; exact q⟩
end DL

set_option Elab.async false
set_option linter.all false
set_option maxRecDepth 100000
set_option maxHeartbeats 2000000
namespace DL
open PySem PyProof.Rows L2
section
variable {X : Cx} {W : WX} {R : RK} {a b e : Expr} {fa fb fc : EM} {pos : Pos}

/-! ### names, constants -/
def dVar (i : Nat) : EM := fun r w => match r[i]? with
  | some (some (d, false)) => .ok d w
  | _ => .bad
def dObs (i : Nat) : EM := fun r w => match r[i]? with
  | some (some (d, _)) => .ok d w
  | _ => .bad
def dC (d : D) : EM := fun _ w => .ok d w
theorem ve_var (i : Nat) {x : Str} (hN : X.N[i]? = some x := by rfl) (hv : Vis X.env.scope x := by first | exact Or.inl rfl | exact Or.inr (Or.inl rfl) | exact Or.inr (Or.inr rfl)) (hd : (x == ("__debug__" : Str)) = false := by decide)
    (hcd : (x == ("__classdict__" : Str)) = false := by decide) : VE X rE W (.Name x pos) (dVar i) := weak (pe_var hN hv hd hcd) fun σ H Q ⟨B, A, r, w, hs, hp, q⟩ => by
  unfold dVar at q
  split at q
  · rename_i d h
    obtain ⟨v, h1, h2⟩ := hs.pl i d h
    exact ⟨v, h1, q v H Kp.refl hp h2⟩
  · exact q.elim
theorem vo_var (i : Nat) {x : Str} (hN : X.N[i]? = some x := by rfl) (hv : Vis X.env.scope x := by first | exact Or.inl rfl | exact Or.inr (Or.inl rfl) | exact Or.inr (Or.inr rfl)) (hd : (x == ("__debug__" : Str)) = false := by decide)
    (hcd : (x == ("__classdict__" : Str)) = false := by decide) : VE X rO W (.Name x pos) (dObs i) := weak (pe_var hN hv hd hcd) fun σ H Q ⟨B, A, r, w, hs, hp, q⟩ => by
  unfold dObs at q
  split at q
  · rename_i d o h
    cases o with
    | false =>
      obtain ⟨v, h1, h2⟩ := hs.pl i d h
      exact ⟨v, h1, q v H Kp.refl hp (.inl h2)⟩
    | true =>
      obtain ⟨a, h1, hA, _, h2⟩ := hs.ow i d h
      exact ⟨_, h1, q _ H Kp.refl hp (.inr ⟨a, rfl, hA, h2⟩)⟩
  · exact q.elim
theorem ve_int {i j} : VE X rE W (.Constant (.int i) j pos) (dC (.int i)) := weak pe_int fun σ H Q ⟨B, A, r, w, hs, hp, q⟩ => q _ H Kp.refl hp (.int i)
theorem ve_bl {i j} : VE X rE W (.Constant (.bool i) j pos) (dC (.bl i)) := weak pe_bl fun σ H Q ⟨B, A, r, w, hs, hp, q⟩ => q _ H Kp.refl hp (.bl i)
theorem ve_non {j} : VE X rE W (.Constant .none j pos) (dC .non) := weak pe_non fun σ H Q ⟨B, A, r, w, hs, hp, q⟩ => q _ H Kp.refl hp .non
theorem ve_str {i j} : VE X rE W (.Constant (.str i) j pos) (dC (.str i)) := weak pe_str fun σ H Q ⟨B, A, r, w, hs, hp, q⟩ => q _ H Kp.refl hp (.str i)
/-- a constant of the module: an int or a text, a tuple of such -/
theorem ve_glob {x : Str} {v : V} {u : Value} {d : D} (hg : Gl X x) (hm : X.mg x = some u) (r : RelV v u) (hd : ∀ (B : Bs) A H, Rep (B.cf X.K X.mg) A H v d) (hdb : (x == ("__debug__" : Str)) = false := by decide) : VE X rE W (.Name x pos) (dC d) :=
  weak (pe_glob hg hm r hdb) fun σ H Q ⟨B, A, r, w, hs, hp, q⟩ => q _ H Kp.refl hp (hd _ _ _)

/-! ### what stands at a value -/
section
variable {c : Cf} {A : Addr → Prop} {H H' : Hp} {v : V}
theorem rO.lst {ds : List D} (h : rO c A H' H v (.lst ds)) : ∃ a vs, v = .ref a ∧ H a = some (.lst vs) ∧ RepL c A H vs ds := by
  rcases h with h | ⟨a, rfl, _, vs, h1, h2⟩
  · cases h with
    | lst h n m r => exact ⟨_, _, rfl, h, r⟩
  · exact ⟨a, vs, rfl, h1, h2⟩
theorem rO.tup {ds : List D} (h : rO c A H' H v (.tup ds)) : ∃ a vs, v = .ref a ∧ H a = some (.tup vs) ∧ RepL c A H vs ds := by
  rcases h with h | ⟨a, rfl, _, h1⟩
  · cases h with
    | tup h n m r => exact ⟨_, _, rfl, h, r⟩
  · exact h1.elim
theorem rO.kup {ds : List D} (h : rO c A H' H v (.kup ds)) : ∃ a vs, v = .ref a ∧ (∀ H', SqT c.K H' a vs) ∧ RepL c A H vs ds := by
  rcases h with h | ⟨a, rfl, _, h1⟩
  · cases h with
    | tupK h r =>
      rcases h with (h | ⟨_, h⟩) | h
      · cases h
      · cases h
      · exact ⟨_, _, rfl, fun _ => .inr h, r⟩
  · exact h1.elim
/-- a tuple, made or written -/
theorem rO.tupq {ds : List D} {d : D} (h : rO c A H' H v d) (e : d = .tup ds ∨ d = .kup ds) : ∃ a vs, v = .ref a ∧ SqT c.K H a vs ∧ RepL c A H vs ds := by
  rcases e with rfl | rfl
  · obtain ⟨a, vs, e, h1, h2⟩ := h.tup; exact ⟨a, vs, e, SqT.of h1, h2⟩
  · obtain ⟨a, vs, e, h1, h2⟩ := h.kup; exact ⟨a, vs, e, h1 H, h2⟩
theorem rO.int {i : Int} (h : rO c A H' H v (.int i)) : v = .int i := by
  rcases h with h | ⟨a, rfl, _, h1⟩
  · cases h; rfl
  · exact h1.elim
theorem rO.bl {i : Bool} (h : rO c A H' H v (.bl i)) : v = .bl i := by
  rcases h with h | ⟨a, rfl, _, h1⟩
  · cases h; rfl
  · exact h1.elim
theorem rO.str {i : Str} (h : rO c A H' H v (.str i)) : v = .str i := by
  rcases h with h | ⟨a, rfl, _, h1⟩
  · cases h; rfl
  · exact h1.elim
theorem rO.non (h : rO c A H' H v .non) : v = .non := by
  rcases h with h | ⟨a, rfl, _, h1⟩
  · cases h; rfl
  · exact h1.elim
theorem rO.keep {H0 H0' : Hp} {d : D} (n : ¬ A c.p) (k : Kp c.p H H') (h : rO c A H0 H v d) : rO c A H0' H' v d := by
  rcases h with h | ⟨a, e, hA, h1⟩
  · exact .inl (h.keepA k.a)
  · exact .inr ⟨a, e, hA, h1.keepA k.a fun o m q => k.k a o (fun z => n (z ▸ hA)) m q⟩
end

/-! ### operators by values -/
/-- where a new object may stand -/
structure Fre (c : Cf) (A : Addr → Prop) (H : Hp) : Prop where
  n : ∀ q, H q = none → ¬ A q ∧ q ≠ c.p
  l : ∀ q, H q = none → q ≠ c.lc.a
def r2D (K : PySem.W.Frag) (mg : Str → Option Value) (R : RK) (g : D → D → Option D) : R2 := fun x y H Q => ∃ (B : Bs) (A : Addr → Prop) (dx dy d : D), Fre (B.cf K mg) A H ∧ rO (B.cf K mg) A H H x dx ∧ rO (B.cf K mg) A H H y dy ∧ g dx dy = some d ∧ ∀ v H', Same H H' → R (B.cf K mg) A H H' v d → Q v H'
def r1D (K : PySem.W.Frag) (mg : Str → Option Value) (R : RK) (g : D → Option D) : V → Hp → VK → Prop := fun x H Q => ∃ (B : Bs) (A : Addr → Prop) (dx d : D), Fre (B.cf K mg) A H ∧ rO (B.cf K mg) A H H x dx ∧ g dx = some d ∧ ∀ v H', Same H H' → R (B.cf K mg) A H H' v d → Q v H'
abbrev OpD (X : Cx) (R : RK) (f : Value → Value → Sem Value) (g : D → D → Option D) : Prop := OpR X f (r2D X.K X.mg R g)
abbrev UnD (X : Cx) (R : RK) (f : Value → Sem Value) (g : D → Option D) : Prop := UnR X f (r1D X.K X.mg R g)
def Res.of (o : Option D) (w : Wd) : Res := match o with
  | some d => .ok d w
  | none => .bad
def dBin (g : D → D → Option D) (fa fb : EM) : EM := fun r w => (fa r w).bind fun x w1 => (fb r w1).bind fun y w2 => Res.of (g x y) w2
def dUn (g : D → Option D) (fa : EM) : EM := fun r w => (fa r w).bind fun x w1 => Res.of (g x) w1
theorem StOk.fre {K : PySem.W.Frag} {mg : Str → Option Value} {B : Bs} {A : Addr → Prop} {σ : L2.St} {H : Hp} {r : Env} (h : StOk K mg B A σ H r) : Fre (B.cf K mg) A H := ⟨fun q n => h.fresh n, fun q n => h.nlf (fr_none n)⟩

theorem ve_bin {op : Operator} [RKm R] {g : D → D → Option D} (ho : OpD X R (binaryOp op) g) (ha : VE X rO W a fa) (hb : VE X rO W b fb) : VE X R W (.BinOp a op b pos) (dBin g fa fb) := weak (pe_op ho ha hb) fun σ H Q ⟨B, A, r, w, hs, hp, q⟩ =>
  ⟨B, A, r, w, hs, hp, q.bind fun x w1 v H1 k1 p1 r1 q1 => ⟨B, A, r, w1, hs.keep k1, p1, q1.bind fun y w2 v2 H2 k2 p2 r2 q2 => by
    unfold Res.of at q2
    split at q2
    · rename_i d e
      exact ⟨B, A, x, y, d, (hs.keep (k1.trans k2)).fre, rO.keep hs.np k2 r1, r2, e, fun v' H' sm rr => q2 v' H' (.of sm) (p2.keep sm) rr⟩
    · exact q2.elim⟩⟩
theorem ve_cmp {op : CmpOp} [RKm R] {g : D → D → Option D} (ho : OpD X R (compareOp op) g) (ha : VE X rO W a fa) (hb : VE X rO W b fb) (hm : behindInMarks op b = false := by rfl) : VE X R W (.Compare a [op] [b] pos) (dBin g fa fb) := weak (pe_cmpR ho ha hb hm) fun σ H Q ⟨B, A, r, w, hs, hp, q⟩ =>
  ⟨B, A, r, w, hs, hp, q.bind fun x w1 v H1 k1 p1 r1 q1 => ⟨B, A, r, w1, hs.keep k1, p1, q1.bind fun y w2 v2 H2 k2 p2 r2 q2 => by
    unfold Res.of at q2
    split at q2
    · rename_i d e
      exact ⟨B, A, x, y, d, (hs.keep (k1.trans k2)).fre, rO.keep hs.np k2 r1, r2, e, fun v' H' sm rr => q2 v' H' (.of sm) (p2.keep sm) rr⟩
    · exact q2.elim⟩⟩
theorem ve_un {op : UnaryOp} [RKm R] {g : D → Option D} (ho : UnD X R (unaryOp op) g) (ha : VE X rO W a fa) : VE X R W (.UnaryOp op a pos) (dUn g fa) := weak (pe_un ho ha) fun σ H Q ⟨B, A, r, w, hs, hp, q⟩ =>
  ⟨B, A, r, w, hs, hp, q.bind fun x w1 v H1 k1 p1 r1 q1 => by
    unfold Res.of at q1
    split at q1
    · rename_i d e
      exact ⟨B, A, x, d, (hs.keep k1).fre, r1, e, fun v' H' sm rr => q1 v' H' (.of sm) (p1.keep sm) rr⟩
    · exact q1.elim⟩
/-- a < b < c -/
def dChain (g h : D → D → Option D) (fa fb fc : EM) : EM := fun r w => (fa r w).bind fun x w1 => (fb r w1).bind fun y w2 => match g x y with
  | some (.bl true) => (fc r w2).bind fun z w3 => Res.of (h y z) w3
  | some (.bl false) => .ok (.bl false) w2
  | _ => .bad
theorem ve_chain {op op' : CmpOp} {g h : D → D → Option D} (ho : OpD X rE (compareOp op) g) (ho' : OpD X rE (compareOp op') h) (ha : VE X rO W a fa) (hb : VE X rO W b fb) {c : Expr} (hc : VE X rO W c fc) (hm : lastMarks [op, op'] [b, c] = false := by rfl) :
    VE X rE W (.Compare a [op, op'] [b, c] pos) (dChain g h fa fb fc) := weak (pe_chain ho ho' ha hb hc hm) fun σ H Q ⟨B, A, r, w, hs, hp, q⟩ =>
  ⟨B, A, r, w, hs, hp, q.bind fun x w1 v H1 k1 p1 r1 q1 => ⟨B, A, r, w1, hs.keep k1, p1, q1.bind fun y w2 v2 H2 k2 p2 r2 q2 => by
    have hs2 := hs.keep (k1.trans k2)
    split at q2
    · rename_i e
      refine ⟨B, A, x, y, .bl true, hs2.fre, rO.keep hs.np k2 r1, r2, e, fun v' H' sm rr => ?_⟩
      cases rr
      refine ⟨true, rfl, ?_⟩
      rw [if_pos rfl]
      refine ⟨B, A, r, w2, hs2.keep (.of sm), p2.keep sm, Post.bind (Post.at (Kp.of sm) q2) fun z w3 v3 H3 k3 p3 r3 q3 => ?_⟩
      unfold Res.of at q3
      split at q3
      · rename_i d e
        exact ⟨B, A, y, z, d, (hs2.keep ((Kp.of sm).trans k3)).fre, rO.keep (H := H2) hs.np ((Kp.of sm).trans k3) r2, r3, e, fun v' H' sm rr => q3 v' H' (.of sm) (p3.keep sm) rr⟩
      · exact q3.elim
    · rename_i e
      refine ⟨B, A, x, y, .bl false, hs2.fre, rO.keep hs.np k2 r1, r2, e, fun v' H' sm rr => ?_⟩
      cases rr
      refine ⟨false, rfl, ?_⟩
      rw [if_neg Bool.false_ne_true]
      exact q2 _ H' (.of sm) (p2.keep sm) (.bl false)
    · exact q2.elim⟩⟩

/-! ### the operators -/
def addD : D → D → Option D
  | .int i, .int j => some (.int (i + j))
  | .str x, .str y => if x.length + y.length ≤ sizeLine then some (.str (x ++ y)) else none
  | _, _ => none
def subD : D → D → Option D
  | .int i, .int j => some (.int (i - j))
  | _, _ => none
instance {i j : Int} : Decidable (IntMulOk i j) := inferInstanceAs (Decidable (¬ _))
abbrev CDivG (_ j : Int) : Prop := j ≠ 0 ∧ j.natAbs.log2 < 9000
instance {i j : Int} : Decidable (CPow i j) := inferInstanceAs (Decidable (_ ∧ _))
def mulD : D → D → Option D
  | .int i, .int j => if IntMulOk i j then some (.int (i * j)) else none
  | _, _ => none
def fdivD : D → D → Option D
  | .int i, .int j => if CDivG i j then some (.int (i.fdiv j)) else none
  | _, _ => none
def modD : D → D → Option D
  | .int i, .int j => if j ≠ 0 then some (.int (i.fmod j)) else none
  | _, _ => none
def powD : D → D → Option D
  | .int i, .int j => if CPow i j then some (.int (i ^ j.toNat)) else none
  | _, _ => none
def ltD : D → D → Option D
  | .int i, .int j => some (.bl (decide (i < j)))
  | .str x, .str y => some (.bl (decide (x.cps.toList < y.cps.toList)))
  | _, _ => none
def leD : D → D → Option D
  | .int i, .int j => some (.bl (decide (i ≤ j)))
  | _, _ => none
def gtD : D → D → Option D
  | .int i, .int j => some (.bl (decide (j < i)))
  | _, _ => none
def geD : D → D → Option D
  | .int i, .int j => some (.bl (decide (j ≤ i)))
  | _, _ => none
def negD : D → Option D
  | .int i => some (.int (-i))
  | _ => none
theorem op_mulG : OpR X (binaryOp .Mult) (rI IntMulOk fun i j => .int (i * j)) := opI fun _ _ _ _ _ _ _ hc q => mul_int q hc
theorem op_fdivG : OpR X (binaryOp .FloorDiv) (rI CDivG fun i j => .int (i.fdiv j)) := opI fun _ _ _ _ _ _ _ hc q => floordiv_int hc.1 q (.inl (PyProof.noPylong_of_log2 hc.2))
theorem od_add : OpD X rE (binaryOp .Add) addD := fun pins s σ H x y v u Q I rx ry ⟨B, A, dx, dy, d, fr, h1, h2, e, q⟩ => by
  unfold addD at e
  split at e
  · cases e
    exact op_add pins s σ H x y v u Q I rx ry ⟨_, _, h1.int, h2.int, q _ H (Same.refl H) (.int _)⟩
  · split at e
    · cases e
      exact op_add_str pins s σ H x y v u Q I rx ry ⟨_, _, h1.str, h2.str, by assumption, q _ H (Same.refl H) (.str _)⟩
    · cases e
  · cases e
theorem od_sub : OpD X rE (binaryOp .Sub) subD := fun pins s σ H x y v u Q I rx ry ⟨B, A, dx, dy, d, fr, h1, h2, e, q⟩ => by
  unfold subD at e
  split at e
  · cases e
    exact op_sub pins s σ H x y v u Q I rx ry ⟨_, _, h1.int, h2.int, q _ H (Same.refl H) (.int _)⟩
  · cases e
theorem od_mul : OpD X rE (binaryOp .Mult) mulD := fun pins s σ H x y v u Q I rx ry ⟨B, A, dx, dy, d, fr, h1, h2, e, q⟩ => by
  unfold mulD at e
  split at e
  · split at e
    · cases e
      exact op_mulG pins s σ H x y v u Q I rx ry ⟨_, _, h1.int, h2.int, by assumption, q _ H (Same.refl H) (.int _)⟩
    · cases e
  · cases e
theorem od_fdiv : OpD X rE (binaryOp .FloorDiv) fdivD := fun pins s σ H x y v u Q I rx ry ⟨B, A, dx, dy, d, fr, h1, h2, e, q⟩ => by
  unfold fdivD at e
  split at e
  · split at e
    · cases e
      exact op_fdivG pins s σ H x y v u Q I rx ry ⟨_, _, h1.int, h2.int, by assumption, q _ H (Same.refl H) (.int _)⟩
    · cases e
  · cases e
theorem od_mod : OpD X rE (binaryOp .Mod) modD := fun pins s σ H x y v u Q I rx ry ⟨B, A, dx, dy, d, fr, h1, h2, e, q⟩ => by
  unfold modD at e
  split at e
  · split at e
    · cases e
      exact op_modN pins s σ H x y v u Q I rx ry ⟨_, _, h1.int, h2.int, by assumption, q _ H (Same.refl H) (.int _)⟩
    · cases e
  · cases e
theorem od_pow : OpD X rE (binaryOp .Pow) powD := fun pins s σ H x y v u Q I rx ry ⟨B, A, dx, dy, d, fr, h1, h2, e, q⟩ => by
  unfold powD at e
  split at e
  · split at e
    · cases e
      exact op_pow pins s σ H x y v u Q I rx ry ⟨_, _, h1.int, h2.int, by assumption, q _ H (Same.refl H) (.int _)⟩
    · cases e
  · cases e
theorem od_lt : OpD X rE (compareOp .Lt) ltD := fun pins s σ H x y v u Q I rx ry ⟨B, A, dx, dy, d, fr, h1, h2, e, q⟩ => by
  unfold ltD at e
  split at e
  · cases e
    exact op_lt pins s σ H x y v u Q I rx ry ⟨_, _, h1.int, h2.int, q _ H (Same.refl H) (.bl _)⟩
  · cases e
    exact op_lt_str pins s σ H x y v u Q I rx ry ⟨_, _, h1.str, h2.str, q _ H (Same.refl H) (.bl _)⟩
  · cases e
theorem od_le : OpD X rE (compareOp .LtE) leD := fun pins s σ H x y v u Q I rx ry ⟨B, A, dx, dy, d, fr, h1, h2, e, q⟩ => by
  unfold leD at e
  split at e
  · cases e
    exact op_le pins s σ H x y v u Q I rx ry ⟨_, _, h1.int, h2.int, q _ H (Same.refl H) (.bl _)⟩
  · cases e
theorem od_gt : OpD X rE (compareOp .Gt) gtD := fun pins s σ H x y v u Q I rx ry ⟨B, A, dx, dy, d, fr, h1, h2, e, q⟩ => by
  unfold gtD at e
  split at e
  · cases e
    exact op_gt pins s σ H x y v u Q I rx ry ⟨_, _, h1.int, h2.int, q _ H (Same.refl H) (.bl _)⟩
  · cases e
theorem od_ge : OpD X rE (compareOp .GtE) geD := fun pins s σ H x y v u Q I rx ry ⟨B, A, dx, dy, d, fr, h1, h2, e, q⟩ => by
  unfold geD at e
  split at e
  · cases e
    exact op_ge pins s σ H x y v u Q I rx ry ⟨_, _, h1.int, h2.int, q _ H (Same.refl H) (.bl _)⟩
  · cases e
theorem ud_neg : UnD X rE (unaryOp .USub) negD := fun pins s σ H x v Q I rx ⟨B, A, dx, d, fr, h1, e, q⟩ => by
  unfold negD at e
  split at e
  · cases e
    exact un_neg pins s σ H x v Q I rx ⟨_, h1.int, q _ H (Same.refl H) (.int _)⟩
  · cases e

/-! ### tests -/
def PostT (c : Cf) (A : Addr → Prop) (σ : L2.St) (H : Hp) (W : WX) (Q : Bool → Hp → Prop) : Res → Prop
  | .ok (.bl b) w => ∀ H', Kp c.p H H' → PenAt c.p c.lc A H' w → Q b H'
  | .ok _ _ => False
  | .exc n fs w => ∀ cls dd H', Kp c.p H H' → PenAt c.p c.lc A H' w → ErrR c A n fs cls dd H' → W cls dd σ H'
  | .bad => False
theorem PostT.at {c : Cf} {A : Addr → Prop} {σ : L2.St} {H H1 : Hp} {Q : Bool → Hp → Prop} {x : Res} (k : Kp c.p H H1) (h : PostT c A σ H W Q x) : PostT c A σ H1 W Q x := by
  cases x with
  | ok d w =>
    cases d <;> first | exact h.elim | skip
    exact fun H' k' p => h H' (k.trans k') p
  | exc n fs w => exact fun cls dd H' k' p r => h cls dd H' (k.trans k') p r
  | bad => exact h
def tVT (K : PySem.W.Frag) (mg : Str → Option Value) (W : WX) (f : EM) : TT := fun σ H Q =>
  ∃ (B : Bs) (A : Addr → Prop) (r : Env) (w : Wd), StOk K mg B A σ H r ∧ PenAt B.p B.lc A H w ∧ PostT (B.cf K mg) A σ H W Q (f r w)
abbrev VT (X : Cx) (W : WX) (e : Expr) (f : EM) : Prop := PT X e (tVT X.K X.mg W f)
abbrev VW (X : Cx) (W : WX) (e : Expr) (f : EM) : Prop := PW X e (tVT X.K X.mg W f)
theorem weakT {t t' : TT} (h : PT X e t) (k : ∀ σ H Q, t' σ H Q → t σ H Q) : PT X e t' := ⟨fun pins s σ H Q I q => h.run pins s σ H Q I (k σ H Q q)⟩
theorem weakW {t t' : TT} (h : PW X e t) (k : ∀ σ H Q, t' σ H Q → t σ H Q) : PW X e t' := ⟨fun wh pins s σ H Q I q => h.run wh pins s σ H Q I (k σ H Q q)⟩
theorem vt_val (h : VE X rO W e fa) (he : ∀ whole, isTrue e X.env whole = (do let v ← whole; standAt e.pos; holding [v] (truthy v)) := by intro _; rfl) : VT X W e fa := weakT (pt_val h he) fun σ H Q ⟨B, A, r, w, hs, hp, q⟩ => ⟨B, A, r, w, hs, hp, by
  cases z : fa r w with
  | ok d w' =>
    rw [z] at q
    cases d <;> first | exact q.elim | skip
    exact fun v H' k p r => ⟨_, r.bl, q H' k p⟩
  | exc n fs w' => rw [z] at q; exact q
  | bad => rw [z] at q; exact q⟩
def dNot (fa : EM) : EM := fun r w => (fa r w).bind fun x w1 => match x with
  | .bl b => .ok (.bl !b) w1
  | _ => .bad
def dAnd (fa fb : EM) : EM := fun r w => (fa r w).bind fun x w1 => match x with
  | .bl true => fb r w1
  | .bl false => .ok (.bl false) w1
  | _ => .bad
def dOr (fa fb : EM) : EM := fun r w => (fa r w).bind fun x w1 => match x with
  | .bl true => .ok (.bl true) w1
  | .bl false => fb r w1
  | _ => .bad
def dIf (fc fa fb : EM) : EM := fun r w => (fc r w).bind fun x w1 => match x with
  | .bl true => fa r w1
  | .bl false => fb r w1
  | _ => .bad
theorem PostT.bind {c : Cf} {A : Addr → Prop} {σ : L2.St} {H : Hp} {Q Q1 : Bool → Hp → Prop} {x : Res} {k : D → Wd → Res} (h : PostT c A σ H W Q (x.bind k)) (hb : ∀ d w, k d w ≠ .bad → ∃ b, d = .bl b)
    (hk : ∀ b w H1, Kp c.p H H1 → PenAt c.p c.lc A H1 w → PostT c A σ H1 W Q (k (.bl b) w) → Q1 b H1) : PostT c A σ H W Q1 x := by
  cases x with
  | ok d w =>
    have h' : PostT c A σ H W Q (k d w) := h
    obtain ⟨b, rfl⟩ := hb d w fun z => by rw [z] at h'; exact h'
    exact fun H' k' p => hk b w H' k' p (PostT.at k' h')
  | exc n fs w => exact h
  | bad => exact h
theorem vt_not (h : VT X W a fa) : VT X W (.UnaryOp .Not a pos) (dNot fa) := weakT (pt_not h) fun σ H Q ⟨B, A, r, w, hs, hp, q⟩ => ⟨B, A, r, w, hs, hp, PostT.bind q (fun d w z => by
  cases d <;> first | exact ⟨_, rfl⟩ | exact absurd rfl z) fun b w1 H1 k1 p1 q1 => q1 H1 .refl p1⟩
theorem vw_and {rest : List Expr} (h : VT X W a fa) (h2 : VW X W (.BoolOp .And (b :: rest) pos) fb) : VW X W (.BoolOp .And (a :: b :: rest) pos) (dAnd fa fb) := weakW (pw_and h h2) fun σ H Q ⟨B, A, r, w, hs, hp, q⟩ => ⟨B, A, r, w, hs, hp, PostT.bind q (fun d w z => by
  cases d <;> first | exact ⟨_, rfl⟩ | exact absurd rfl z) fun b w1 H1 k1 p1 q1 => by
    cases b with
    | true => rw [if_pos rfl]; exact ⟨B, A, r, w1, hs.keep k1, p1, q1⟩
    | false => rw [if_neg Bool.false_ne_true]; exact q1 H1 .refl p1⟩
theorem vw_or {rest : List Expr} (h : VT X W a fa) (h2 : VW X W (.BoolOp .Or (b :: rest) pos) fb) : VW X W (.BoolOp .Or (a :: b :: rest) pos) (dOr fa fb) := weakW (pw_or h h2) fun σ H Q ⟨B, A, r, w, hs, hp, q⟩ => ⟨B, A, r, w, hs, hp, PostT.bind q (fun d w z => by
  cases d <;> first | exact ⟨_, rfl⟩ | exact absurd rfl z) fun b w1 H1 k1 p1 q1 => by
    cases b with
    | true => rw [if_pos rfl]; exact q1 H1 .refl p1
    | false => rw [if_neg Bool.false_ne_true]; exact ⟨B, A, r, w1, hs.keep k1, p1, q1⟩⟩
theorem vw_and1 (h : VT X W a fa) : VW X W (.BoolOp .And [a] pos) fa := pw_and1 h
theorem vw_or1 (h : VT X W a fa) : VW X W (.BoolOp .Or [a] pos) fa := pw_or1 h
theorem vt_w (h : VW X W e fa) : VT X W e fa := h.pt
/-! .. as values -/
theorem ve_not (h : VE X rO W a fa) : VE X rE W (.UnaryOp .Not a pos) (dNot fa) := weak (pe_not h) fun σ H Q ⟨B, A, r, w, hs, hp, q⟩ => ⟨B, A, r, w, hs, hp, q.bind fun x w1 v H1 k1 p1 r1 q1 => by
  cases x <;> first | exact q1.elim | skip
  exact ⟨_, r1.bl, q1 _ H1 .refl p1 (.bl _)⟩⟩
theorem ve_and [RKm R] {rest : List Expr} (hR : ∀ c A H H' b, R c A H H' (.bl b) (.bl b)) (h : VE X rO W a fa) (h2 : VE X R W (.BoolOp .And (b :: rest) pos) fb) : VE X R W (.BoolOp .And (a :: b :: rest) pos) (dAnd fa fb) := weak (pe_and h h2) fun σ H Q ⟨B, A, r, w, hs, hp, q⟩ => ⟨B, A, r, w, hs, hp, q.bind fun x w1 v H1 k1 p1 r1 q1 => by
  cases x <;> first | exact q1.elim | skip
  rename_i b
  refine ⟨b, r1.bl, ?_⟩
  cases b with
  | true => rw [if_pos rfl]; exact ⟨B, A, r, w1, hs.keep k1, p1, q1⟩
  | false => rw [if_neg Bool.false_ne_true]; exact q1 _ H1 .refl p1 (hR _ _ _ _ _)⟩
theorem ve_or [RKm R] {rest : List Expr} (hR : ∀ c A H H' b, R c A H H' (.bl b) (.bl b)) (h : VE X rO W a fa) (h2 : VE X R W (.BoolOp .Or (b :: rest) pos) fb) : VE X R W (.BoolOp .Or (a :: b :: rest) pos) (dOr fa fb) := weak (pe_or h h2) fun σ H Q ⟨B, A, r, w, hs, hp, q⟩ => ⟨B, A, r, w, hs, hp, q.bind fun x w1 v H1 k1 p1 r1 q1 => by
  cases x <;> first | exact q1.elim | skip
  rename_i b
  refine ⟨b, r1.bl, ?_⟩
  cases b with
  | true => rw [if_pos rfl]; exact q1 _ H1 .refl p1 (hR _ _ _ _ _)
  | false => rw [if_neg Bool.false_ne_true]; exact ⟨B, A, r, w1, hs.keep k1, p1, q1⟩⟩
theorem ve_one {op} (h : VE X R W a fa) : VE X R W (.BoolOp op [a] pos) fa := pe_one h
theorem rE_bl : ∀ c A H H' b, rE c A H H' (.bl b) (.bl b) := fun _ _ _ _ b => .bl b
theorem ve_if [RKm R] {c : Expr} (hc : VT X W c fc) (ha : VE X R W a fa) (hb : VE X R W b fb) : VE X R W (.IfExp c a b pos) (dIf fc fa fb) := weak (pe_ifExp hc ha hb) fun σ H Q ⟨B, A, r, w, hs, hp, q⟩ => ⟨B, A, r, w, hs, hp, by
  unfold dIf at q
  cases z : fc r w with
  | ok d w1 =>
    rw [z] at q
    simp only [Res.bind] at q
    cases d <;> first | exact q.elim | skip
    rename_i b
    cases b with
    | true => exact fun H1 k1 p1 => iteT ⟨B, A, r, w1, hs.keep k1, p1, Post.at k1 q⟩
    | false => exact fun H1 k1 p1 => iteF ⟨B, A, r, w1, hs.keep k1, p1, Post.at k1 q⟩
  | exc n fs w1 => rw [z] at q; exact q
  | bad => rw [z] at q; exact q⟩
end
end DL

set_option Elab.async false
set_option linter.all false
set_option maxRecDepth 100000
set_option maxHeartbeats 2000000
namespace DL
open PySem L2

/-! ### the environment's steps -/
/-- the slots that S names are let go -/
def rel (S : Nat → Bool) (r : Env) : Env := r.mapIdx fun i x => match x with
  | some (d, o) => some (d, o && !S i)
  | none => none
def OwnBy (S : Nat → Bool) (σ : L2.St) (r : Env) (a : Addr) : Prop := ∃ (i : Nat) (d : D), S i = true ∧ r[i]? = some (some (d, true)) ∧ σ[i]? = some (some (.ref a))
theorem rel_at {S : Nat → Bool} {r : Env} {i : Nat} {d : D} {o : Bool} (h : (rel S r)[i]? = some (some (d, o))) : ∃ o', r[i]? = some (some (d, o')) ∧ o = (o' && !S i) := by
  unfold rel at h
  rw [List.getElem?_mapIdx] at h
  cases e : r[i]? with
  | none => rw [e] at h; cases h
  | some x =>
    rw [e] at h
    cases x with
    | none => cases h
    | some x =>
      obtain ⟨d', o'⟩ := x
      simp only [Option.map_some, Option.some.injEq, Prod.mk.injEq] at h
      exact ⟨o', by rw [h.1], h.2.symm⟩
theorem and_f {b : Bool} (h : false = (true && !b)) : b = true := by cases b <;> first | rfl | cases h
theorem and_t {o b : Bool} (h : true = (o && !b)) : o = true ∧ b = false := by cases o <;> cases b <;> first | exact ⟨rfl, rfl⟩ | cases h
section
variable {K : PySem.W.Frag} {mg : Str → Option Value} {B : Bs} {A : Addr → Prop} {σ : L2.St} {H H' : Hp} {r : Env}
theorem StOk.rel (h : StOk K mg B A σ H r) (S : Nat → Bool) : StOk K mg B (fun a => A a ∧ ¬ OwnBy S σ r a) σ H (rel S r) where
  kp := h.kp
  tp := h.tp
  tr := fun a q => h.tr a q.1
  a0 := fun a q => ⟨h.a0 a q, fun ⟨i, d, _, h1, h2⟩ => by
    obtain ⟨b, e, _, e0, _⟩ := h.ow i d h1
    rw [h2] at e; cases e
    obtain ⟨o, e, m⟩ := h.t0 a q
    exact e0 o e m⟩
  t0 := h.t0
  ax := fun a q => h.ax a q.1
  np := fun q => h.np q.1
  pl := fun i d e => by
    obtain ⟨o, e1, e2⟩ := rel_at e
    cases o with
    | false =>
      obtain ⟨v, h1, h2⟩ := h.pl i d e1
      exact ⟨v, h1, h2.to fun a q => .inl q.1⟩
    | true =>
      obtain ⟨a, h1, hA, h0, h2⟩ := h.ow i d e1
      have hS : S i = true := and_f e2
      exact ⟨_, h1, (h2.to fun a q => .inl q.1).rep (fun q => q.2 ⟨i, d, hS, e1, h1⟩) ⟨fun z => h.np (by have z' : a = B.p := z; rw [← z']; exact hA), h.nl hA⟩⟩
  ow := fun i d e => by
    obtain ⟨o, e1, e2⟩ := rel_at e
    obtain ⟨ho, hS⟩ := and_t e2
    subst ho
    obtain ⟨a, h1, hA, h0, h2⟩ := h.ow i d e1
    refine ⟨a, h1, ⟨hA, fun ⟨j, d', sj, j1, j2⟩ => ?_⟩, h0, h2.to fun a q => .inl q.1⟩
    have : i = j := h.ne i j d d' a e1 j1 h1 j2
    subst this
    rw [hS] at sj; cases sj
  ne := fun i j d e a h1 h2 s1 s2 => by
    obtain ⟨o, e1, q1⟩ := rel_at h1
    obtain ⟨o2, e2, q2⟩ := rel_at h2
    obtain ⟨ho, _⟩ := and_t q1
    obtain ⟨ho2, _⟩ := and_t q2
    subst ho ho2
    exact h.ne i j d e a e1 e2 s1 s2
  ln := by rw [← h.ln]; exact List.length_mapIdx
  tq := h.tq
theorem PenAt.less {p : Addr} {lc : Lx} {A A' : Addr → Prop} {H : Hp} {w : Wd} (k : ∀ a, A' a → A a ∨ Fr H a) (h : PenAt p lc A H w) : PenAt p lc A' H w := by
  obtain ⟨o, l, h1, h2, h3, h4, h5⟩ := h
  exact ⟨o, l, h1, h2, (fun z => (k _ z).elim h3 fun e => e _ h2 trivial), (fun z => (k _ z).elim h4 fun e => e _ h1 trivial), h5⟩
/-- A may be less, down to what the slots own -/
theorem StOk.lessA {A' : Addr → Prop} (h : StOk K mg B A σ H r) (k : ∀ a, A' a → A a) (a0 : ∀ a, B.A0 a → A' a) (o : ∀ (i : Nat) (d : D) (a : Addr), r[i]? = some (some (d, true)) → σ[i]? = some (some (.ref a)) → A' a) : StOk K mg B A' σ H r where
  kp := h.kp
  tp := h.tp
  tr := fun a q => h.tr a (k a q)
  a0 := a0
  t0 := h.t0
  ax := fun a q => h.ax a (k a q)
  np := fun q => h.np (k _ q)
  pl := fun i d e => let ⟨v, h1, h2⟩ := h.pl i d e; ⟨v, h1, h2.to fun a q => .inl (k a q)⟩
  ow := fun i d e => let ⟨a, h1, _, h3, h4⟩ := h.ow i d e; ⟨a, h1, o i d a e h1, h3, h4.to fun a q => .inl (k a q)⟩
  ne := h.ne
  ln := h.ln
  tq := h.tq
theorem set_at {α : Type} {l : List α} {i j : Nat} {x y : α} (h : (l.set i x)[j]? = some y) : (j = i ∧ y = x) ∨ (j ≠ i ∧ l[j]? = some y) := by
  rw [List.getElem?_set] at h
  by_cases e : i = j
  · subst e
    rw [if_pos rfl] at h
    split at h
    · exact .inl ⟨rfl, (Option.some.inj h).symm⟩
    · cases h
  · rw [if_neg e] at h
    exact .inr ⟨Ne.symm e, h⟩
/-- plain data comes into a slot -/
theorem StOk.set (h : StOk K mg B A σ H r) {i : Nat} {v : V} {d : D} (hv : Rep (B.cf K mg) A H v d) : StOk K mg B A (σ.set i (some v)) H (r.set i (some (d, false))) where
  kp := h.kp
  tp := h.tp
  tr := h.tr
  a0 := h.a0
  t0 := h.t0
  ax := h.ax
  np := h.np
  pl := fun j e q => by
    rcases set_at q with ⟨rfl, z⟩ | ⟨n, z⟩
    · cases z
      have hl : j < σ.length := by rw [← h.ln]; have := (List.getElem?_eq_some_iff.mp q).1; simpa using this
      exact ⟨v, by rw [List.getElem?_set_self hl], hv⟩
    · obtain ⟨u, h1, h2⟩ := h.pl j e z
      exact ⟨u, by rw [List.getElem?_set_ne (Ne.symm n)]; exact h1, h2⟩
  ow := fun j e q => by
    rcases set_at q with ⟨rfl, z⟩ | ⟨n, z⟩
    · cases z
    · obtain ⟨a, h1, h2⟩ := h.ow j e z
      exact ⟨a, by rw [List.getElem?_set_ne (Ne.symm n)]; exact h1, h2⟩
  ne := fun j k d1 d2 a q1 q2 s1 s2 => by
    rcases set_at q1 with ⟨rfl, z⟩ | ⟨n, z⟩
    · cases z
    · rcases set_at q2 with ⟨rfl, z2⟩ | ⟨n2, z2⟩
      · cases z2
      · rw [List.getElem?_set_ne (Ne.symm n)] at s1
        rw [List.getElem?_set_ne (Ne.symm n2)] at s2
        exact h.ne j k d1 d2 a z z2 s1 s2
  ln := by rw [List.length_set, List.length_set]; exact h.ln
  tq := h.tq
/-- a new object comes into a slot, owned -/
theorem StOk.setO {H0 : Hp} (h : StOk K mg B A σ H0 r) (k : Kp B.p H0 H) {i : Nat} {a : Addr} {d : D} (hn : Fr H0 a) (hv : OwnR (B.cf K mg) (fun b => A b ∨ b = a) H a d) : StOk K mg B (fun b => A b ∨ b = a) (σ.set i (some (.ref a))) H (r.set i (some (d, true))) := by
  have hna := h.freshF hn
  have h' := h.keep k
  have up : ∀ b, (A b ∨ b = a) → A b ∨ Fr H0 b := fun b q => q.elim .inl fun e => .inr (by rw [e]; exact hn)
  have b0 : Fr B.H0 a := h.kp.free hn
  refine ⟨h'.kp, h'.tp, fun b q => q.elim (h'.tr b) fun e => by rw [e]; exact hv.some, fun b q => .inl (h.a0 b q), h.t0, fun b q => q.elim (h.ax b) fun e => .inr (by rw [e]; exact b0), fun q => q.elim h.np fun e => hna.2 e.symm, fun j e q => ?_, fun j e q => ?_, fun j m d1 d2 b q1 q2 s1 s2 => ?_, by rw [List.length_set, List.length_set]; exact h.ln, h.tq⟩
  · rcases set_at q with ⟨rfl, z⟩ | ⟨n, z⟩
    · cases z
    · obtain ⟨u, h1, h2⟩ := h.pl j e z
      exact ⟨u, by rw [List.getElem?_set_ne (Ne.symm n)]; exact h1, (h2.to up).keepA (Kp.a k)⟩
  · rcases set_at q with ⟨rfl, z⟩ | ⟨n, z⟩
    · cases z
      have hl : j < σ.length := by rw [← h.ln]; have := (List.getElem?_eq_some_iff.mp q).1; simpa using this
      exact ⟨a, by rw [List.getElem?_set_self hl], .inr rfl, b0, hv⟩
    · obtain ⟨b, h1, h2, h3, h4⟩ := h.ow j e z
      exact ⟨b, by rw [List.getElem?_set_ne (Ne.symm n)]; exact h1, .inl h2, h3, (h4.to up).keepA (Kp.a k) fun o m q => k.k b o (fun z => h.np (z ▸ h2)) m q⟩
  · rcases set_at q1 with ⟨rfl, z⟩ | ⟨n, z⟩
    · rcases set_at q2 with ⟨rfl, z2⟩ | ⟨n2, z2⟩
      · rfl
      · rw [List.getElem?_set_ne (Ne.symm n2)] at s2
        have hl : j < σ.length := by rw [← h.ln]; have := (List.getElem?_eq_some_iff.mp q1).1; simpa using this
        rw [List.getElem?_set_self hl] at s1
        cases s1
        obtain ⟨b', h1, h2, h3, h4⟩ := h.ow m d2 z2
        rw [s2] at h1; cases h1
        exact absurd h2 hna.1
    · rcases set_at q2 with ⟨rfl, z2⟩ | ⟨n2, z2⟩
      · rw [List.getElem?_set_ne (Ne.symm n)] at s1
        have hl : m < σ.length := by rw [← h.ln]; have := (List.getElem?_eq_some_iff.mp q2).1; simpa using this
        rw [List.getElem?_set_self hl] at s2
        cases s2
        obtain ⟨b', h1, h2, h3, h4⟩ := h.ow j d1 z
        rw [s1] at h1; cases h1
        exact absurd h2 hna.1
      · rw [List.getElem?_set_ne (Ne.symm n)] at s1
        rw [List.getElem?_set_ne (Ne.symm n2)] at s2
        exact h.ne j m d1 d2 b z z2 s1 s2
/-- the owned object in slot i is written -/
theorem StOk.write (h : StOk K mg B A σ H r) {i : Nat} {a : Addr} {d d' : D} {o : HO} (hi : r[i]? = some (some (d, true))) (ha : σ[i]? = some (some (.ref a))) (hv : OwnR (B.cf K mg) A (upd H a o) a d') : StOk K mg B A σ (upd H a o) (r.set i (some (d', true))) := by
  obtain ⟨a', e, hA, h0, _⟩ := h.ow i d hi
  rw [ha] at e; cases e
  have k : KpA B.p A H (upd H a o) := KpA.upd hA
  have nap : a ≠ B.p := fun z => h.np (z ▸ hA)
  refine ⟨⟨fun b u nb mb e => ?_, fun b ⟨u, e, m⟩ => ?_⟩, ?_, fun b q => ?_, h.a0, h.t0, h.ax, h.np, fun j e q => ?_, fun j e q => ?_, fun j m d1 d2 b q1 q2 s1 s2 => ?_, by rw [List.length_set]; exact h.ln, h.tq⟩
  · rw [upd_ne (fun z => by rw [z] at e; exact h0 _ e mb)]
    exact h.kp.k b u nb mb e
  · by_cases z : b = a
    · obtain ⟨o', e', wo⟩ := hv.some
      rw [z]; exact ⟨o', e', wo.nt⟩
    · rw [upd_ne z]; exact h.kp.t b ⟨u, e, m⟩
  · rw [upd_ne (Ne.symm nap)]
    exact h.tp
  · by_cases z : b = a
    · rw [z]; exact hv.some
    · rw [upd_ne z]; exact h.tr b q
  · rcases set_at q with ⟨rfl, z⟩ | ⟨n, z⟩
    · cases z
    · obtain ⟨u, h1, h2⟩ := h.pl j e z
      exact ⟨u, h1, h2.keepA k⟩
  · rcases set_at q with ⟨rfl, z⟩ | ⟨n, z⟩
    · cases z
      exact ⟨a, ha, hA, h0, hv⟩
    · obtain ⟨b, h1, h2, h3, h4⟩ := h.ow j e z
      have nb : b ≠ a := fun z' => n (h.ne j i e d a z hi (z' ▸ h1) ha)
      exact ⟨b, h1, h2, h3, h4.keepA k fun o' _ q' => by rw [upd_ne nb]; exact q'⟩
  · have f : ∀ {j d1}, (r.set i (some (d', true)))[j]? = some (some (d1, true)) → ∃ d2, r[j]? = some (some (d2, true)) := fun {j d1} q => by
      rcases set_at q with ⟨rfl, z⟩ | ⟨n, z⟩
      · exact ⟨d, hi⟩
      · exact ⟨d1, z⟩
    obtain ⟨e1, f1⟩ := f q1
    obtain ⟨e2, f2⟩ := f q2
    exact h.ne j m e1 e2 b f1 f2 s1 s2
theorem tabs_upd {T : List (Addr × Str)} {H : Hp} {a : Addr} {o : HO} (ha : ∃ o, H a = some o ∧ WO o) (h : LamX.Tabs T H) : LamX.Tabs T (upd H a o) := fun x hx => by
  obtain ⟨ps, h1, h2, h3⟩ := h x hx
  obtain ⟨u, hu, wu⟩ := ha
  refine ⟨ps, ?_, h2, fun pos cv e => ?_⟩
  · rw [upd_ne]
    · exact h1
    · intro z; rw [z, hu] at h1; cases h1; exact wu
  · obtain ⟨c, e1, e2⟩ := h3 pos cv e
    refine ⟨c, e1, ?_⟩
    rw [upd_ne]
    · exact e2
    · intro z; rw [z, hu] at e2; cases e2; exact wu
theorem PenAt.write {p a : Addr} {lc : Lx} {A : Addr → Prop} {H : Hp} {o : HO} {w : Wd} (hA : A a) (ha : ∃ o, H a = some o ∧ WO o) (h : PenAt p lc A H w) : PenAt p lc A (upd H a o) w := by
  obtain ⟨ok, l, h1, h2, h3, h4, h5⟩ := h
  exact ⟨⟨ok.1, tabs_upd ha ok.2⟩, l, by rw [upd_ne (fun z => h4 (by rw [z]; exact hA))]; exact h1, by rw [upd_ne (fun z => h3 (by rw [z]; exact hA))]; exact h2, h3, h4, h5⟩
end

/-! ### statements -/
def PostS (K : PySem.W.Frag) (mg : Str → Option Value) (B : Bs) (W : WX) (D : Ends) : SR → Prop
  | .nx r w => ∀ σ' H' A', StOk K mg B A' σ' H' r → PenAt B.p B.lc A' H' w → D.nx σ' H'
  | .bk r w => ∀ σ' H' A', StOk K mg B A' σ' H' r → PenAt B.p B.lc A' H' w → D.bk σ' H'
  | .ct r w => ∀ σ' H' A', StOk K mg B A' σ' H' r → PenAt B.p B.lc A' H' w → D.ct σ' H'
  | .rt d w => ∀ v H', Kp B.p B.H0 H' → PenAt B.p B.lc B.A0 H' w → Rep (B.cf K mg) B.A0 H' v d → D.rt v H'
  | .exc n fs r w => ∀ cls dd σ' H' A', StOk K mg B A' σ' H' r → PenAt B.p B.lc A' H' w → ErrR (B.cf K mg) A' n fs cls dd H' → W cls dd σ' H'
  | .bad => False
def tVS (K : PySem.W.Frag) (mg : Str → Option Value) (W : WX) (f : SM) : TS := fun D σ H =>
  ∃ (B : Bs) (A : Addr → Prop) (r : Env) (w : Wd), StOk K mg B A σ H r ∧ PenAt B.p B.lc A H w ∧ PostS K mg B W D (f r w)
abbrev VS (X : Cx) (W : WX) (st : Stmt) (f : SM) : Prop := PS X st (tVS X.K X.mg W f)
abbrev VSs (X : Cx) (W : WX) (sts : List Stmt) (f : SM) : Prop := PSs X sts (tVS X.K X.mg W f)
theorem weakS {X : Cx} {e : Stmt} {t t' : TS} (h : PS X e t) (k : ∀ D σ H, t' D σ H → t D σ H) : PS X e t' := ⟨fun pins s σ H D I q => h.run pins s σ H D I (k D σ H q)⟩
theorem weakSs {X : Cx} {e : List Stmt} {t t' : TS} (h : PSs X e t) (k : ∀ D σ H, t' D σ H → t D σ H) : PSs X e t' := ⟨fun pins s σ H D I q => h.run pins s σ H D I (k D σ H q)⟩
def sNext : SM := fun r w => .nx r w
def SR.seq : SR → SM → SR
  | .nx r w, k => k r w
  | .bk r w, _ => .bk r w
  | .ct r w, _ => .ct r w
  | .rt d w, _ => .rt d w
  | .exc n fs r w, _ => .exc n fs r w
  | .bad, _ => .bad
def sSeq (f g : SM) : SM := fun r w => (f r w).seq g
section
variable {X : Cx} {W : WX} {a b e : Expr} {st : Stmt} {sts : List Stmt} {fa fb fc fe : EM} {f g : SM} {pos : Pos}
theorem vs_nil : VSs X W [] sNext := weakSs pss_nil fun D σ H ⟨B, A, r, w, hs, hp, q⟩ => q σ H A hs hp
theorem vs_cons (h1 : VS X W st f) (h2 : VSs X W sts g) : VSs X W (st :: sts) (sSeq f g) := weakSs (pss_cons h1 h2) fun D σ H ⟨B, A, r, w, hs, hp, q⟩ => ⟨B, A, r, w, hs, hp, by
  have q : PostS X.K X.mg B W D ((f r w).seq g) := q
  cases z : f r w with
  | nx r' w' => rw [z] at q; exact fun σ' H' A' hs' hp' => ⟨B, A', r', w', hs', hp', q⟩
  | bk r' w' => rw [z] at q; exact q
  | ct r' w' => rw [z] at q; exact q
  | rt d w' => rw [z] at q; exact q
  | exc n fs r' w' => rw [z] at q; exact q
  | bad => rw [z] at q; exact q⟩
theorem vs_one (h1 : VS X W st f) : VSs X W [st] f := pss_one h1
theorem vs_pass : VS X W (.Pass pos) sNext := weakS ps_pass fun D σ H ⟨B, A, r, w, hs, hp, q⟩ => q σ H A hs hp
theorem vs_break : VS X W (.Break pos) (fun r w => .bk r w) := weakS ps_break fun D σ H ⟨B, A, r, w, hs, hp, q⟩ => q σ H A hs hp
theorem vs_continue : VS X W (.Continue pos) (fun r w => .ct r w) := weakS ps_continue fun D σ H ⟨B, A, r, w, hs, hp, q⟩ => q σ H A hs hp

/-- an expression's end in a statement -/
def Res.en (x : Res) (r : Env) (k : D → Wd → SR) : SR := match x with
  | .ok d w => k d w
  | .exc n fs w => .exc n fs r w
  | .bad => .bad
theorem PostS.en {K : PySem.W.Frag} {mg : Str → Option Value} {B : Bs} {A : Addr → Prop} {Z : Ends} {σ : L2.St} {H : Hp} {r : Env} {x : Res} {k : D → Wd → SR} {R : RK} {Q : VK} (hs : StOk K mg B A σ H r) (h : PostS K mg B W Z (x.en r k))
    (hk : ∀ d w v H1, Kp B.p H H1 → PenAt B.p B.lc A H1 w → R (B.cf K mg) A H H1 v d → PostS K mg B W Z (k d w) → Q v H1) : Post (B.cf K mg) A σ H R W Q x := by
  cases x with
  | ok d w => exact fun v H' k' p r => hk d w v H' k' p r h
  | exc n fs w => exact fun cls dd H' k' p e => h cls dd σ H' A (hs.keep k') p e
  | bad => exact h
abbrev all_ : Nat → Bool := fun _ => true
abbrev these (l : List Nat) : Nat → Bool := fun i => l.contains i
/-- x = e; the slots of caps are let go -/
def sSet (i : Nat) (caps : List Nat) (fe : EM) : SM := fun r w => (fe (rel (these caps) r) w).en (rel (these caps) r) fun d w' => .nx ((rel (these caps) r).set i (some (d, false))) w'
theorem vs_set {i : Nat} {x : Str} {pos' : Pos} (caps : List Nat) (hN : X.N.Nodup) (he : VE X rE W e fe) (hi : X.N[i]? = some x := by rfl) (hx : Loc X.env.scope x := by first | exact Or.inl rfl | exact Or.inr rfl) (hf : X.fn x = true ∨ X.env.scope.names.lookup x = some .local := by first | exact .inl rfl | exact .inr rfl)
    (hs : swapsWith e (some (.Name x pos')) pos.line X.env = pure false := by rfl) : VS X W (.Assign [.Name x pos'] e pos) (sSet i caps fe) := weakS (ps_asg he (pg_name hN hi hx hf) hs) fun D σ H ⟨B, A, r, w, hs, hp, q⟩ => by
  have hs1 := hs.rel (these caps)
  exact ⟨B, _, _, w, hs1, hp.less fun a z => .inl z.1, PostS.en hs1 q fun d w' v H1 k p rv q => q _ H1 _ ((hs1.keep k).set rv) p⟩
/-- the pen's place as it was ahead -/
theorem PenAt.again {p : Addr} {lc : Lx} {A A' : Addr → Prop} {H H' : Hp} {w w' : Wd} (h : PenAt p lc A H w) (h' : PenAt p lc A' H' w') : PenAt p lc A H' w' := by
  obtain ⟨_, _, _, _, h3, h4, _⟩ := h
  obtain ⟨o, l, h1, h2, _, _, h5⟩ := h'
  exact ⟨o, l, h1, h2, h3, h4, h5⟩
/-- plain data without objects -/
def D.flat : D → Bool
  | .non => true | .bl _ => true | .int _ => true | .str _ => true | _ => false
theorem Rep.flat {c : Cf} {A A' : Addr → Prop} {H H' : Hp} {v : V} {d : D} (h : Rep c A H v d) (f : d.flat = true) : Rep c A' H' v d := by
  cases h <;> first | cases f | skip
  · exact .non
  · exact .bl _
  · exact .int _
  · exact .str _
/-- x = e, e flat -/
def sSetF (i : Nat) (fe : EM) : SM := fun r w => (fe (rel all_ r) w).en (rel all_ r) fun d w' => if d.flat = true then .nx (r.set i (some (d, false))) w' else .bad
theorem vs_setF {i : Nat} {x : Str} {pos' : Pos} (hN : X.N.Nodup) (he : VE X rE W e fe) (hi : X.N[i]? = some x := by rfl) (hx : Loc X.env.scope x := by first | exact Or.inl rfl | exact Or.inr rfl) (hf : X.fn x = true ∨ X.env.scope.names.lookup x = some .local := by first | exact .inl rfl | exact .inr rfl)
    (hs : swapsWith e (some (.Name x pos')) pos.line X.env = pure false := by rfl) : VS X W (.Assign [.Name x pos'] e pos) (sSetF i fe) := weakS (ps_asg he (pg_name hN hi hx hf) hs) fun D σ H ⟨B, A, r, w, hs, hp, q⟩ => by
  have hs1 := hs.rel all_
  refine ⟨B, _, _, w, hs1, hp.less fun a z => .inl z.1, PostS.en hs1 q fun d w' v H1 k p rv q => ?_⟩
  split at q
  · rename_i hf
    exact q _ H1 A ((hs.keep k).set (rv.flat hf)) (hp.again p)
  · exact q.elim

/-- x = e, e a new object: x owns it -/
def sSetO (i : Nat) (caps : List Nat) (fe : EM) : SM := fun r w => (fe (rel (these caps) r) w).en (rel (these caps) r) fun d w' => .nx ((rel (these caps) r).set i (some (d, true))) w'
theorem PenAt.more {p a : Addr} {lc : Lx} {A : Addr → Prop} {H H0 : Hp} {w : Wd} (h : PenAt p lc A H w) (n : Fr H0 a) (k : Kp p H0 H) (h0 : ∃ w, PenAt p lc A H0 w) : PenAt p lc (fun b => A b ∨ b = a) H w := by
  obtain ⟨o, l, h1, h2, h3, h4, h5⟩ := h
  obtain ⟨w0, _, _, g1, g2, _⟩ := h0
  exact ⟨o, l, h1, h2, fun z => z.elim h3 fun e => (by rw [← e] at n; exact n _ g2 trivial), fun z => z.elim h4 fun e => (by rw [← e] at n; exact n _ g1 trivial), h5⟩
theorem vs_setO {i : Nat} {x : Str} {pos' : Pos} (caps : List Nat) (hN : X.N.Nodup) (he : VE X rF W e fe) (hi : X.N[i]? = some x := by rfl) (hx : Loc X.env.scope x := by first | exact Or.inl rfl | exact Or.inr rfl) (hf : X.fn x = true ∨ X.env.scope.names.lookup x = some .local := by first | exact .inl rfl | exact .inr rfl)
    (hs : swapsWith e (some (.Name x pos')) pos.line X.env = pure false := by rfl) : VS X W (.Assign [.Name x pos'] e pos) (sSetO i caps fe) := weakS (ps_asg he (pg_name hN hi hx hf) hs) fun D σ H ⟨B, A, r, w, hs, hp, q⟩ => by
  have hs1 := hs.rel (these caps)
  have hp1 : PenAt B.p B.lc (fun a => A a ∧ ¬ OwnBy (these caps) σ r a) H w := hp.less fun a z => .inl z.1
  refine ⟨B, _, _, w, hs1, hp1, PostS.en hs1 q fun d w' v H1 k p rv q => ?_⟩
  obtain ⟨a, rfl, hn, ho⟩ := rv
  exact q _ H1 _ (hs1.setO k hn ho) (p.more hn k ⟨w, hp1⟩)
/-- e; -/
def sDrop (fe : EM) : SM := fun r w => (fe (rel all_ r) w).en (rel all_ r) fun _ w' => .nx r w'
theorem vs_drop (he : VE X rO W e fe) (hs : swapsWith e none pos.line X.env = pure false := by rfl) : VS X W (.Expr e pos) (sDrop fe) := weakS (ps_expr he hs) fun D σ H ⟨B, A, r, w, hs, hp, q⟩ => by
  have hs1 := hs.rel all_
  exact ⟨B, _, _, w, hs1, hp.less fun a z => .inl z.1, PostS.en hs1 q fun d w' v H1 k p rv q => q _ H1 _ (hs.keep k) (hp.again p)⟩
/-- return e -/
def sRet (fe : EM) : SM := fun r w => (fe (rel all_ r) w).en (rel all_ r) fun d w' => .rt d w'
theorem StOk.rel_a0 {K : PySem.W.Frag} {mg : Str → Option Value} {B : Bs} {A : Addr → Prop} {σ : L2.St} {H : Hp} {r : Env} (h : StOk K mg B A σ H r) : ∀ a, B.A0 a → A a ∨ Fr H a := fun a q => .inl (h.a0 a q)
theorem vs_ret (he : VE X rE W e fe) : VS X W (.Return (some e) pos) (sRet fe) := weakS (ps_ret he) fun D σ H ⟨B, A, r, w, hs, hp, q⟩ => by
  have hs1 := hs.rel all_
  exact ⟨B, _, _, w, hs1, hp.less fun a z => .inl z.1, PostS.en hs1 q fun d w' v H1 k p rv q => q _ H1 ((hs1.keep k).kp) (p.less fun a z => .inl (hs1.a0 a z)) (rv.to fun a z => .inl (hs1.a0 a z))⟩
theorem vs_retN : VS X W (.Return none pos) (fun _ w => .rt .non w) := weakS ps_retN fun D σ H ⟨B, A, r, w, hs, hp, q⟩ => q _ H hs.kp (hp.less fun a z => .inl (hs.a0 a z)) .non
/-- if -/
def sIf (fc : EM) (f g : SM) : SM := fun r w => (fc (rel all_ r) w).en (rel all_ r) fun d w' => match d with
  | .bl true => f r w'
  | .bl false => g r w'
  | _ => .bad
theorem vs_if {c : Expr} {ss ts : List Stmt} (hc : VT X W c fc) (ha : VSs X W ss f) (hb : VSs X W ts g) : VS X W (.If c ss ts pos) (sIf fc f g) := weakS (ps_if hc ha hb) fun D σ H ⟨B, A, r, w, hs, hp, q⟩ => by
  have hs1 := hs.rel all_
  refine ⟨B, _, _, w, hs1, hp.less fun a z => .inl z.1, ?_⟩
  have q : PostS X.K X.mg B W D ((fc (rel all_ r) w).en (rel all_ r) fun d w' => match d with
    | .bl true => f r w'
    | .bl false => g r w'
    | _ => .bad) := q
  cases z : fc (rel all_ r) w with
  | ok d w' =>
    rw [z] at q
    simp only [Res.en] at q
    cases d <;> first | exact q.elim | skip
    rename_i b
    cases b with
    | true => exact fun H1 k p => iteT ⟨B, A, r, w', hs.keep k, hp.again p, q⟩
    | false => exact fun H1 k p => iteF ⟨B, A, r, w', hs.keep k, hp.again p, q⟩
  | exc n fs w' => rw [z] at q; exact fun cls dd H' k' p e => q cls dd σ H' _ (hs1.keep k') p e
  | bad => rw [z] at q; exact q

end
/-! ### loops: the base is laid anew -/
def Own (σ : L2.St) (r : Env) (a : Addr) : Prop := ∃ (i : Nat) (d : D), r[i]? = some (some (d, true)) ∧ σ[i]? = some (some (.ref a))
open Classical in
noncomputable def Bs.re (B : Bs) (A : Addr → Prop) (σ : L2.St) (H : Hp) (r : Env) : Bs := ⟨B.p, B.lc, fun a => A a ∧ ¬ Own σ r a, fun a => if Own σ r a then none else H a⟩
section
variable {K : PySem.W.Frag} {mg : Str → Option Value} {B : Bs} {A A' : Addr → Prop} {σ σ' : L2.St} {H H' : Hp} {r r' : Env} {Z : Ends} {W : WX} {a : Addr}
theorem re_own (h : Own σ r a) : (B.re A σ H r).H0 a = none := if_pos h
theorem re_not (h : ¬ Own σ r a) : (B.re A σ H r).H0 a = H a := if_neg h
theorem re_some {o : HO} (h : (B.re A σ H r).H0 a = some o) : H a = some o ∧ ¬ Own σ r a := by
  by_cases z : Own σ r a
  · rw [re_own z] at h; cases h
  · rw [re_not z] at h; exact ⟨h, z⟩
theorem StOk.own_a (h : StOk K mg B A σ H r) {a : Addr} (o : Own σ r a) : A a ∧ Fr B.H0 a := by
  obtain ⟨i, d, h1, h2⟩ := o
  obtain ⟨b, e, hA, h0, _⟩ := h.ow i d h1
  rw [h2] at e; cases e
  exact ⟨hA, h0⟩
theorem StOk.re (h : StOk K mg B A σ H r) : StOk K mg (B.re A σ H r) A σ H r where
  kp := ⟨fun b o n m e => (re_some e).1, fun b ⟨o, e, n⟩ => ⟨o, (re_some e).1, n⟩⟩
  tp := h.tp
  tr := h.tr
  a0 := fun a q => q.1
  t0 := fun a q => by
    obtain ⟨o, e, w⟩ := h.tr a q.1
    exact ⟨o, (re_not q.2).trans e, w.nt⟩
  ax := fun a q => by
    by_cases z : Own σ r a
    · exact .inr (fr_none (re_own z))
    · exact .inl ⟨q, z⟩
  np := h.np
  pl := h.pl
  ow := fun i d e => let ⟨a, h1, h2, h3, h4⟩ := h.ow i d e; ⟨a, h1, h2, fr_none (re_own ⟨i, d, e, h1⟩), h4⟩
  ne := h.ne
  ln := h.ln
  tq := by
    have no : ∀ b o, NT o → B.H0 b = some o → ¬ Own σ r b := fun b o n e z => (h.own_a z).2 o e n
    refine ⟨⟨h.tq.l.t, ⟨fun b o n m e => (re_not (no b o m (h.tq.l.g.k b o n m e))).trans (h.lco.g.k b o n m e), fun b z => ?_⟩, h.tq.l.s, h.tq.l.n⟩, ?_, fun q => ?_⟩
    · obtain ⟨o, e, n⟩ := h.tq.l.g.t b z
      obtain ⟨o2, e2, n2⟩ := h.kp.t b ⟨o, e, n⟩
      exact ⟨o2, (re_not (no b o n e)).trans e2, n2⟩
    · obtain ⟨o, e, n⟩ := h.tq.a
      obtain ⟨o2, e2, n2⟩ := h.kp.t _ ⟨o, e, n⟩
      exact ⟨o2, (re_not (no _ o n e)).trans e2, n2⟩
    · exact h.nl q.1 rfl
theorem StOk.re_kp (h : StOk K mg B A σ H r) (k : Kp B.p (B.re A σ H r).H0 H') (tp : ∃ o, H' B.p = some o ∧ NT o) : Kp B.p B.H0 H' := by
  refine ⟨fun b o n m e => ?_, fun b ⟨o, e, m⟩ => ?_⟩
  · refine k.k b o n m ?_
    refine (re_not fun z => ?_).trans (h.kp.k b o n m e)
    exact (h.own_a z).2 o e m
  · obtain ⟨u, eu, mu⟩ := h.kp.t b ⟨o, e, m⟩
    refine k.t b ⟨u, (re_not fun z => ?_).trans eu, mu⟩
    exact (h.own_a z).2 o e m
theorem StOk.re_none (h : StOk K mg B A σ H r) {a : Addr} (e : Fr (B.re A σ H r).H0 a) : Fr B.H0 a := by
  by_cases z : Own σ r a
  · exact (h.own_a z).2
  · exact h.kp.free fun o q => e o ((re_not z).trans q)
theorem StOk.un (h : StOk K mg B A σ H r) (h' : StOk K mg (B.re A σ H r) A' σ' H' r') : StOk K mg B A' σ' H' r' where
  kp := h.re_kp h'.kp h'.tp
  tp := h'.tp
  tr := h'.tr
  a0 := fun a q => h'.a0 a ⟨h.a0 a q, fun z => by
    obtain ⟨o, e, m⟩ := h.t0 a q
    exact (h.own_a z).2 o e m⟩
  t0 := h.t0
  ax := fun a q => (h'.ax a q).elim (fun z => h.ax a z.1) fun z => .inr (h.re_none z)
  np := h'.np
  pl := h'.pl
  ow := fun i d e => let ⟨a, h1, h2, h3, h4⟩ := h'.ow i d e; ⟨a, h1, h2, h.re_none h3, h4⟩
  ne := h'.ne
  ln := h'.ln
  tq := h.tq
theorem StOk.re_a0 (h : StOk K mg B A σ H r) : ∀ a, B.A0 a → (B.re A σ H r).A0 a := fun a q => ⟨h.a0 a q, fun z => by
    obtain ⟨o, e, m⟩ := h.t0 a q
    exact (h.own_a z).2 o e m⟩
theorem PostS.re {x : SR} (h : StOk K mg B A σ H r) (hp : ∃ w, PenAt B.p B.lc A H w) (q : PostS K mg B W Z x) : PostS K mg (B.re A σ H r) W Z x := by
  cases x with
  | nx r' w' => exact fun σ' H' A' hs' hp' => q σ' H' A' (h.un hs') hp'
  | bk r' w' => exact fun σ' H' A' hs' hp' => q σ' H' A' (h.un hs') hp'
  | ct r' w' => exact fun σ' H' A' hs' hp' => q σ' H' A' (h.un hs') hp'
  | rt d w' => exact fun v H' k p rv => q v H' (h.re_kp k (k.t B.p ⟨_, (re_not (fun z => h.np (h.own_a z).1)).trans h.tp.choose_spec.1, h.tp.choose_spec.2⟩)) (p.less fun a z => .inl (h.re_a0 a z)) (rv.to fun a z => .inl (h.re_a0 a z))
  | exc n fs r' w' => exact fun cls dd σ' H' A' hs' hp' e => q cls dd σ' H' A' (h.un hs') hp' e
  | bad => exact q
end
end DL

set_option Elab.async false
set_option linter.all false
set_option maxRecDepth 100000
set_option maxHeartbeats 2000000
namespace DL
open PySem L2

/-! ### what is walked -/
inductive ResI where
  | ok (l : List D) (w : Wd)
  | exc (n : Str) (fs : List (Str × D)) (w : Wd)
  | bad
abbrev IM := Env → Wd → ResI
def Res.toI (x : Res) (k : D → Option (List D)) : ResI := match x with
  | .ok d w => match k d with
    | some l => .ok l w
    | none => .bad
  | .exc n fs w => .exc n fs w
  | .bad => .bad
/-- how a walk's heap may change: true: all but the pen and A's (a loop); false: all but the pen (a comprehension) -/
def Ks (s : Bool) (p : Addr) (A : Addr → Prop) (H H' : Hp) : Prop := if s = true then KpA p A H H' else Kp p H H'
theorem Ks.a {s : Bool} {p : Addr} {A : Addr → Prop} {H H' : Hp} (k : Ks s p A H H') : KpA p A H H' := by
  cases s with
  | true => exact k
  | false => exact Kp.a (show Kp p H H' from k)
/-- J walks ds, from H on -/
structure Walks (s : Bool) (c : Cf) (A : Addr → Prop) (H : Hp) (J : It) (ds : List D) : Prop where
  ex : ∃ G Y, Walk J ds.length G Y ∧ (∀ H1, Ks s c.p A H H1 → G H1) ∧
    ∀ i H1 x H2, i < ds.length → Ks s c.p A H H1 → Y i H1 x H2 → Same H1 H2 ∧ ∃ d, ds[i]? = some d ∧ ∀ A' : Addr → Prop, (∀ a, A' a → A a ∨ Fr H a) → Fre c A' H1 → Rep c A' H2 x d
def PostI (s : Bool) (c : Cf) (A : Addr → Prop) (σ : L2.St) (H : Hp) (W : WX) (R : It → Hp → Prop) : ResI → Prop
  | .ok ds w => ∀ J H', Kp c.p H H' → PenAt c.p c.lc A H' w → Walks s c A H' J ds → R J H'
  | .exc n fs w => ∀ cls dd H', Kp c.p H H' → PenAt c.p c.lc A H' w → ErrR c A n fs cls dd H' → W cls dd σ H'
  | .bad => False
def tVI (K : PySem.W.Frag) (mg : Str → Option Value) (s : Bool) (W : WX) (f : IM) : TI := fun σ H R =>
  ∃ (B : Bs) (A : Addr → Prop) (r : Env) (w : Wd), StOk K mg B A σ H r ∧ PenAt B.p B.lc A H w ∧ PostI s (B.cf K mg) A σ H W R (f r w)
abbrev VI (X : Cx) (s : Bool) (W : WX) (tg e : Expr) (f : IM) : Prop := PI X tg e (tVI X.K X.mg s W f)
theorem weakI {X : Cx} {tg e : Expr} {t t' : TI} (h : PI X tg e t) (k : ∀ σ H R, t' σ H R → t σ H R) : PI X tg e t' := ⟨fun pins s σ H R I q => h.run pins s σ H R I (k σ H R q)⟩
theorem PI.or {X : Cx} {tg e : Expr} {t t' : TI} (h : PI X tg e t) (h' : PI X tg e t') : PI X tg e (fun σ H R => t σ H R ∨ t' σ H R) := ⟨fun pins s σ H R I q => q.elim (h.run pins s σ H R I) (h'.run pins s σ H R I)⟩
section
variable {X : Cx} {W : WX} {tg e a b : Expr} {fe fa fb : EM} {pos : Pos}
theorem RepL.at {c : Cf} {A : Addr → Prop} {H : Hp} : ∀ {vs : List V} {ds : List D} {i : Nat} {v : V}, RepL c A H vs ds → vs[i]? = some v → ∃ d, ds[i]? = some d ∧ Rep c A H v d
  | _, _, _, _, .nil, h => by simp at h
  | _, _, 0, _, .cons h _, e => by simp at e; subst e; exact ⟨_, rfl, h⟩
  | _, _, i + 1, _, .cons _ r, e => by
    obtain ⟨d, h1, h2⟩ := RepL.at (i := i) r (by simpa using e)
    exact ⟨d, by simpa using h1, h2⟩
theorem RepL.len {c : Cf} {A : Addr → Prop} {H : Hp} : ∀ {vs : List V} {ds : List D}, RepL c A H vs ds → vs.length = ds.length
  | _, _, .nil => rfl
  | _, _, .cons _ r => by rw [List.length_cons, List.length_cons, RepL.len r]
/-- an item stays while the loop runs -/
theorem Rep.on {c : Cf} {A A' : Addr → Prop} {H H1 : Hp} {v : V} {d : D} (h : Rep c A H v d) (k : KpA c.p A H H1) (up : ∀ a, A' a → A a ∨ Fr H a) : Rep c A' H1 v d :=
  ((h.to (A' := fun a => A a ∨ A' a) fun a q => q.elim .inl (up a)).keepA fun b o n => k b o fun z => n (.inl z)).to fun a q => .inl (.inr q)
/-- what a for takes from data -/
def itemsD : D → Option (List D)
  | .lst l => some l
  | .tup l => some l
  | .kup l => some l
  | _ => none
/-- the loop's list: what s asks of it -/
theorem walks_list {s : Bool} {c : Cf} {A : Addr → Prop} {H : Hp} {a : Addr} {vs : List V} {ds : List D} (h : ∀ H1, Ks s c.p A H H1 → SqL c.K H1 a vs) (r : RepL c A H vs ds) : Walks s c A H (Itl c.K a) ds := by
  refine ⟨fun H => SqL c.K H a vs, YAt vs, by rw [← r.len]; exact walk_list, h, fun i H1 x H2 hi k ⟨e, y⟩ => ?_⟩
  subst e
  obtain ⟨d, h1, h2⟩ := r.at y
  exact ⟨Same.refl _, d, h1, fun A' up fr => h2.on k.a up⟩
theorem walks_tup {s : Bool} {c : Cf} {A : Addr → Prop} {H : Hp} {a : Addr} {vs : List V} {ds : List D} (h : ∀ H1, Ks s c.p A H H1 → SqT c.K H1 a vs) (r : RepL c A H vs ds) : Walks s c A H (Itt c.K a) ds := by
  refine ⟨fun H => SqT c.K H a vs, YAt vs, by rw [← r.len]; exact walk_tup, h, fun i H1 x H2 hi k ⟨e, y⟩ => ?_⟩
  subst e
  obtain ⟨d, h1, h2⟩ := r.at y
  exact ⟨Same.refl _, d, h1, fun A' up fr => h2.on k.a up⟩
/-- what a value holds while the walk goes on -/
def RSt (s : Bool) (R : RK) : Prop := (s = true ∧ R = rE) ∨ (s = false ∧ R = rO)
theorem stay_l {s : Bool} {c : Cf} {A : Addr → Prop} {H H0 : Hp} {v : V} {ds : List D} {R : RK} (hR : RSt s R) (np : ¬ A c.p) (h : R c A H0 H v (.lst ds)) : ∃ a vs, v = .ref a ∧ (∀ H1, Ks s c.p A H H1 → SqL c.K H1 a vs) ∧ RepL c A H vs ds := by
  rcases hR with ⟨rfl, rfl⟩ | ⟨rfl, rfl⟩
  · cases h with
    | lst h n m r => exact ⟨_, _, rfl, fun H1 k => SqL.of (k _ _ n m.1 trivial h), r⟩
  · rcases h with h | ⟨a, rfl, hA, vs, h1, h2⟩
    · cases h with
      | lst h n m r => exact ⟨_, _, rfl, fun H1 k => SqL.of (Kp.a (A := A) (show Kp c.p H H1 from k) _ _ n m.1 trivial h), r⟩
    · exact ⟨a, vs, rfl, fun H1 k => .inl (.inl (Kp.k (show Kp c.p H H1 from k) a _ (fun z => np (by rw [← z]; exact hA)) trivial h1)), h2⟩
theorem stay_t {s : Bool} {c : Cf} {A : Addr → Prop} {H H0 : Hp} {v : V} {d : D} {ds : List D} {R : RK} (hR : RSt s R) (h : R c A H0 H v d) (e : d = .tup ds ∨ d = .kup ds) : ∃ a vs, v = .ref a ∧ (∀ H1, Ks s c.p A H H1 → SqT c.K H1 a vs) ∧ RepL c A H vs ds := by
  have key : ∀ {v}, Rep c A H v d → ∃ a vs, v = .ref a ∧ (∀ H1, Ks s c.p A H H1 → SqT c.K H1 a vs) ∧ RepL c A H vs ds := fun {v} h => by
    rcases e with rfl | rfl
    · cases h with
      | tup h n m r => exact ⟨_, _, rfl, fun H1 k => SqT.of (k.a _ _ n m trivial h), r⟩
    · obtain ⟨a, vs, e, h1, h2⟩ := rO.kup (H' := H) (.inl h)
      exact ⟨a, vs, e, fun H1 _ => h1 H1, h2⟩
  rcases hR with ⟨rfl, rfl⟩ | ⟨rfl, rfl⟩
  · exact key h
  · rcases h with h | ⟨a, rfl, hA, h1⟩
    · exact key h
    · rcases e with rfl | rfl <;> exact h1.elim
def iSeq (fe : EM) : IM := fun r w => (fe r w).toI itemsD
/-- for x in e, e a list or a tuple -/
theorem vi_seq {s : Bool} {R : RK} (hR : RSt s R) (he : VE X R W e fe) : VI X s W tg e (iSeq fe) := weakI (PI.or (pi_list he) (pi_tup he)) fun σ H R0 ⟨B, A, r, w, hs, hp, q⟩ => by
  have q : PostI s (B.cf X.K X.mg) A σ H W R0 ((fe r w).toI itemsD) := q
  cases z : fe r w with
  | ok d w' =>
    rw [z] at q
    unfold Res.toI itemsD at q
    cases d <;> first | exact q.elim | skip
    · refine .inr ⟨B, A, r, w, hs, hp, ?_⟩
      rw [z]
      intro v H1 k p rv
      obtain ⟨a, vs, rfl, h1, h2⟩ := stay_t hR rv (.inl rfl)
      exact ⟨a, rfl, ⟨vs, h1 H1 (by unfold Ks; split <;> first | exact fun _ _ _ _ _ h => h | exact .refl)⟩, q _ H1 k p (walks_tup h1 h2)⟩
    · refine .inr ⟨B, A, r, w, hs, hp, ?_⟩
      rw [z]
      intro v H1 k p rv
      obtain ⟨a, vs, rfl, h1, h2⟩ := stay_t hR rv (.inr rfl)
      exact ⟨a, rfl, ⟨vs, h1 H1 (by unfold Ks; split <;> first | exact fun _ _ _ _ _ h => h | exact .refl)⟩, q _ H1 k p (walks_tup h1 h2)⟩
    · refine .inl ⟨B, A, r, w, hs, hp, ?_⟩
      rw [z]
      intro v H1 k p rv
      obtain ⟨a, vs, rfl, h1, h2⟩ := stay_l hR hs.np rv
      exact ⟨a, rfl, ⟨vs, h1 H1 (by unfold Ks; split <;> first | exact fun _ _ _ _ _ h => h | exact .refl)⟩, q _ H1 k p (walks_list h1 h2)⟩
  | exc n fs w' => rw [z] at q; exact .inl ⟨B, A, r, w, hs, hp, by rw [z]; exact q⟩
  | bad => rw [z] at q; exact q.elim
theorem st_e : RSt true rE := .inl ⟨rfl, rfl⟩
theorem st_o : RSt false rO := .inr ⟨rfl, rfl⟩


/-! ### targets -/
/-- what a target makes of the environment -/
abbrev GM := D → Env → Option Env
abbrev GMs := List D → Env → Option Env
def tVG (K : PySem.W.Frag) (mg : Str → Option Value) (S : List Nat) (g : GM) : TG := fun v σ H Q =>
  ∃ (B : Bs) (A : Addr → Prop) (r r' : Env) (d : D), StOk K mg B A σ H r ∧ Rep (B.cf K mg) A H v d ∧ g d r = some r' ∧ ∀ σ' : L2.St, StOk K mg B A σ' H r' → (∀ j, j ∉ S → σ'[j]? = σ[j]?) ∧ σ'.length = σ.length → Q σ' H
def tVGs (K : PySem.W.Frag) (mg : Str → Option Value) (S : List Nat) (g : GMs) : TGs := fun vs σ H Q =>
  ∃ (B : Bs) (A : Addr → Prop) (r r' : Env) (ds : List D), StOk K mg B A σ H r ∧ RepL (B.cf K mg) A H vs ds ∧ g ds r = some r' ∧ ∀ σ' : L2.St, StOk K mg B A σ' H r' → (∀ j, j ∉ S → σ'[j]? = σ[j]?) ∧ σ'.length = σ.length → Q σ' H
abbrev VG (X : Cx) (tg : Expr) (S : List Nat) (g : GM) : Prop := PG X tg (tVG X.K X.mg S g)
abbrev VGs (X : Cx) (tgs : List Expr) (S : List Nat) (g : GMs) : Prop := PGs X tgs (tVGs X.K X.mg S g)
theorem weakG {X : Cx} {tg : Expr} {t t' : TG} (h : PG X tg t) (k : ∀ v σ H Q, t' v σ H Q → t v σ H Q) : PG X tg t' := ⟨fun pins s σ H v u Q I r q => h.run pins s σ H v u Q I r (k v σ H Q q)⟩
theorem weakGs {X : Cx} {tg : List Expr} {t t' : TGs} (h : PGs X tg t) (k : ∀ v σ H Q, t' v σ H Q → t v σ H Q) : PGs X tg t' := ⟨fun pins s σ H v u Q I r q => h.run pins s σ H v u Q I r (k v σ H Q q)⟩
theorem PG.or {X : Cx} {tg : Expr} {t t' : TG} (h : PG X tg t) (h' : PG X tg t') : PG X tg (fun v σ H Q => t v σ H Q ∨ t' v σ H Q) := ⟨fun pins s σ H v u Q I r q => q.elim (h.run pins s σ H v u Q I r) (h'.run pins s σ H v u Q I r)⟩
def gN (i : Nat) : GM := fun d r => some (r.set i (some (d, false)))
theorem vg_name (i : Nat) {x : Str} (hN : X.N.Nodup) (hi : X.N[i]? = some x := by rfl) (hx : Loc X.env.scope x := by first | exact Or.inl rfl | exact Or.inr rfl) (hf : X.fn x = true ∨ X.env.scope.names.lookup x = some .local := by first | exact .inl rfl | exact .inr rfl) : VG X (.Name x pos) [i] (gN i) :=
  weakG (pg_name hN hi hx hf) fun v σ H Q ⟨B, A, r, r', d, hs, rv, e, q⟩ => by
    cases e
    exact q _ (hs.set rv) ⟨fun j hj => List.getElem?_set_ne (fun z => hj (by rw [z]; exact List.mem_singleton.mpr rfl)), List.length_set⟩
def gNo : GMs := fun ds r => match ds with
  | [] => some r
  | _ => none
def gCo (g : GM) (gs : GMs) : GMs := fun ds r => match ds with
  | d :: ds => (g d r).bind fun r' => gs ds r'
  | [] => none
theorem vgs_nil : VGs X [] [] gNo := weakGs pgs_nil fun vs σ H Q ⟨B, A, r, r', ds, hs, rv, e, q⟩ => by
  cases rv with
  | nil => cases e; exact ⟨rfl, q σ hs ⟨fun _ _ => rfl, rfl⟩⟩
  | cons _ _ => cases e
theorem vgs_cons {t : Expr} {ts : List Expr} {S S' : List Nat} {g : GM} {gs : GMs} (h1 : VG X t S g) (h2 : VGs X ts S' gs) (hs : (assignEach (t :: ts) X.env).map (·.2) = assign t X.env :: (assignEach ts X.env).map (·.2) := by rfl) : VGs X (t :: ts) (S ++ S') (gCo g gs) :=
  weakGs (pgs_cons h1 h2 hs) fun vs σ H Q ⟨B, A, r, r', ds, hs, rv, e, q⟩ => by
    cases rv with
    | nil => cases e
    | @cons v d vs ds hv hr =>
      have e : (g d r).bind (fun r' => gs ds r') = some r' := e
      cases e1 : g d r with
      | none => rw [e1] at e; cases e
      | some r1 =>
        rw [e1] at e
        exact ⟨v, vs, rfl, B, A, r, r1, d, hs, hv, e1, fun σ1 h1 k1 => ⟨B, A, r1, r', ds, h1, hr, e, fun σ2 h2 k2 => q σ2 h2 ⟨fun j hj => (k2.1 j fun z => hj (List.mem_append_right _ z)).trans (k1.1 j fun z => hj (List.mem_append_left _ z)), k2.2.trans k1.2⟩⟩⟩
def gTupD (n : Nat) (gs : GMs) : GM := fun d r => match d with
  | .tup l => if l.length = n then gs l r else none
  | .kup l => if l.length = n then gs l r else none
  | .lst l => if l.length = n then gs l r else none
  | _ => none
theorem vg_tup {es : List Expr} {k : Nat} {S : List Nat} {gs : GMs} {n : Nat} (hc : X.calm = true) (h : VGs X es S gs)
    (hn : (assignEach es X.env).length = n := by rfl) (hst : (assignEach es X.env).findIdx? (·.1) = none := by rfl) : VG X (.Tuple es k pos) S (gTupD n gs) :=
  weakG (PG.or (pg_tup hc h hn hst) (pg_lst hc h hn hst)) fun v σ H Q ⟨B, A, r, r', d, hs, rv, e, q⟩ => by
    unfold gTupD at e
    split at e
    · split at e
      · rename_i hl
        obtain ⟨a, vs, rfl, h1, h2⟩ := rO.tupq (H' := H) (.inl rv) (.inl rfl)
        exact .inl ⟨a, vs, rfl, h1, by rw [h2.len]; exact hl, B, A, r, r', _, hs, h2, e, q⟩
      · cases e
    · split at e
      · rename_i hl
        obtain ⟨a, vs, rfl, h1, h2⟩ := rO.tupq (H' := H) (.inl rv) (.inr rfl)
        exact .inl ⟨a, vs, rfl, h1, by rw [h2.len]; exact hl, B, A, r, r', _, hs, h2, e, q⟩
      · cases e
    · split at e
      · rename_i hl
        obtain ⟨a, vs, rfl, h1, h2⟩ := rO.lst (H' := H) (.inl rv)
        exact .inr ⟨a, vs, rfl, SqL.of h1, by rw [h2.len]; exact hl, B, A, r, r', _, hs, h2, e, q⟩
      · cases e
    · cases e
/-- target = e -/
def sTo (caps : List Nat) (g : GM) (fe : EM) : SM := fun r w => (fe (rel (these caps) r) w).en (rel (these caps) r) fun d w' => match g d (rel (these caps) r) with
  | some r' => .nx r' w'
  | none => .bad
theorem vs_to {tg : Expr} {S : List Nat} {g : GM} (caps : List Nat) (he : VE X rE W e fe) (hg : VG X tg S g) (hs : swapsWithSole [tg] e pos.line X.env = pure false := by rfl) (hw : swappedStores [tg] e X.env = pure none := by rfl) (h1 : (assignEach [tg] X.env).map (·.2) = [assign tg X.env] := by rfl) : VS X W (.Assign [tg] e pos) (sTo caps g fe) := weakS (ps_asg he hg hs hw h1) fun D σ H ⟨B, A, r, w, hs, hp, q⟩ => by
  have hs1 := hs.rel (these caps)
  refine ⟨B, _, _, w, hs1, hp.less fun a z => .inl z.1, PostS.en hs1 q fun d w' v H1 k p rv q => ?_⟩
  split at q
  · rename_i r' e1
    exact ⟨B, _, _, r', d, hs1.keep k, rv, e1, fun σ' hs' _ => q σ' H1 _ hs' p⟩
  · exact q.elim

/-! ### for -/
/-- for: the items, the target, the body -/
def forL (g : GM) (f : SM) : List D → SM
  | [], r, w => .nx r w
  | d :: ds, r, w => match g d r with
    | none => .bad
    | some r1 => match f r1 w with
      | .nx r2 w2 => forL g f ds r2 w2
      | .ct r2 w2 => forL g f ds r2 w2
      | .bk r2 w2 => .nx r2 w2
      | .rt d w2 => .rt d w2
      | .exc n fs r2 w2 => .exc n fs r2 w2
      | .bad => .bad
def ResI.en (x : ResI) (r : Env) (k : List D → Wd → SR) : SR := match x with
  | .ok l w => k l w
  | .exc n fs w => .exc n fs r w
  | .bad => .bad
def sFor (caps : List Nat) (fi : IM) (g : GM) (f : SM) : SM := fun r w => (fi (rel (these caps) r) w).en (rel (these caps) r) fun l w' => forL g f l (rel (these caps) r) w'
theorem for_core {S : List Nat} {g : GM} {f : SM} {B : Bs} {A1 : Addr → Prop} {σ : L2.St} {H1 : Hp} {r : Env} {w' : Wd} {ds : List D} {J : It} {Z : Ends} (hs2 : StOk X.K X.mg B A1 σ H1 r) (p : PenAt B.p B.lc A1 H1 w') (wk : Walks true (B.cf X.K X.mg) A1 H1 J ds) (q : PostS X.K X.mg B W Z (forL g f ds r w')) :
    ∃ V : Nat → Nat → L2.St → Hp → Prop, (∃ m, V 0 m σ H1) ∧ ∀ i m σ H, V i m σ H →
      (J.stop i H ∧ Z.nx σ H) ∨ (J.go i H ∧ ∃ N : L2.St → Hp → Prop, (∀ σ' H', N σ' H' → ∃ m', m' < m ∧ V (i + 1) m' σ' H') ∧ ∀ x H', J.yld i H x H' → tVG X.K X.mg S g x σ H' fun σ2 H2 => tVS X.K X.mg W f { Z with nx := N, ct := N, bk := Z.nx } σ2 H2) := by
  obtain ⟨G, Y, wk, hG, hY⟩ := wk
  have q2 := PostS.re hs2 ⟨_, p⟩ q
  refine for_it wk (fun i σ' H' => ∃ A' r' w', StOk X.K X.mg (B.re A1 σ H1 r) A' σ' H' r' ∧ PenAt B.p B.lc A' H' w' ∧ PostS X.K X.mg (B.re A1 σ H1 r) W Z (forL g f (ds.drop i) r' w'))
    ⟨A1, _, w', hs2.re, p, q2⟩ (fun i σ' H' hi ⟨A', r', w', h1, h2, h3⟩ => hG H' ?_) ?_ ?_
  · exact fun b o nA nb m e => h1.kp.k b o nb m ((re_not fun z => nA (hs2.own_a z).1).trans e)
  · rintro i x σ' H' H'' hi ⟨A', r', w', h1, h2, h3⟩ y
    have kA : KpA B.p A1 H1 H' := fun b o nA nb m e => h1.kp.k b o nb m ((re_not fun z => nA (hs2.own_a z).1).trans e)
    obtain ⟨sm, d, hd, hr⟩ := hY i H' x H'' hi kA y
    have up : ∀ a, A' a → A1 a ∨ Fr H1 a := fun a z => by
      rcases h1.ax a z with z | z
      · exact .inl z.1
      · by_cases o : Own σ r a
        · exact .inl (hs2.own_a o).1
        · exact .inr fun u e => z u ((re_not o).trans e)
    have rv := hr A' up h1.fre
    rw [List.drop_eq_getElem_cons hi] at h3
    have ed : ds[i] = d := by
      have := (List.getElem?_eq_some_iff.mp hd).2
      exact this
    rw [ed] at h3
    unfold forL at h3
    split at h3
    · exact h3.elim
    · rename_i r1 e1
      refine ⟨B.re A1 σ H1 r, A', r', r1, d, h1.keep (.of sm), rv, e1, fun σ2 hs3 _ => ?_⟩
      refine ⟨B.re A1 σ H1 r, A', r1, w', hs3, h2.keep sm, ?_⟩
      cases e2 : f r1 w' with
      | nx r2 w2 => rw [e2] at h3; exact fun σ3 H3 A3 hs4 hp4 => ⟨A3, r2, w2, hs4, hp4, h3⟩
      | ct r2 w2 => rw [e2] at h3; exact fun σ3 H3 A3 hs4 hp4 => ⟨A3, r2, w2, hs4, hp4, h3⟩
      | bk r2 w2 => rw [e2] at h3; exact h3
      | rt d2 w2 => rw [e2] at h3; exact h3
      | exc n fs r2 w2 => rw [e2] at h3; exact h3
      | bad => rw [e2] at h3; exact h3
  · rintro σ' H' ⟨A', r', w', h1, h2, h3⟩
    rw [List.drop_length] at h3
    have h3' := h3 σ' H' A' h1 h2
    exact h3'
theorem vs_for {tg iter : Expr} {fi : IM} {S : List Nat} {g : GM} {f : SM} {body : List Stmt} (caps : List Nat) (hp : PassesOwn (model X.prog X.w) X.A X.env X.xe) (hc : X.calm = true) (hi : VI X true W tg iter fi) (hg : VG X tg S g) (hb : VSs X W body f) (hs : ∀ x, foldedSetIterable iter X.env x = pure x := by intro _; rfl) :
    VS X W (.For tg iter body [] pos) (sFor caps fi g f) := weakS (ps_for hp hc hi hg hb hs) fun D σ H ⟨B, A, r, w, hs, hp, q⟩ => by
  have hs1 := hs.rel (these caps)
  refine ⟨B, _, _, w, hs1, hp.less fun a z => .inl z.1, ?_⟩
  have q : PostS X.K X.mg B W D ((fi (rel (these caps) r) w).en (rel (these caps) r) fun l w' => forL g f l (rel (these caps) r) w') := q
  cases z : fi (rel (these caps) r) w with
  | bad => rw [z] at q; exact q
  | exc n fs w' => rw [z] at q; exact fun cls dd H' k' p e => q cls dd σ H' _ (hs1.keep k') p e
  | ok ds w' =>
    rw [z] at q
    exact fun J H1 k p wk => for_core (hs1.keep k) p wk q
end
end DL

set_option Elab.async false
set_option linter.all false
set_option maxRecDepth 100000
set_option maxHeartbeats 2000000
namespace DL
open PySem L2

abbrev Wno : WX := fun _ _ _ _ => False
section
variable {K : PySem.W.Frag} {mg : Str → Option Value} {B : Bs} {A : Addr → Prop} {σ : L2.St} {H H1 : Hp} {r : Env}
/-- beside a new object that is being filled -/
theorem StOk.side {a : Addr} (h : StOk K mg B A σ H1 r) (n : Fr H1 a) (k : Kp B.p H1 H) (t : ∃ o, H a = some o ∧ WO o) : StOk K mg B (fun b => A b ∨ b = a) σ H r := by
  have hna := h.freshF n
  have h' := h.keep k
  have up : ∀ b, (A b ∨ b = a) → A b ∨ Fr H1 b := fun b q => q.elim .inl fun e => .inr (by rw [e]; exact n)
  have b0 : Fr B.H0 a := h.kp.free n
  refine ⟨h'.kp, h'.tp, fun b q => q.elim (h'.tr b) fun e => by rw [e]; exact t, fun b q => .inl (h.a0 b q), h.t0, fun b q => q.elim (h.ax b) fun e => .inr (by rw [e]; exact b0), fun q => q.elim h.np fun e => hna.2 e.symm, fun j e q => ?_, fun j e q => ?_, h.ne, h.ln, h.tq⟩
  · obtain ⟨u, h1, h2⟩ := h.pl j e q
    exact ⟨u, h1, (h2.to up).keepA (Kp.a k)⟩
  · obtain ⟨b, h1, h2, h3, h4⟩ := h.ow j e q
    exact ⟨b, h1, .inl h2, h3, (h4.to up).keepA (Kp.a k) fun o m q => k.k b o (fun z => h.np (z ▸ h2)) m q⟩
def wipeE (vs : List Nat) (r : Env) : Env := vs.foldr (fun v r => r.set v none) r
theorem StOk.wipe (h : StOk K mg B A σ H r) : ∀ vs : List Nat, StOk K mg B A (L2.wipe σ vs) H (wipeE vs r)
  | [] => h
  | v :: vs => by
    have ih := StOk.wipe h vs
    show StOk K mg B A ((L2.wipe σ vs).set v none) H ((wipeE vs r).set v none)
    generalize L2.wipe σ vs = σ1 at ih
    generalize wipeE vs r = r1 at ih
    have f : ∀ {j : Nat} {x}, (r1.set v none)[j]? = some (some x) → r1[j]? = some (some x) ∧ v ≠ j := fun {j x} e => by
      rcases set_at e with ⟨_, z⟩ | ⟨n, z⟩
      · cases z
      · exact ⟨z, Ne.symm n⟩
    refine ⟨ih.kp, ih.tp, ih.tr, ih.a0, ih.t0, ih.ax, ih.np, fun i d e => ?_, fun i d e => ?_, fun i j d e a h1 h2 s1 s2 => ?_, by rw [List.length_set, List.length_set]; exact ih.ln, ih.tq⟩
    · obtain ⟨u, h1, h2⟩ := ih.pl i d (f e).1
      exact ⟨u, by rw [List.getElem?_set_ne (f e).2]; exact h1, h2⟩
    · obtain ⟨u, h1, h2⟩ := ih.ow i d (f e).1
      exact ⟨u, by rw [List.getElem?_set_ne (f e).2]; exact h1, h2⟩
    · rw [List.getElem?_set_ne (f h1).2] at s1
      rw [List.getElem?_set_ne (f h2).2] at s2
      exact ih.ne i j d e a (f h1).1 (f h2).1 s1 s2
end
theorem wipe_agree : ∀ (vs : List Nat) {σ σ' : L2.St}, σ'.length = σ.length → (∀ j, j ∉ vs → σ'[j]? = σ[j]?) → wipe σ' vs = wipe σ vs := fun vs σ σ' hl h => by
  have key : ∀ (vs : List Nat) (σ : L2.St) (j : Nat), (wipe σ vs)[j]? = if j ∈ vs then (σ[j]?.map fun _ => none) else σ[j]? := by
    intro vs
    induction vs with
    | nil => intro σ j; simp [wipe]
    | cons v vs ih =>
      intro σ j
      show ((wipe σ vs).set v none)[j]? = _
      rw [List.getElem?_set]
      by_cases e : v = j
      · subst e
        rw [if_pos rfl, if_pos List.mem_cons_self, wipe_length]
        by_cases hv : v < σ.length
        · rw [if_pos hv, List.getElem?_eq_getElem hv]; rfl
        · rw [if_neg hv, List.getElem?_eq_none (by omega)]; rfl
      · rw [if_neg e, ih]
        have : (j ∈ v :: vs) ↔ j ∈ vs := by simp [Ne.symm e]
        by_cases hj : j ∈ vs
        · rw [if_pos hj, if_pos (this.mpr hj)]
        · rw [if_neg hj, if_neg (fun z => hj (this.mp z))]
  apply List.ext_getElem?
  intro j
  rw [key, key]
  by_cases hj : j ∈ vs
  · rw [if_pos hj, if_pos hj]
    by_cases h1 : j < σ.length
    · rw [List.getElem?_eq_getElem h1, List.getElem?_eq_getElem (by omega)]; rfl
    · rw [List.getElem?_eq_none (by omega), List.getElem?_eq_none (by omega)]
  · rw [if_neg hj, if_neg hj]; exact h j hj
theorem wipe_wipe (vs : List Nat) (σ : L2.St) : wipe (wipe σ vs) vs = wipe σ vs := by
  refine wipe_agree vs (wipe_length σ vs) fun j hj => ?_
  have : ∀ (l : List Nat), j ∉ l → (wipe σ l)[j]? = σ[j]? := by
    intro l
    induction l with
    | nil => intro _; rfl
    | cons v l ih =>
      intro h
      show ((wipe σ l).set v none)[j]? = _
      rw [List.getElem?_set_ne (fun e => h (by rw [e]; exact List.mem_cons_self))]
      exact ih fun z => h (List.mem_cons_of_mem _ z)
  exact this vs hj
theorem RepL.snoc {c : Cf} {A : Addr → Prop} {H : Hp} {v : V} {d : D} : ∀ {vs : List V} {ds : List D}, RepL c A H vs ds → Rep c A H v d → RepL c A H (vs ++ [v]) (ds ++ [d])
  | _, _, .nil, h => .cons h .nil
  | _, _, .cons h r, q => .cons h (RepL.snoc r q)
/-- [e for g in .. if t] over the items -/
def lcL (vs : List Nat) (g : GM) (ft fe : EM) (r : Env) : List D → Wd → List D → Res
  | [], w, acc => .ok (.lst acc) w
  | d :: ds, w, acc => match g d (wipeE vs r) with
    | none => .bad
    | some r1 => match ft r1 w with
      | .ok (.bl true) w1 => match fe r1 w1 with
        | .ok y w2 => if acc.length < sizeLine then lcL vs g ft fe r ds w2 (acc ++ [y]) else .bad
        | _ => .bad
      | .ok (.bl false) w1 => lcL vs g ft fe r ds w1 acc
      | _ => .bad
def ResI.toR (x : ResI) (k : List D → Wd → Res) : Res := match x with
  | .ok l w => k l w
  | .exc n fs w => .exc n fs w
  | .bad => .bad
def dComp (vs : List Nat) (fi : IM) (g : GM) (ft fe : EM) : EM := fun r w => (fi r w).toR fun l w' => lcL vs g ft fe r l w' []
def dYes : EM := fun _ w => .ok (.bl true) w
abbrev VTs (X : Cx) (W : WX) (ifs : List Expr) (f : EM) : Prop := PTs X ifs (tVT X.K X.mg W f)
section
variable {X : Cx} {W : WX} {tg elt iter : Expr} {ifs : List Expr} {ft fe : EM} {fi : IM} {g : GM} {S : List Nat} {pos : Pos}
theorem vts_nil : VTs X W [] dYes := ⟨fun pins s σ H Q I ⟨B, A, r, w, hs, hp, q⟩ => pts_nil.run pins s σ H Q I (q H .refl hp)⟩
theorem vts_one {c : Expr} (h : VT X W c ft) : VTs X W [c] ft := pts_one h
theorem lc_core2 {vs : List Nat} {B : Bs} {A : Addr → Prop} {σ : L2.St} {H H1 : Hp} {r : Env} {w' : Wd} {ds : List D} {J : It} {Q : VK} {L : Addr} (hsub : ∀ j ∈ S, j ∈ vs) (hs : StOk X.K X.mg B A σ H1 r) (p : PenAt B.p B.lc A H1 w') (k0 : Kp B.p H H1) (wk : Walks false (B.cf X.K X.mg) A H1 J ds) (hn : H1 L = none)
    (q : Post (B.cf X.K X.mg) A σ H1 rF W Q (lcL vs g ft fe r ds w' [])) :
    ∃ V : Nat → Nat → Hp → Prop, (∃ m, V 0 m (upd H1 L (.lst []))) ∧ ∀ i m H, V i m H → (J.stop i H ∧ Q (.ref L) H) ∨ (J.go i H ∧ ∃ Nx : Hp → Prop, (∀ H', Nx H' → ∃ m', m' < m ∧ V (i + 1) m' H') ∧ ∀ x H', J.yld i H x H' →
      tVG X.K X.mg S g x (wipe σ vs) H' fun σ2 H2 => wipe σ2 vs = wipe σ vs ∧ tVT X.K X.mg Wno ft σ2 H2 fun b H3 => if b = true then tV X.K X.mg rE Wno fe σ2 H3 fun y H4 => ∃ acc, H4 L = some (.lst acc) ∧ acc.length < sizeLine ∧ Nx (upd H4 L (.lst (acc ++ [y]))) else Nx H3) := by
  obtain ⟨G, Y, wk, hG, hY⟩ := wk
  have fr := hs.fresh hn
  have kpL : ∀ {H2 : Hp} {o : HO}, Kp B.p H1 H2 → Kp B.p H1 (upd H2 L o) := fun {H2 o} k => ⟨fun b u nb mb e => by rw [upd_ne (ne_of_none e hn)]; exact k.k b u nb mb e, fun b ⟨u, e, m⟩ => by
    rw [upd_ne (ne_of_none e hn)]; exact k.t b ⟨u, e, m⟩⟩
  have penL : ∀ {H2 : Hp} {o : HO} {w2 : Wd}, (∃ o, H2 L = some o ∧ WO o) → PenAt B.p B.lc (fun b => A b ∨ b = L) H2 w2 → PenAt B.p B.lc (fun b => A b ∨ b = L) (upd H2 L o) w2 := fun {H2 o w2} ha h => h.write (.inr rfl) ha
  refine lc_it wk (fun i H2 => ∃ w2 acc avs, Kp B.p H1 H2 ∧ PenAt B.p B.lc (fun b => A b ∨ b = L) H2 w2 ∧ H2 L = some (.lst avs) ∧ RepL (B.cf X.K X.mg) (fun b => A b ∨ b = L) H2 avs acc ∧ Post (B.cf X.K X.mg) A σ H1 rF W Q (lcL vs g ft fe r (ds.drop i) w2 acc))
    ⟨w', [], [], kpL .refl, (p.keep (same_new hn)).more (fr_none hn) (.of (same_new hn)) ⟨_, p⟩, upd_same, .nil, q⟩ (fun i H2 hi ⟨w2, acc, avs, k, _⟩ => hG H2 k) ?_ ?_
  · rintro i x H2 H3 hi ⟨w2, acc, avs, k, pn, hL, hr, q2⟩ y
    obtain ⟨sm, d, hd, hrep⟩ := hY i H2 x H3 hi k y
    have hs2 : StOk X.K X.mg B (fun b => A b ∨ b = L) σ H2 r := hs.side hn k ⟨_, hL, trivial⟩
    have rv := hrep (fun b => A b ∨ b = L) (fun b z => z.elim .inl fun e => .inr (by rw [e]; exact fr_none hn)) hs2.fre
    rw [List.drop_eq_getElem_cons hi] at q2
    have ed : ds[i] = d := (List.getElem?_eq_some_iff.mp hd).2
    rw [ed] at q2
    unfold lcL at q2
    split at q2
    · exact q2.elim
    · rename_i r1 e1
      refine ⟨B, _, wipeE vs r, r1, d, (hs2.keep (.of sm)).wipe vs, rv, e1, fun σ2 hs3 ag => ⟨?_, ?_⟩⟩
      · exact (wipe_agree vs ag.2 fun j hj => ag.1 j fun z => hj (hsub j z)).trans (wipe_wipe vs σ)
      · refine ⟨B, _, r1, w2, hs3, pn.keep sm, ?_⟩
        have kH3 : Kp B.p H1 H3 := k.trans (.of sm)
        cases e2 : ft r1 w2 with
        | bad => rw [e2] at q2; exact q2.elim
        | exc n fs w3 => rw [e2] at q2; exact q2.elim
        | ok t w3 =>
          rw [e2] at q2
          cases t <;> first | exact q2.elim | skip
          rename_i b
          cases b with
          | false => exact fun H4 k4 p4 => iteF ⟨w3, acc, avs, kH3.trans k4, p4, k4.k _ _ fr.2 trivial (sm _ _ hL), (hr.keepA (H' := H4) (Kp.a ((Kp.of sm).trans k4))), q2⟩
          | true =>
            refine fun H4 k4 p4 => iteT ⟨B, _, r1, w3, hs3.keep k4, p4, ?_⟩
            simp only at q2
            cases e3 : fe r1 w3 with
            | bad => rw [e3] at q2; exact q2.elim
            | exc n fs w4 => rw [e3] at q2; exact q2.elim
            | ok y w4 =>
              rw [e3] at q2
              simp only at q2
              split at q2
              · rename_i hlt
                intro v H5 k5 p5 rv5
                have hL5 : H5 L = some (.lst avs) := k5.k _ _ fr.2 trivial (k4.k _ _ fr.2 trivial (sm _ _ hL))
                have ru : RepL (B.cf X.K X.mg) (fun b => A b ∨ b = L) H5 avs acc := hr.keepA (Kp.a (((Kp.of sm).trans k4).trans k5))
                refine ⟨avs, hL5, by rw [ru.len]; exact hlt, w4, acc ++ [y], avs ++ [v], kpL ((kH3.trans k4).trans k5), penL ⟨_, hL5, trivial⟩ p5, upd_same, (ru.snoc rv5).keepA (KpA.upd (.inr rfl)), q2⟩
              · exact q2.elim
  · rintro H2 ⟨w2, acc, avs, k, pn, hL, hr, q2⟩
    rw [List.drop_length] at q2
    exact q2 _ H2 k (pn.less fun a z => .inl (.inl z)) ⟨L, rfl, hn, avs, hL, hr⟩

theorem tlc_of {vs : List Nat} {R : RK} (hsub : ∀ j ∈ S, j ∈ vs) (hR : R = rF) {σ : L2.St} {H : Hp} {Q : VK} (h : tV X.K X.mg R W (dComp vs fi g ft fe) σ H Q) : tLc (tVI X.K X.mg false W fi) (tVG X.K X.mg S g) (tVT X.K X.mg Wno ft) (tV X.K X.mg rE Wno fe) vs σ H Q := by
  subst hR
  obtain ⟨B, A, r, w, hs, hp, q⟩ := h
  refine ⟨B, A, r, w, hs, hp, ?_⟩
  have q : Post (B.cf X.K X.mg) A σ H rF W Q ((fi r w).toR fun l w' => lcL vs g ft fe r l w' []) := q
  cases z : fi r w with
  | bad => rw [z] at q; exact q
  | exc n fs w' => rw [z] at q; exact fun cls dd H' k p e => q cls dd H' k p e
  | ok ds w' =>
    rw [z] at q
    exact fun J H1 k p wk L hn => lc_core2 hsub (hs.keep k) p k wk hn (Post.at k q)
/-- [elt for tg in iter if ..], a new list -/
theorem vf_comp {scope : Scope} {own : List (Str × Nat)} (hc : X.calm = true) (hN : X.N.Nodup) (hi : VI X false W tg iter fi) (ok : BlkOk X.N X.env.scope scope own)
    (hg : ∀ (s : Shared) (H : Hp) (C : Addr) (cl : List (Str × Addr)) (fp : List Addr), VG (X.blk s H scope (compEnvC scope cl C X.env) fp) tg S g) (ht : ∀ (s : Shared) (H : Hp) (C : Addr) (cl : List (Str × Addr)) (fp : List Addr), VTs (X.blk s H scope (compEnvC scope cl C X.env) fp) Wno ifs ft)
    (he : ∀ (s : Shared) (H : Hp) (C : Addr) (cl : List (Str × Addr)) (fp : List Addr), VE (X.blk s H scope (compEnvC scope cl C X.env) fp) rE Wno elt fe) (hsub : ∀ j ∈ S, j ∈ own.map (·.2) := by decide) (hs : ∀ x, foldedSetIterable iter X.env x = pure x := by intro _; rfl) :
    VE X rF W (.ListComp elt [⟨tg, iter, ifs, 0⟩] scope pos) (dComp (own.map (·.2)) fi g ft fe) := weak (pe_lc hc hN hi ok hg ht he hs) fun σ H Q h => tlc_of hsub rfl h
/-- y = [..] -/
theorem vs_setC {i : Nat} {y : Str} {py spos : Pos} {scope : Scope} {own : List (Str × Nat)} (caps : List Nat) (hc : X.calm = true) (hN : X.N.Nodup) (hyl : X.env.scope.names.lookup y = some .local) (hsw : swapsWith (.ListComp elt [⟨tg, iter, ifs, 0⟩] scope pos) (some (.Name y py)) spos.line X.env = pure true)
    (hi : VI X false W tg iter fi) (ok : BlkOk X.N X.env.scope scope own)
    (hg : ∀ (s : Shared) (H : Hp) (C : Addr) (cl : List (Str × Addr)) (fp : List Addr), VG (X.blk s H scope (compEnvC scope cl C X.env) fp) tg S g) (ht : ∀ (s : Shared) (H : Hp) (C : Addr) (cl : List (Str × Addr)) (fp : List Addr), VTs (X.blk s H scope (compEnvC scope cl C X.env) fp) Wno ifs ft)
    (he : ∀ (s : Shared) (H : Hp) (C : Addr) (cl : List (Str × Addr)) (fp : List Addr), VE (X.blk s H scope (compEnvC scope cl C X.env) fp) rE Wno elt fe) (hy : X.N[i]? = some y := by rfl) (hsub : ∀ j ∈ S, j ∈ own.map (·.2) := by decide) (hs : ∀ x, foldedSetIterable iter X.env x = pure x := by intro _; rfl) :
    VS X W (.Assign [.Name y py] (.ListComp elt [⟨tg, iter, ifs, 0⟩] scope pos) spos) (sSetO i caps (dComp (own.map (·.2)) fi g ft fe)) := weakS (ps_setLc hc hN hy hyl hsw hi ok hg ht he hs) fun D σ H ⟨B, A, r, w, hs, hp, q⟩ => by
  have hs1 := hs.rel (these caps)
  have hp1 : PenAt B.p B.lc (fun a => A a ∧ ¬ OwnBy (these caps) σ r a) H w := hp.less fun a z => .inl z.1
  refine tlc_of (R := rF) hsub rfl ⟨B, _, _, w, hs1, hp1, PostS.en hs1 q fun d w' v H1 k p rv q => ?_⟩
  obtain ⟨a, rfl, hn, ho⟩ := rv
  exact q _ H1 _ (hs1.setO k hn ho) (p.more hn k ⟨w, hp1⟩)
end
end DL

set_option Elab.async false
set_option linter.all false
set_option maxRecDepth 100000
set_option maxHeartbeats 2000000
namespace DL
open PySem PySem.Spec PyProof.Rows L2

/-! ### argument lists, displays -/
def RL (R : RK) (c : Cf) (A : Addr → Prop) (H' : Hp) (vs : List V) (ds : List D) : Prop := Paired (fun v d => R c A H' H' v d) vs ds
class RKs (R : RK) : Prop where
  keep : ∀ {c : Cf} {A : Addr → Prop} {H H' H0 H1 : Hp} {v d}, ¬ A c.p → Kp c.p H H' → R c A H0 H v d → R c A H1 H' v d
instance : RKs rE := ⟨fun _ k h => h.keepA k.a⟩
instance : RKs rO := ⟨fun n k h => rO.keep n k h⟩
theorem RL.e {c : Cf} {A : Addr → Prop} {H : Hp} : ∀ {vs : List V} {ds : List D}, RL rE c A H vs ds → RepL c A H vs ds
  | _, _, .nil => .nil
  | _, _, .cons h r => .cons h (RL.e r)
theorem RL.of {c : Cf} {A : Addr → Prop} {H : Hp} : ∀ {vs : List V} {ds : List D}, RepL c A H vs ds → RL rE c A H vs ds
  | _, _, .nil => .nil
  | _, _, .cons h r => .cons h (RL.of r)
def PostA (R : RK) (c : Cf) (A : Addr → Prop) (σ : L2.St) (H : Hp) (W : WX) (Q : List V → Hp → Prop) : ResI → Prop
  | .ok ds w => ∀ vs H', Kp c.p H H' → PenAt c.p c.lc A H' w → RL R c A H' vs ds → Q vs H'
  | .exc n fs w => ∀ cls dd H', Kp c.p H H' → PenAt c.p c.lc A H' w → ErrR c A n fs cls dd H' → W cls dd σ H'
  | .bad => False
theorem PostA.at {R : RK} {c : Cf} {A : Addr → Prop} {σ : L2.St} {H H1 : Hp} {W : WX} {Q : List V → Hp → Prop} {x : ResI} (k : Kp c.p H H1) (h : PostA R c A σ H W Q x) : PostA R c A σ H1 W Q x := by
  cases x with
  | ok d w => exact fun v H' k' p r => h v H' (k.trans k') p r
  | exc n fs w => exact fun cls dd H' k' p r => h cls dd H' (k.trans k') p r
  | bad => exact h
def tVA (K : PySem.W.Frag) (mg : Str → Option Value) (R : RK) (W : WX) (f : IM) : TA := fun σ H Q =>
  ∃ (B : Bs) (A : Addr → Prop) (r : Env) (w : Wd), StOk K mg B A σ H r ∧ PenAt B.p B.lc A H w ∧ PostA R (B.cf K mg) A σ H W Q (f r w)
abbrev VA (X : Cx) (R : RK) (W : WX) (es : List Expr) (f : IM) : Prop := PA X es (tVA X.K X.mg R W f)
theorem weakA {X : Cx} {es : List Expr} {t t' : TA} (h : PA X es t) (k : ∀ σ H Q, t' σ H Q → t σ H Q) : PA X es t' := ⟨fun pos pins s σ H Q I q => h.run pos pins s σ H Q I (k σ H Q q)⟩
def aNil : IM := fun _ w => .ok [] w
def ResI.mapA (x : ResI) (k : List D → List D) : ResI := match x with
  | .ok l w => .ok (k l) w
  | .exc n fs w => .exc n fs w
  | .bad => .bad
def aCons (fe : EM) (fa : IM) : IM := fun r w => match fe r w with
  | .ok d w1 => (fa r w1).mapA (d :: ·)
  | .exc n fs w1 => .exc n fs w1
  | .bad => .bad
section
variable {X : Cx} {W : WX} {R : RK} {e a b : Expr} {es : List Expr} {fe : EM} {fa : IM} {pos : Pos}
theorem va_nil : VA X R W [] aNil := weakA pa_nil fun σ H Q ⟨B, A, r, w, hs, hp, q⟩ => q [] H .refl hp .nil
theorem va_cons [RKs R] (he : VE X R W e fe) (ha : VA X R W es fa) (hs : starEach (e :: es) X.env = (false, eval e X.env) :: starEach es X.env := by rfl) : VA X R W (e :: es) (aCons fe fa) := weakA (pa_cons he ha hs) fun σ H Q ⟨B, A, r, w, hs, hp, q⟩ => by
  refine ⟨B, A, r, w, hs, hp, ?_⟩
  unfold aCons at q
  cases z : fe r w with
  | bad => rw [z] at q; exact q
  | exc n fs w1 => rw [z] at q; exact q
  | ok d w1 =>
    rw [z] at q
    intro v H1 k1 p1 r1
    refine ⟨B, A, r, w1, hs.keep k1, p1, ?_⟩
    have q : PostA R (B.cf X.K X.mg) A σ H W Q ((fa r w1).mapA (d :: ·)) := q
    cases z2 : fa r w1 with
    | bad => rw [z2] at q; exact q
    | exc n fs w2 => rw [z2] at q; exact fun cls dd H' k p e => q cls dd H' (k1.trans k) p e
    | ok ds w2 => rw [z2] at q; exact fun vs H2 k2 p2 r2 => q _ H2 (k1.trans k2) p2 (.cons (RKs.keep hs.np k2 r1) r2)
def dTup (fa : IM) : EM := fun r w => (fa r w).toR fun l w' => if l.length ≤ sizeLine then .ok (.tup l) w' else .bad
def dLst (fa : IM) : EM := fun r w => (fa r w).toR fun l w' => if l.length ≤ sizeLine then .ok (.lst l) w' else .bad
theorem ve_tup {k : Nat} (ha : VA X rE W es fa) : VE X rE W (.Tuple es k pos) (dTup fa) := weak (pe_tup ha) fun σ H Q ⟨B, A, r, w, hs, hp, q⟩ => by
  refine ⟨B, A, r, w, hs, hp, ?_⟩
  have q : Post (B.cf X.K X.mg) A σ H rE W Q ((fa r w).toR fun l w' => if l.length ≤ sizeLine then .ok (.tup l) w' else .bad) := q
  cases z : fa r w with
  | bad => rw [z] at q; exact q
  | exc n fs w1 => rw [z] at q; exact q
  | ok ds w1 =>
    rw [z] at q
    unfold ResI.toR at q
    simp only at q
    split at q
    · rename_i hl
      intro vs H1 k1 p1 r1
      have r2 := r1.e
      refine ⟨by rw [r2.len]; exact hl, fun t ht => ?_⟩
      have hf := (hs.keep k1).fresh ht
      exact q _ _ (k1.trans (.of (same_new ht))) (p1.keep (same_new ht)) (.tup upd_same hf.1 hf.2 (r2.keepA (Kp.a (.of (same_new ht)))))
    · exact q.elim
theorem vf_lst (ha : VA X rE W es fa) : VE X rF W (.List es pos) (dLst fa) := weak (pe_lst ha) fun σ H Q ⟨B, A, r, w, hs, hp, q⟩ => by
  refine ⟨B, A, r, w, hs, hp, ?_⟩
  have q : Post (B.cf X.K X.mg) A σ H rF W Q ((fa r w).toR fun l w' => if l.length ≤ sizeLine then .ok (.lst l) w' else .bad) := q
  cases z : fa r w with
  | bad => rw [z] at q; exact q
  | exc n fs w1 => rw [z] at q; exact q
  | ok ds w1 =>
    rw [z] at q
    unfold ResI.toR at q
    simp only at q
    split at q
    · rename_i hl
      intro vs H1 k1 p1 r1
      have r2 := r1.e
      refine ⟨by rw [r2.len]; exact hl, fun t ht => ?_⟩
      exact q _ _ (k1.trans (.of (same_new ht))) (p1.keep (same_new ht)) ⟨t, rfl, k1.free ht, vs, upd_same, (r2.to fun b z => z.elim .inl fun e => .inr (by rw [e]; exact fr_none ht)).keepA (Kp.a (.of (same_new ht)))⟩
    · exact q.elim

/-! ### defs -/
theorem codeIn_ref' {K : PySem.W.Frag} {cd : Value} {q : Str} (h : PySem.W.codeIn K cd q = true) : ∃ c, cd = .ref c := by
  cases cd <;> first | exact ⟨_, rfl⟩ | cases h
theorem lookup_mem' {a : Addr} {o : Obj} : ∀ {l : List (Addr × Obj)}, l.lookup a = some o → (a, o) ∈ l
  | [], h => by cases h
  | (b, u) :: r, h => by
    rw [List.lookup_cons] at h
    by_cases q : (a == b) = true
    · rw [q] at h; cases h
      rw [eq_of_beq q]; exact List.mem_cons_self
    · have q : (a == b) = false := by simpa using q
      rw [q] at h
      exact List.mem_cons_of_mem _ (lookup_mem' h)
/-- the code object of the def at hand -/
def InTF (K : PySem.W.Frag) (cdv : Value) (q : Str) : Prop := ∃ c, cdv = .ref c ∧ (c, tabK K c, q) ∈ TF K
theorem inTF {K : PySem.W.Frag} {f : Addr} {oc : Value} {od : Option Addr} {osl : Array (Option Value)} {fd : FuncData} {q : Str} (lk : K.lookup f = some ⟨oc, od, .func fd, osl⟩) (hc : PySem.W.codeIn K fd.code q = true) : InTF K fd.code fd.qualname := by
  obtain ⟨c, e⟩ := codeIn_ref' hc
  refine ⟨c, e, List.mem_filterMap.mpr ⟨_, lookup_mem' lk, ?_⟩⟩
  show (match fd.code with
    | .ref c => some (c, tabK K c, fd.qualname)
    | _ => none) = _
  rw [e]
/-- the promise of a def that comes to F -/
def spV (K : PySem.W.Frag) (mg : Str → Option Value) (n : Nat) (F : List D → Wd → Res) : Sp := fun vs H Q E => ∃ (p : Addr) (lc : Lx) (A : Addr → Prop) (w : Wd) (ds : List D),
  (∀ a, A a → ∃ o, H a = some o ∧ WO o) ∧ (PenAt p lc A H w ∧ LcOk K mg p lc H) ∧ RepL ⟨K, mg, p, lc⟩ A H vs ds ∧ ds.length = n ∧ Post ⟨K, mg, p, lc⟩ A [] H rE (fun cls d _ H => E cls d H) Q (F ds w)
def startE (n : Nat) (ds : List D) : Env := ds.map (fun d => some (d, false)) ++ List.replicate (n - ds.length) none
def SR.res : SR → Res
  | .rt d w => .ok d w
  | .nx _ w => .ok .non w
  | .exc n fs _ w => .exc n fs w
  | _ => .bad
def runD (n : Nat) (f : SM) : List D → Wd → Res := fun ds w => (f (startE n ds) w).res
theorem start_ok {K : PySem.W.Frag} {mg : Str → Option Value} {p : Addr} {lc : Lx} {A : Addr → Prop} {H : Hp} {w : Wd} {vs : List V} {ds : List D} {N : List Str} (tr : ∀ a, A a → ∃ o, H a = some o ∧ WO o) (pn : PenAt p lc A H w) (tq : LcOk K mg p lc H) (r : RepL ⟨K, mg, p, lc⟩ A H vs ds) : StOk K mg ⟨p, lc, A, H⟩ A (L2.start N vs) H (startE N.length ds) := by
  have hl := r.len
  obtain ⟨o, l, h1, h2, h3, h4, h5⟩ := pn
  have no : ∀ {i : Nat} {d : D} {b : Bool}, (startE N.length ds)[i]? = some (some (d, b)) → b = false ∧ ds[i]? = some d := fun {i d b} e => by
    unfold startE at e
    rw [List.getElem?_append] at e
    split at e
    · rw [List.getElem?_map] at e
      cases z : ds[i]? with
      | none => rw [z] at e; cases e
      | some d' => rw [z] at e; simp at e; exact ⟨e.2, by rw [e.1]⟩
    · have := List.mem_of_getElem? e
      rw [List.mem_replicate] at this
      cases this.2
  refine ⟨.refl, ⟨_, h1, trivial⟩, tr, fun a q => q, fun a q => let ⟨o, e, w⟩ := tr a q; ⟨o, e, w.nt⟩, fun a q => .inl q, h4, fun i d e => ?_, fun i d e => ?_, fun i j d d2 a e => ?_, ?_, ⟨tq, ⟨_, h2, trivial⟩, h3⟩⟩
  · obtain ⟨_, e⟩ := no e
    have hi : i < ds.length := (List.getElem?_eq_some_iff.mp e).1
    obtain ⟨v, hv⟩ : ∃ v, vs[i]? = some v := ⟨vs[i]'(by omega), List.getElem?_eq_getElem (by omega)⟩
    obtain ⟨d', h6, h7⟩ := r.at hv
    rw [e] at h6; cases h6
    refine ⟨v, ?_, h7⟩
    unfold L2.start
    rw [List.getElem?_append_left (by simpa using by omega), List.getElem?_map, hv]; rfl
  · exact absurd (no e).1 (by decide)
  · exact absurd (no e).1 (by decide)
  · unfold L2.start startE
    simp [hl]
/-- a def: its body comes to f -/
theorem fun_v {P : Program} {w : World} {K : PySem.W.Frag} {mg : Str → Option Value} {base : Heap} {x qual : Str} {st : Stmt} {f : Addr} {fd : FuncData} {N ps : List Str} {k : Nat} {g : SM} (F : Fun K x qual st f fd) (S : FnScope N ps (defScope st))
    (hb : ∀ (cdv : Value) (A : Around) (outer : List PySem.Env) (s : Shared) (H : Hp) (E : XK), InTF K cdv qual → Room k (A.deeper (envOfC qual (defScope st) s.heap.objs.size f cdv)) →
      VSs (cxOf (L2.CX P w) P w K mg base N qual (defScope st) f cdv A outer s H E) (fun cls d _ H => E cls d H) (defBody st) g) : FnOk P w K mg base (L2.CX P w) (k + 1) f fd ps (spV K mg ps.length (runD N.length g)) := by
  obtain ⟨oc, od, kV, doc, pm, an, cdv, ct, osl, rfl, lk, hcd⟩ := F.ex
  refine fn_of lk hcd S (fun vs H Q E h => ?_) (fun A outer s H vs Q E hr h => ⟨_, hb cdv A outer s H E (show InTF K cdv qual from inTF lk hcd) hr, ?_⟩)
  · obtain ⟨p, lc, A, w, ds, _, _, r, e, _⟩ := h
    rw [r.len, e]
  · obtain ⟨p, lc, A, w, ds, tr, ⟨pn, tq⟩, r, e, q⟩ := h
    refine ⟨⟨p, lc, A, H⟩, A, _, w, start_ok tr pn tq r, pn, ?_⟩
    unfold runD at q
    cases z : g (startE N.length ds) w with
    | rt d w' => rw [z] at q; exact fun v H' k p r => q v H' k p r
    | nx r' w' => rw [z] at q; exact fun σ' H' A' hs hp => q .non H' hs.kp (hp.less fun a z => .inl (hs.a0 a z)) .non
    | exc n fs r' w' => rw [z] at q; exact fun cls dd σ' H' A' hs hp er => q cls dd H' hs.kp (hp.less fun a z => .inl (hs.a0 a z)) (by
        obtain ⟨C, e1, e2, e3⟩ := er
        refine ⟨C, e1, e2, ?_⟩
        cases dd with
        | none => exact e3
        | some x =>
          obtain ⟨fvs, f1, f2, f3, f4, f5⟩ := e3
          exact ⟨fvs, f1, f2, fun z => f3 (hs.a0 _ z), f4, f5.to fun a z => .inl (hs.a0 a z)⟩)
    | bk r' w' => rw [z] at q; exact q.elim
    | ct r' w' => rw [z] at q; exact q.elim
    | bad => rw [z] at q; exact q.elim
def dCall (F : List D → Wd → Res) (fa : IM) : EM := fun r w => (fa r w).toR F
theorem call_of {F : List D → Wd → Res} {n : Nat} {B : Bs} {A : Addr → Prop} {σ : L2.St} {H : Hp} {r : Env} {w : Wd} {vs : List V} {ds : List D} {Q : VK} (hs : StOk X.K X.mg B A σ H r) (hp : PenAt B.p B.lc A H w) (ra : RepL (B.cf X.K X.mg) A H vs ds) (hn : ds.length = n)
    (q : Post (B.cf X.K X.mg) A σ H rE W Q (F ds w)) : spV X.K X.mg n F vs H Q (fun cls d H' => W cls d σ H') := by
  refine ⟨B.p, B.lc, A, w, ds, hs.tr, ⟨hp, hs.lco⟩, ra, hn, ?_⟩
  cases z : F ds w with
  | ok d w' => rw [z] at q; exact q
  | exc m fs w' => rw [z] at q; exact q
  | bad => rw [z] at q; exact q
theorem passesAt {σ : L2.St} (tk : Takes X W) : PassesAt (L2.CX X.prog X.w) X σ (fun cls d H' => W cls d σ H') := passAt tk σ
/-- f(..) -/
theorem ve_call {F : List D → Wd → Res} {n k : Nat} {f : Addr} {fd : FuncData} {ps : List Str} {x : Str} {p : Pos} (tk : Takes X W) (G : FnOk X.prog X.w X.K X.mg X.base (L2.CX X.prog X.w) k f fd ps (spV X.K X.mg n F)) (hr : Room k X.A) (hm : X.mg x = some (.ref f)) (hk : PySem.W.keepIn X.K (.ref f) = true) (hb : Binds X.K fd ps [])
    (ha : VA X rE W (e :: es) fa) (hl : ∀ r w l w', fa r w = .ok l w' → l.length = n) (hg : Gl X x := by rfl) (hdb : (x == ("__debug__" : Str)) = false := by decide) (he : starEach (e :: es) X.env = (false, eval e X.env) :: starEach es X.env := by rfl) (hpl : (backTo pos (starEach es X.env)).any (·.1) = false := by rfl) :
    VE X rE W (.Call (.Name x p) (e :: es) [] pos) (dCall F fa) := weak (pe_callSD G hr hg hm hk hb .nil (fun σ => passesAt tk) ha hdb he hpl) fun σ H Q ⟨B, A, r, w, hs, hp, q⟩ => by
  refine ⟨B, A, r, w, hs, hp, ?_⟩
  have q : Post (B.cf X.K X.mg) A σ H rE W Q ((fa r w).toR F) := q
  cases z : fa r w with
  | bad => rw [z] at q; exact q
  | exc m fs w1 => rw [z] at q; exact q
  | ok ds w1 =>
    rw [z] at q
    intro vs H1 k1 p1 r1
    have := call_of (hs.keep k1) p1 r1.e (hl r w ds w1 z) (Post.at k1 q)
    simpa using this
end
end DL

set_option Elab.async false
set_option linter.all false
set_option maxRecDepth 100000
set_option maxHeartbeats 2000000
namespace DL
open PySem PySem.SeqAt PySem.Spec PyProof.Rows L2

/-! ### plain data: None, truth values, numbers, texts, lists and tuples of such -/
mutual
def D.py : D → PyData
  | .bl b => .bool b
  | .int i => .int i
  | .str s => .str s
  | .tup l => .tuple (D.pys l)
  | .kup l => .tuple (D.pys l)
  | .lst l => .list (D.pys l)
  | _ => .none
def D.pys : List D → List PyData
  | [] => []
  | d :: l => d.py :: D.pys l
end
mutual
def D.pl : D → Bool
  | .non => true
  | .bl _ => true
  | .int _ => true
  | .str _ => true
  | .tup l => D.pls l
  | .kup l => D.pls l
  | .lst l => D.pls l
  | _ => false
def D.pls : List D → Bool
  | [] => true
  | d :: l => d.pl && D.pls l
end
mutual
theorem py_plain : ∀ d : D, d.pl = true → d.py.plain = true
  | .non, _ => rfl
  | .bl _, _ => rfl
  | .int _, _ => rfl
  | .str _, _ => rfl
  | .tup l, h => pys_plain l h
  | .kup l, h => pys_plain l h
  | .lst l, h => pys_plain l h
  | .dic _, h => by cases h
  | .dit _, h => by cases h
  | .obj _ _, h => by cases h
  | .pen, h => by cases h
  | .clo _ _ _ _ _, h => by cases h
  | .err _ _, h => by cases h
  | .brw _, h => by cases h
theorem pys_plain : ∀ l : List D, D.pls l = true → PyData.plainAll (D.pys l) = true
  | [], _ => rfl
  | d :: l, h => by
    have h' : d.pl = true ∧ D.pls l = true := by simpa [D.pls] using h
    simp [D.pys, PyData.plainAll, py_plain d h'.1, pys_plain l h'.2]
end
mutual
theorem Rep.dp {c : Cf} {A : Addr → Prop} {H : Hp} : ∀ {v : V} {d : D}, Rep c A H v d → d.pl = true → Dp c.K H v d.py
  | _, _, .non, _ => .non
  | _, _, .bl b, _ => .bl b
  | _, _, .int i, _ => .int i
  | _, _, .str x, _ => .str x
  | _, _, .tup h n m r, p => .tup (.inl (.inl h)) (RepL.dp r p)
  | _, _, .tupK h r, p => .tup (by
      rcases h with (h | ⟨_, h⟩) | h
      · cases h
      · cases h
      · exact .inr h) (RepL.dp r p)
  | _, _, .lst h n m r, p => .lst (SqL.of h) (RepL.dp r p)
  | _, _, .dic h n m e r, p => by cases p
  | _, _, .dit h n m e r, p => by cases p
  | _, _, .obj g h n m e r, p => by cases p
  | _, _, .pen, p => by cases p
theorem RepL.dp {c : Cf} {A : Addr → Prop} {H : Hp} : ∀ {vs : List V} {ds : List D}, RepL c A H vs ds → D.pls ds = true → DpAll c.K H vs (D.pys ds)
  | _, _, .nil, _ => .nil
  | _, _, .cons (d := d) (ds := ds) h r, p => by
    have p' : d.pl = true ∧ D.pls ds = true := by simpa [D.pls] using p
    exact .cons (Rep.dp h p'.1) (RepL.dp r p'.2)
end
theorem rO.dp {c : Cf} {A : Addr → Prop} {H H0 : Hp} {v : V} {d : D} (h : rO c A H0 H v d) (p : d.pl = true) : Dp c.K H v d.py := by
  rcases h with h | ⟨a, rfl, hA, h⟩
  · exact h.dp p
  · cases d <;> first | exact h.elim | cases p | skip
    obtain ⟨vs, h1, h2⟩ := h
    exact .lst (.inl (.inl h1)) (h2.dp p)
def eqOk (a b : D) : Bool := a.pl && b.pl && decide (min a.py.depth b.py.depth ≤ 64)
def eqD (a b : D) : Option D := if eqOk a b = true then some (.bl (PyData.eqv a.py b.py)) else none
def neD (a b : D) : Option D := if eqOk a b = true then some (.bl (!PyData.eqv a.py b.py)) else none
theorem eqOk_of {a b : D} (h : eqOk a b = true) : a.pl = true ∧ b.pl = true ∧ min a.py.depth b.py.depth ≤ 64 := by
  unfold eqOk at h
  simpa [and_assoc] using h
section
variable {X : Cx}
theorem od_eq (hu : X.A.units + 64 < cLine) : OpD X rE (compareOp .Eq) eqD := fun pins s σ H x y v u Q I rx ry ⟨B, A, dx, dy, d, fr, h1, h2, e, q⟩ => by
  unfold eqD at e
  split at e
  · rename_i hk
    cases e
    obtain ⟨p1, p2, p3⟩ := eqOk_of hk
    obtain ⟨as, r1⟩ := Dp.reads I _ _ _ (h1.dp p1) rx
    obtain ⟨bs, r2⟩ := Dp.reads I _ _ _ (h2.dp p2) ry
    exact eq_plain r1 r2 (py_plain _ p1) (py_plain _ p2) (by omega) ⟨.bl _, H, I, rfl, q _ H (Same.refl H) (.bl _)⟩
  · cases e
theorem od_ne (hu : X.A.units + 64 < cLine) : OpD X rE (compareOp .NotEq) neD := fun pins s σ H x y v u Q I rx ry ⟨B, A, dx, dy, d, fr, h1, h2, e, q⟩ => by
  unfold neD at e
  split at e
  · rename_i hk
    cases e
    obtain ⟨p1, p2, p3⟩ := eqOk_of hk
    obtain ⟨as, r1⟩ := Dp.reads I _ _ _ (h1.dp p1) rx
    obtain ⟨bs, r2⟩ := Dp.reads I _ _ _ (h2.dp p2) ry
    exact ne_plain r1 r2 (py_plain _ p1) (py_plain _ p2) (by omega) ⟨.bl _, H, I, rfl, q _ H (Same.refl H) (.bl _)⟩
  · cases e
/-! in, not in: a list, a tuple; a text in a text -/
def inOk (a : D) (l : List D) : Bool := a.pl && D.pls l && decide (min (PyData.depthAll (D.pys l)) a.py.depth ≤ 60)
def inB (a : D) (l : List D) : Bool := (D.pys l).any fun y => PyData.eqv y a.py
def strIn (x y : Str) : Bool := !(Builtin.Str.occurrences y x 0 y.length 1).isEmpty
def inD (a b : D) : Option D := match a, b with
  | a, .lst l => if inOk a l = true then some (.bl (inB a l)) else none
  | a, .tup l => if inOk a l = true then some (.bl (inB a l)) else none
  | a, .kup l => if inOk a l = true then some (.bl (inB a l)) else none
  | .str x, .str y => some (.bl (strIn x y))
  | _, _ => none
def notInD (a b : D) : Option D := match a, b with
  | a, .lst l => if inOk a l = true then some (.bl (!inB a l)) else none
  | a, .tup l => if inOk a l = true then some (.bl (!inB a l)) else none
  | a, .kup l => if inOk a l = true then some (.bl (!inB a l)) else none
  | .str x, .str y => some (.bl (!strIn x y))
  | _, _ => none
theorem inOk_of {a : D} {l : List D} (h : inOk a l = true) : a.pl = true ∧ D.pls l = true ∧ min (PyData.depthAll (D.pys l)) a.py.depth ≤ 60 := by
  unfold inOk at h
  simpa [and_assoc] using h
theorem od_in (hu : X.A.units + 64 < cLine) : OpD X rE (compareOp .In) inD := fun pins s σ H x y v u Q I rx ry ⟨B, A, dx, dy, d, fr, h1, h2, e, q⟩ => by
  unfold inD at e
  split at e
  · split at e
    · rename_i hk
      cases e
      obtain ⟨p1, p2, p3⟩ := inOk_of hk
      obtain ⟨as, r1⟩ := Dp.reads I _ _ _ (h1.dp p1) rx
      obtain ⟨bs, r2⟩ := Dp.reads I _ _ _ (h2.dp (d := .lst _) p2) ry
      exact in_list_data (xs := D.pys _) r2 r1 (pys_plain _ p2) (py_plain _ p1) (by omega) ⟨.bl _, H, I, rfl, q _ H (Same.refl H) (.bl _)⟩
    · cases e
  · split at e
    · rename_i hk
      cases e
      obtain ⟨p1, p2, p3⟩ := inOk_of hk
      obtain ⟨as, r1⟩ := Dp.reads I _ _ _ (h1.dp p1) rx
      obtain ⟨bs, r2⟩ := Dp.reads I _ _ _ (h2.dp (d := .tup _) p2) ry
      exact in_tuple_data (xs := D.pys _) r2 r1 (pys_plain _ p2) (py_plain _ p1) (by omega) ⟨.bl _, H, I, rfl, q _ H (Same.refl H) (.bl _)⟩
    · cases e
  · split at e
    · rename_i hk
      cases e
      obtain ⟨p1, p2, p3⟩ := inOk_of hk
      obtain ⟨as, r1⟩ := Dp.reads I _ _ _ (h1.dp p1) rx
      obtain ⟨bs, r2⟩ := Dp.reads I _ _ _ (h2.dp (d := .kup _) p2) ry
      exact in_tuple_data (xs := D.pys _) r2 r1 (pys_plain _ p2) (py_plain _ p1) (by omega) ⟨.bl _, H, I, rfl, q _ H (Same.refl H) (.bl _)⟩
    · cases e
  · cases e
    exact op_in_str pins s σ H x y v u Q I rx ry ⟨_, _, h1.str, h2.str, q _ H (Same.refl H) (.bl _)⟩
  · cases e
theorem od_notIn (hu : X.A.units + 64 < cLine) : OpD X rE (compareOp .NotIn) notInD := fun pins s σ H x y v u Q I rx ry ⟨B, A, dx, dy, d, fr, h1, h2, e, q⟩ => by
  unfold notInD at e
  split at e
  · split at e
    · rename_i hk
      cases e
      obtain ⟨p1, p2, p3⟩ := inOk_of hk
      obtain ⟨as, r1⟩ := Dp.reads I _ _ _ (h1.dp p1) rx
      obtain ⟨bs, r2⟩ := Dp.reads I _ _ _ (h2.dp (d := .lst _) p2) ry
      exact notIn_list_data (xs := D.pys _) r2 r1 (pys_plain _ p2) (py_plain _ p1) (by omega) ⟨.bl _, H, I, rfl, q _ H (Same.refl H) (.bl _)⟩
    · cases e
  · split at e
    · rename_i hk
      cases e
      obtain ⟨p1, p2, p3⟩ := inOk_of hk
      obtain ⟨as, r1⟩ := Dp.reads I _ _ _ (h1.dp p1) rx
      obtain ⟨bs, r2⟩ := Dp.reads I _ _ _ (h2.dp (d := .tup _) p2) ry
      exact notIn_tuple_data (xs := D.pys _) r2 r1 (pys_plain _ p2) (py_plain _ p1) (by omega) ⟨.bl _, H, I, rfl, q _ H (Same.refl H) (.bl _)⟩
    · cases e
  · split at e
    · rename_i hk
      cases e
      obtain ⟨p1, p2, p3⟩ := inOk_of hk
      obtain ⟨as, r1⟩ := Dp.reads I _ _ _ (h1.dp p1) rx
      obtain ⟨bs, r2⟩ := Dp.reads I _ _ _ (h2.dp (d := .kup _) p2) ry
      exact notIn_tuple_data (xs := D.pys _) r2 r1 (pys_plain _ p2) (py_plain _ p1) (by omega) ⟨.bl _, H, I, rfl, q _ H (Same.refl H) (.bl _)⟩
    · cases e
  · cases e
    exact op_notin_str pins s σ H x y v u Q I rx ry ⟨_, _, h1.str, h2.str, q _ H (Same.refl H) (.bl _)⟩
  · cases e
/-! is None -/
def D.isN : D → Bool
  | .non => true
  | _ => false
def isNoneD (a b : D) : Option D := match b with
  | .non => some (.bl a.isN)
  | _ => none
def notNoneD (a b : D) : Option D := match b with
  | .non => some (.bl !a.isN)
  | _ => none
theorem rO.none_iff {c : Cf} {A : Addr → Prop} {H H0 : Hp} {v : V} {d : D} (h : rO c A H0 H v d) : decide (v = .non) = d.isN := by
  rcases h with h | ⟨a, rfl, hA, h⟩
  · cases h <;> first | rfl | (rename_i n; exact decide_eq_false n)
  · cases d <;> first | exact h.elim | rfl
theorem od_isN : OpD X rE (compareOp .Is) isNoneD := fun pins s σ H x y v u Q I rx ry ⟨B, A, dx, dy, d, fr, h1, h2, e, q⟩ => by
  unfold isNoneD at e
  split at e
  · cases e
    exact op_isN pins s σ H x y v u Q I rx ry ⟨h2.non, by rw [h1.none_iff]; exact q _ H (Same.refl H) (.bl _)⟩
  · cases e
theorem od_notN : OpD X rE (compareOp .IsNot) notNoneD := fun pins s σ H x y v u Q I rx ry ⟨B, A, dx, dy, d, fr, h1, h2, e, q⟩ => by
  unfold notNoneD at e
  split at e
  · cases e
    exact op_notN pins s σ H x y v u Q I rx ry ⟨h2.non, by rw [h1.none_iff]; exact q _ H (Same.refl H) (.bl _)⟩
  · cases e
end

/-! ### built-ins -/
def rcD (K : PySem.W.Frag) (mg : Str → Option Value) (R : RK) (g : List D → Option D) : List V → Hp → VK → Prop := fun vs H Q => ∃ (B : Bs) (A : Addr → Prop) (ds : List D) (d : D), Fre (B.cf K mg) A H ∧ RL rO (B.cf K mg) A H vs ds ∧ g ds = some d ∧ ∀ v H', Same H H' → R (B.cf K mg) A H H' v d → Q v H'
abbrev CallD (X : Cx) (R : RK) (f : Value) (g : List D → Option D) : Prop := CallR X f (rcD X.K X.mg R g)
def dB (g : List D → Option D) (fa : IM) : EM := fun r w => (fa r w).toR fun l w' => Res.of (g l) w'
section
variable {X : Cx} {W : WX} {R : RK} {e : Expr} {es : List Expr} {fa : IM} {pos p : Pos} {x : Str} {id T : String} {g : List D → Option D}
theorem cb_of [RKm R] {σ : L2.St} {H : Hp} {Q : VK} (h : tV X.K X.mg R W (dB g fa) σ H Q) : tCB (rcD X.K X.mg R g) (tVA X.K X.mg rO W fa) σ H Q := by
  obtain ⟨B, A, r, w, hs, hp, q⟩ := h
  refine ⟨B, A, r, w, hs, hp, ?_⟩
  have q : Post (B.cf X.K X.mg) A σ H R W Q ((fa r w).toR fun l w' => Res.of (g l) w') := q
  cases z : fa r w with
  | bad => rw [z] at q; exact q
  | exc m fs w1 => rw [z] at q; exact q
  | ok ds w1 =>
    rw [z] at q
    unfold ResI.toR Res.of at q
    simp only at q
    split at q
    · rename_i d e
      exact fun vs H1 k1 p1 r1 => ⟨B, A, ds, d, (hs.keep k1).fre, r1, e, fun v' H' sm rr => q v' H' (k1.trans (.of sm)) (p1.keep sm) (RKm.back k1 rr)⟩
    · exact q.elim
theorem ve_callB [RKm R] (hc : CallD X R (.builtin id) g) (hm : X.mg x = none) (hv : bootBuiltins x = some (.builtin id)) (ha : VA X rO W (e :: es) fa) (hg : Gl X x := by rfl) (hn : x ≠ "__name__" := by decide) (hd : (x == ("__debug__" : Str)) = false := by decide)
    (he : starEach (e :: es) X.env = (false, eval e X.env) :: starEach es X.env := by rfl) (hpl : (backTo pos (starEach es X.env)).any (·.1) = false := by rfl) : VE X R W (.Call (.Name x p) (e :: es) [] pos) (dB g fa) :=
  weak (pe_callB hc hg hm hv ha hn hd he hpl) fun σ H Q h => cb_of h
theorem ve_callTy [RKm R] (hc : CallD X R (.type T) g) (hm : X.mg x = none) (hv : bootBuiltins x = some (.type T)) (ha : VA X rO W (e :: es) fa) (hg : Gl X x := by rfl) (hn : x ≠ "__name__" := by decide) (hd : (x == ("__debug__" : Str)) = false := by decide)
    (he : starEach (e :: es) X.env = (false, eval e X.env) :: starEach es X.env := by rfl) (hpl : (backTo pos (starEach es X.env)).any (·.1) = false := by rfl) : VE X R W (.Call (.Name x p) (e :: es) [] pos) (dB g fa) :=
  weak (pe_callTy hc hg hm hv ha hn hd he hpl) fun σ H Q h => cb_of h
end
end DL

set_option Elab.async false
set_option linter.all false
set_option maxRecDepth 100000
set_option maxHeartbeats 2000000
namespace DL
open PySem PySem.SeqAt PySem.Spec PyProof.Rows L2

/-! ### built-ins over data -/
/-- a list's or a tuple's items -/
def seqD : D → Option (List D) := itemsD
theorem rO.seq {c : Cf} {A : Addr → Prop} {H H0 : Hp} {v : V} {d : D} {l : List D} (h : rO c A H0 H v d) (e : itemsD d = some l) : ∃ a vs, v = .ref a ∧ (SqL c.K H a vs ∨ SqT c.K H a vs) ∧ RepL c A H vs l := by
  cases d <;> first | cases e | skip
  · obtain ⟨a, vs, e, h1, h2⟩ := h.tupq (.inl rfl); exact ⟨a, vs, e, .inr h1, h2⟩
  · obtain ⟨a, vs, e, h1, h2⟩ := h.tupq (.inr rfl); exact ⟨a, vs, e, .inr h1, h2⟩
  · obtain ⟨a, vs, e, h1, h2⟩ := h.lst; exact ⟨a, vs, e, .inl (SqL.of h1), h2⟩
def lenD : List D → Option D
  | [.lst l] => some (.int l.length)
  | [.tup l] => some (.int l.length)
  | [.kup l] => some (.int l.length)
  | [.str s] => if s.length ≤ sizeLine then some (.int s.length) else none
  | [.dic l] => some (.int l.length)
  | _ => none
def absD : List D → Option D
  | [.int i] => some (.int (if i < 0 then -i else i))
  | _ => none
def intD : List D → Option D
  | [.int i] => some (.int i)
  | [.bl k] => some (.int (if k then 1 else 0))
  | _ => none
def max2D : List D → Option D
  | [.int i, .int j] => some (.int (if j > i then j else i))
  | _ => none
def min2D : List D → Option D
  | [.int i, .int j] => some (.int (if j < i then j else i))
  | _ => none
def tupleD : List D → Option D
  | [.lst l] => some (.tup l)
  | [.tup l] => some (.tup l)
  | [.kup l] => some (.kup l)
  | _ => none
def listD : List D → Option D
  | [.lst l] => some (.lst l)
  | [.tup l] => some (.lst l)
  | [.kup l] => some (.lst l)
  | _ => none
def D.int? : D → Option Int
  | .int i => some i
  | _ => none
def D.bl? : D → Option Bool
  | .bl i => some i
  | _ => none
/-- all of one kind -/
def allOf {α : Type} (f : D → Option α) : List D → Option (List α)
  | [] => some []
  | d :: l => match f d, allOf f l with
    | some a, some r => some (a :: r)
    | _, _ => none
def sumD : List D → Option D
  | [.lst l] => (allOf D.int? l).map fun ns => .int ns.sum
  | _ => none
def anyD : List D → Option D
  | [.lst l] => (allOf D.bl? l).map fun bs => .bl (bs.any id)
  | _ => none
def allD : List D → Option D
  | [.lst l] => (allOf D.bl? l).map fun bs => .bl (bs.all id)
  | _ => none
theorem ints_of {c : Cf} {A : Addr → Prop} {H : Hp} : ∀ {vs : List V} {ds : List D} {ns : List Int}, RepL c A H vs ds → allOf D.int? ds = some ns → vs = ns.map V.int
  | _, _, ns, .nil, e => by cases e; rfl
  | _, _, ns, .cons (d := d) (ds := ds) h r, e => by
    unfold allOf at e
    cases e1 : D.int? d with
    | none => rw [e1] at e; cases e
    | some i =>
      cases e2 : allOf D.int? ds with
      | none => rw [e1, e2] at e; cases e
      | some ns' =>
        rw [e1, e2] at e; cases e
        have hd : d = .int i := by cases d <;> first | (cases e1; done) | (cases e1; rfl)
        subst hd
        cases h
        rw [List.map_cons, ints_of r e2]
theorem bls_of {c : Cf} {A : Addr → Prop} {H : Hp} : ∀ {vs : List V} {ds : List D} {ns : List Bool}, RepL c A H vs ds → allOf D.bl? ds = some ns → vs = ns.map V.bl
  | _, _, ns, .nil, e => by cases e; rfl
  | _, _, ns, .cons (d := d) (ds := ds) h r, e => by
    unfold allOf at e
    cases e1 : D.bl? d with
    | none => rw [e1] at e; cases e
    | some i =>
      cases e2 : allOf D.bl? ds with
      | none => rw [e1, e2] at e; cases e
      | some ns' =>
        rw [e1, e2] at e; cases e
        have hd : d = .bl i := by cases d <;> first | (cases e1; done) | (cases e1; rfl)
        subst hd
        cases h
        rw [List.map_cons, bls_of r e2]
section
variable {X : Cx} {W : WX} {R : RK} {e : Expr} {es : List Expr} {fa : IM} {pos p : Pos} {x : Str}
theorem cd_len : CallD X rE (.builtin "len") lenD := fun pins s σ H xs us Q I r ⟨B, A, ds, d, fr, rl, e, q⟩ => by
  unfold lenD at e
  split at e
  · cases e
    cases rl with | cons h t => cases t with | nil =>
    obtain ⟨a, vs, rfl, h1, h2⟩ := h.lst
    exact call_len_seq pins s σ H _ us Q I r ⟨a, vs, rfl, .inl (SqL.of h1), by rw [h2.len]; exact q _ H (Same.refl H) (.int _)⟩
  · cases e
    cases rl with | cons h t => cases t with | nil =>
    obtain ⟨a, vs, rfl, h1, h2⟩ := h.tupq (.inl rfl)
    exact call_len_seq pins s σ H _ us Q I r ⟨a, vs, rfl, .inr h1, by rw [h2.len]; exact q _ H (Same.refl H) (.int _)⟩
  · cases e
    cases rl with | cons h t => cases t with | nil =>
    obtain ⟨a, vs, rfl, h1, h2⟩ := h.tupq (.inr rfl)
    exact call_len_seq pins s σ H _ us Q I r ⟨a, vs, rfl, .inr h1, by rw [h2.len]; exact q _ H (Same.refl H) (.int _)⟩
  · split at e
    · cases e
      cases rl with | cons h t => cases t with | nil =>
      have := h.str; subst this
      exact call_len_str pins s σ H _ us Q I r ⟨_, rfl, by assumption, q _ H (Same.refl H) (.int _)⟩
    · cases e
  · cases e
    cases rl with | cons h t => cases t with | nil =>
    have key : ∀ {a : Addr} {kvs : List (Key × V)} {n : Nat}, Rd H a (.dK kvs) → kvs.length = n → Vals [V.ref a] us → Q (.int n) H → wpAny (model X.prog X.w) X.A (call (.builtin "len") us) (EP X pins σ Q) X.xe s := fun {a kvs n} h1 h2 r q => by
      obtain ⟨u0, rfl, r0⟩ := Vals.one r
      obtain rfl : u0 = Value.ref a := r0
      exact d_len I h1 fun t s' I' => ⟨.int kvs.length, H, I', ⟨_, rfl⟩, by rw [h2]; exact q⟩
    rcases h with h | ⟨a, rfl, hA, kvs, h1, h2, h3⟩
    · cases h with
      | dic h n m e r' => exact key h (by have := congrArg List.length e; simpa using this) r (q _ H (Same.refl H) (.int _))
    · exact key (.inl h1) (by have := congrArg List.length h2; simpa using this) r (q _ H (Same.refl H) (.int _))
  · cases e
theorem cd_abs : CallD X rE (.builtin "abs") absD := fun pins s σ H xs us Q I r ⟨B, A, ds, d, fr, rl, e, q⟩ => by
  unfold absD at e
  split at e
  · cases e
    cases rl with | cons h t => cases t with | nil =>
    have := h.int; subst this
    exact call_abs pins s σ H _ us Q I r ⟨_, rfl, q _ H (Same.refl H) (.int _)⟩
  · cases e
theorem cd_int : CallD X rE (.type "int") intD := fun pins s σ H xs us Q I r ⟨B, A, ds, d, fr, rl, e, q⟩ => by
  unfold intD at e
  split at e
  · cases e
    cases rl with | cons h t => cases t with | nil =>
    have := h.int; subst this
    exact call_int1 pins s σ H _ us Q I r (.inl ⟨_, rfl, q _ H (Same.refl H) (.int _)⟩)
  · cases e
    cases rl with | cons h t => cases t with | nil =>
    have := h.bl; subst this
    exact call_int1 pins s σ H _ us Q I r (.inr ⟨_, rfl, q _ H (Same.refl H) (.int _)⟩)
  · cases e
theorem cd_max2 (hc : X.calm = true) : CallD X rE (.builtin "max") max2D := fun pins s σ H xs us Q I r ⟨B, A, ds, d, fr, rl, e, q⟩ => by
  unfold max2D at e
  split at e
  · cases e
    cases rl with | cons h t => cases t with | cons h2 t => cases t with | nil =>
    have := h.int; subst this
    have := h2.int; subst this
    exact call_max2 hc pins s σ H _ us Q I r ⟨_, _, rfl, q _ H (Same.refl H) (.int _)⟩
  · cases e
theorem cd_min2 (hc : X.calm = true) : CallD X rE (.builtin "min") min2D := fun pins s σ H xs us Q I r ⟨B, A, ds, d, fr, rl, e, q⟩ => by
  unfold min2D at e
  split at e
  · cases e
    cases rl with | cons h t => cases t with | cons h2 t => cases t with | nil =>
    have := h.int; subst this
    have := h2.int; subst this
    exact call_min2 hc pins s σ H _ us Q I r ⟨_, _, rfl, q _ H (Same.refl H) (.int _)⟩
  · cases e
/-- a new tuple, a new list -/
theorem new_tup {B : Bs} {A : Addr → Prop} {K : PySem.W.Frag} {mg : Str → Option Value} {H : Hp} {vs : List V} {ds : List D} {t : Addr} (fr : Fre (B.cf K mg) A H) (h : RepL (B.cf K mg) A H vs ds) (n : H t = none) : Rep (B.cf K mg) A (upd H t (.tup vs)) (.ref t) (.tup ds) :=
  .tup upd_same (fr.n t n).1 (fr.n t n).2 (h.keepA (Kp.a (.of (same_new n))))
theorem new_lst {B : Bs} {A : Addr → Prop} {K : PySem.W.Frag} {mg : Str → Option Value} {H : Hp} {vs : List V} {ds : List D} {t : Addr} (h : RepL (B.cf K mg) A H vs ds) (n : H t = none) : rF (B.cf K mg) A H (upd H t (.lst vs)) (.ref t) (.lst ds) :=
  ⟨t, rfl, n, vs, upd_same, (h.to fun b z => z.elim .inl fun e => .inr (by rw [e]; exact fr_none n)).keepA (Kp.a (.of (same_new n)))⟩
theorem cd_tuple : CallD X rE (.type "tuple") tupleD := fun pins s σ H xs us Q I r ⟨B, A, ds, d, fr, rl, e, q⟩ => by
  unfold tupleD at e
  split at e
  · cases e
    cases rl with | cons h t => cases t with | nil =>
    obtain ⟨a, vs, rfl, h1, h2⟩ := h.lst
    exact call_tuple_of pins s σ H _ us Q I r ⟨a, vs, rfl, .inl ⟨SqL.of h1, fun l hl => q _ _ (same_new hl) (new_tup fr h2 hl)⟩⟩
  · cases e
    cases rl with | cons h t => cases t with | nil =>
    obtain ⟨a, vs, e1, h1, h2⟩ := h.tup
    have e1' := e1
    subst e1'
    rcases h with h | ⟨_, _, _, h⟩
    · exact call_tuple_of pins s σ H _ us Q I r ⟨a, vs, rfl, .inr ⟨SqT.of h1, q _ H (Same.refl H) h⟩⟩
    · exact h.elim
  · cases e
    cases rl with | cons h t => cases t with | nil =>
    obtain ⟨a, vs, e1, h1, h2⟩ := h.kup
    have e1' := e1
    subst e1'
    rcases h with h | ⟨_, _, _, h⟩
    · exact call_tuple_of pins s σ H _ us Q I r ⟨a, vs, rfl, .inr ⟨h1 H, q _ H (Same.refl H) h⟩⟩
    · exact h.elim
  · cases e
theorem cd_list : CallD X rF (.type "list") listD := fun pins s σ H xs us Q I r ⟨B, A, ds, d, fr, rl, e, q⟩ => by
  unfold listD at e
  split at e
  · cases e
    cases rl with | cons h t => cases t with | nil =>
    obtain ⟨a, vs, rfl, h1, h2⟩ := h.lst
    exact call_list_of pins s σ H _ us Q I r ⟨a, vs, rfl, .inl (SqL.of h1), fun l hl => q _ _ (same_new hl) (new_lst h2 hl)⟩
  · cases e
    cases rl with | cons h t => cases t with | nil =>
    obtain ⟨a, vs, rfl, h1, h2⟩ := h.tupq (.inl rfl)
    exact call_list_of pins s σ H _ us Q I r ⟨a, vs, rfl, .inr h1, fun l hl => q _ _ (same_new hl) (new_lst h2 hl)⟩
  · cases e
    cases rl with | cons h t => cases t with | nil =>
    obtain ⟨a, vs, rfl, h1, h2⟩ := h.tupq (.inr rfl)
    exact call_list_of pins s σ H _ us Q I r ⟨a, vs, rfl, .inr h1, fun l hl => q _ _ (same_new hl) (new_lst h2 hl)⟩
  · cases e
theorem cd_sum (hc : X.calm = true) : CallD X rE (.builtin "sum") sumD := fun pins s σ H xs us Q I r ⟨B, A, ds, d, fr, rl, e, q⟩ => by
  unfold sumD at e
  split at e
  · rename_i l
    cases z : allOf D.int? l with
    | none => rw [z] at e; cases e
    | some ns =>
      rw [z] at e; cases e
      cases rl with | cons h t => cases t with | nil =>
      obtain ⟨a, vs, rfl, h1, h2⟩ := h.lst
      have := ints_of h2 z; subst this
      exact cr_sum hc pins s σ H _ us Q I r ⟨a, ns, rfl, SqL.of h1, q _ H (Same.refl H) (.int _)⟩
  · cases e
theorem cd_any (hc : X.calm = true) : CallD X rE (.builtin "any") anyD := fun pins s σ H xs us Q I r ⟨B, A, ds, d, fr, rl, e, q⟩ => by
  unfold anyD at e
  split at e
  · rename_i l
    cases z : allOf D.bl? l with
    | none => rw [z] at e; cases e
    | some ns =>
      rw [z] at e; cases e
      cases rl with | cons h t => cases t with | nil =>
      obtain ⟨a, vs, rfl, h1, h2⟩ := h.lst
      have := bls_of h2 z; subst this
      exact cr_any hc pins s σ H _ us Q I r ⟨a, ns, rfl, SqL.of h1, q _ H (Same.refl H) (.bl _)⟩
  · cases e
theorem cd_all (hc : X.calm = true) : CallD X rE (.builtin "all") allD := fun pins s σ H xs us Q I r ⟨B, A, ds, d, fr, rl, e, q⟩ => by
  unfold allD at e
  split at e
  · rename_i l
    cases z : allOf D.bl? l with
    | none => rw [z] at e; cases e
    | some ns =>
      rw [z] at e; cases e
      cases rl with | cons h t => cases t with | nil =>
      obtain ⟨a, vs, rfl, h1, h2⟩ := h.lst
      have := bls_of h2 z; subst this
      exact cr_all hc pins s σ H _ us Q I r ⟨a, ns, rfl, SqL.of h1, q _ H (Same.refl H) (.bl _)⟩
  · cases e

/-! ### isinstance -/
/-- the built-in type of data -/
def D.ty? : D → Option String
  | .non => some "NoneType" | .bl _ => some "bool" | .int _ => some "int" | .str _ => some "str"
  | .tup _ => some "tuple" | .kup _ => some "tuple" | .lst _ => some "list" | .dic _ => some "dict" | .dit _ => none | .pen => none | .obj _ _ => none | .clo _ _ _ _ _ => none | .err _ _ => none | .brw _ => none
theorem rO.ty {c : Cf} {A : Addr → Prop} {H H0 : Hp} {v : V} {d : D} {t : String} (h : rO c A H0 H v d) (e : d.ty? = some t) : TyX c.K H v (.type t) := by
  rcases h with h | ⟨a, rfl, hA, h⟩
  · cases h <;> first | cases e | skip
    · exact .base .non
    · exact .base (.bl _)
    · exact .base (.int _)
    · exact .base (.str _)
    · rename_i h _ _ _; exact .base (.tup h)
    · rename_i h _
      rcases h with (h | ⟨_, h⟩) | ⟨o, its, n, h1, h2, _⟩
      · cases h
      · cases h
      · exact .kTuple h1 h2
    · rename_i h _ _ _; exact .base (.lst h)
    · rename_i h _ _ _ _
      rcases h with h | ⟨o, h⟩
      · exact .base (.dK h)
      · exact .fDict h
  · cases d <;> first | exact h.elim | cases e | skip
    · obtain ⟨vs, h1, h2⟩ := h; exact .base (.lst h1)
    · obtain ⟨vs, h1, h2⟩ := h; exact .base (.dK h1)
def isiB (ts : List String) (t : String) : Option Bool := match ts with
  | [] => some false
  | u :: r => match kitB t u with
    | some true => some true
    | some false => isiB r t
    | none => none
def isiD (ts : List String) (fe : EM) : EM := fun r w => (fe r w).bind fun d w' => Res.of ((d.ty?.bind (isiB ts)).map .bl) w'
theorem kitAny_of {K : PySem.W.Frag} {t : String} : ∀ {ts : List String} {b : Bool}, isiB ts t = some b → PySem.W.kitAny K (.type t) (ts.map .type) = some b
  | [], b, h => h
  | u :: r, b, h => by
    unfold isiB at h
    cases z : kitB t u with
    | none => rw [z] at h; cases h
    | some k =>
      rw [z] at h
      cases k with
      | true => cases h; exact kitAny_cons (kit_ty z) (fun e => by cases e) (fun _ => rfl)
      | false => exact kitAny_cons (kit_ty z) (fun _ => kitAny_of h) (fun e => by cases e)
/-- isinstance(e, T) -/
theorem ve_isi {T : Str} {t : String} {fe : EM} {p2 : Pos} (hm : X.mg "isinstance" = none) (hT : X.mg T = none) (hv : bootBuiltins T = some (.type t)) (he : VE X rO W e fe) (hg : Gl X "isinstance" := by rfl) (hgT : Gl X T := by rfl) (hnT : T ≠ "__name__" := by decide) (hdT : (T == ("__debug__" : Str)) = false := by decide)
    (hs1 : starEach [e, .Name T p2] X.env = (false, eval e X.env) :: starEach [.Name T p2] X.env := by rfl) (hs2 : starEach [.Name T p2] X.env = (false, eval (.Name T p2) X.env) :: starEach [] X.env := by rfl) (hpl : (backTo pos (starEach [.Name T p2] X.env)).any (·.1) = false := by rfl) :
    VE X rE W (.Call (.Name "isinstance" p) [e, .Name T p2] [] pos) (isiD [t] fe) :=
  weak (pe_callB call_isi hg hm boot_isinstance (pa_cons he (pa_cons (pe_bltn hgT hT hv (v := .ty t) rfl hnT hdT) pa_nil hs2) hs1) (by decide) (by decide) hs1 hpl) fun σ H Q ⟨B, A, r, w, hs, hp, q⟩ => ⟨B, A, r, w, hs, hp, q.bind fun d w1 v H1 k1 p1 r1 q1 => by
    unfold Res.of at q1
    cases z : d.ty? with
    | none => rw [z] at q1; exact q1.elim
    | some td =>
      rw [z] at q1
      have q1 : Post _ _ _ _ _ _ _ (match (isiB [t] td).map D.bl with | some d => Res.ok d w1 | none => .bad) := q1
      cases z2 : isiB [t] td with
      | none => rw [z2] at q1; exact q1.elim
      | some b =>
        rw [z2] at q1
        refine ⟨v, .ty t, _, _, b, rfl, .ty t, r1.ty z, ?_, q1 _ H1 .refl p1 (.bl b)⟩
        unfold isiB at z2
        cases z3 : kitB td t with
        | none => rw [z3] at z2; cases z2
        | some k =>
          rw [z3] at z2
          refine kit_ty (z3.trans ?_)
          cases k with
          | true => exact z2
          | false => exact z2⟩
/-- isinstance(e, (T, U, ..)) -/
theorem ve_isiT {T U : Str} {t u : String} {fe : EM} {p2 p3 p4 : Pos} {k : Nat} (hm : X.mg "isinstance" = none) (hT : X.mg T = none) (hv : bootBuiltins T = some (.type t)) (hU : X.mg U = none) (hvU : bootBuiltins U = some (.type u)) (he : VE X rO W e fe) (hg : Gl X "isinstance" := by rfl) (hgT : Gl X T := by rfl) (hnT : T ≠ "__name__" := by decide) (hdT : (T == ("__debug__" : Str)) = false := by decide) (hgU : Gl X U := by rfl) (hnU : U ≠ "__name__" := by decide) (hdU : (U == ("__debug__" : Str)) = false := by decide)
    (hs1 : starEach [e, .Tuple [.Name T p2, .Name U p3] k p4] X.env = (false, eval e X.env) :: starEach [.Tuple [.Name T p2, .Name U p3] k p4] X.env := by rfl) (hs2 : starEach [.Tuple [.Name T p2, .Name U p3] k p4] X.env = (false, eval (.Tuple [.Name T p2, .Name U p3] k p4) X.env) :: starEach [] X.env := by rfl) (hpl : (backTo pos (starEach [.Tuple [.Name T p2, .Name U p3] k p4] X.env)).any (·.1) = false := by rfl) :
    VE X rE W (.Call (.Name "isinstance" p) [e, .Tuple [.Name T p2, .Name U p3] k p4] [] pos) (isiD [t, u] fe) :=
  weak (pe_callB call_isiT hg hm boot_isinstance (pa_cons he (pa_cons (pe_tup (pa_cons (pe_bltn hgT hT hv (v := .ty t) rfl hnT hdT) (pa_cons (pe_bltn hgU hU hvU (v := .ty u) rfl hnU hdU) pa_nil))) pa_nil hs2) hs1) (by decide) (by decide) hs1 hpl) fun σ H Q ⟨B, A, r, w, hs, hp, q⟩ => ⟨B, A, r, w, hs, hp, q.bind fun d w1 v H1 k1 p1 r1 q1 => by
    unfold Res.of at q1
    cases z : d.ty? with
    | none => rw [z] at q1; exact q1.elim
    | some td =>
      rw [z] at q1
      have q1 : Post _ _ _ _ _ _ _ (match (isiB [t, u] td).map D.bl with | some d => Res.ok d w1 | none => .bad) := q1
      cases z2 : isiB [t, u] td with
      | none => rw [z2] at q1; exact q1.elim
      | some b =>
        rw [z2] at q1
        refine ⟨by show 2 ≤ sizeLine; rw [sizeLine_eq]; decide, fun tp ht => ?_⟩
        exact ⟨v, tp, [.ty t, .ty u], _, [.type t, .type u], b, rfl, upd_same, .cons (.ty t) (.cons (.ty u) .nil), (rO.keep (H0 := H1) (H0' := H1) (hs.np) (.of (same_new ht)) r1).ty z, kitAny_of z2, q1 _ _ (.of (same_new ht)) (p1.keep (same_new ht)) (.bl b)⟩⟩

/-! ### subscripts, slices -/
def ixD (a b : D) : Option D := match a, b with
  | .lst l, .int i => atI l i
  | .tup l, .int i => atI l i
  | .kup l, .int i => atI l i
  | .str s, .int i => if s.length ≤ sizeLine then (atI s.cps.toList i).map fun c => .str ⟨#[c]⟩ else none
  | _, _ => none
theorem RepL.atI {c : Cf} {A : Addr → Prop} {H : Hp} {vs : List V} {ds : List D} {i : Int} {d : D} (r : RepL c A H vs ds) (e : L2.atI ds i = some d) : ∃ v, L2.atI vs i = some v ∧ Rep c A H v d := by
  unfold L2.atI at e ⊢
  rw [r.len]
  cases z : ixN ds.length i with
  | none => rw [z] at e; cases e
  | some j =>
    rw [z] at e
    have e : ds[j]? = some d := e
    have hj : j < vs.length := by rw [r.len]; exact (List.getElem?_eq_some_iff.mp e).1
    obtain ⟨d', h1, h2⟩ := r.at (List.getElem?_eq_getElem hj)
    rw [e] at h1; cases h1
    exact ⟨vs[j], by show vs[j]? = _; exact List.getElem?_eq_getElem hj, h2⟩
theorem ve_ix {a b : Expr} {fa fb : EM} (ha : VE X rO W a fa) (hb : VE X rO W b fb) (hs : PlainIx b := by exact fun _ _ => rfl) : VE X rE W (.Subscript a b pos) (dBin ixD fa fb) := weak (pe_ix (IxR.or (IxR.or ix_list ix_tup) ix_str) ha hb hs) fun σ H Q ⟨B, A, r, w, hs, hp, q⟩ =>
  ⟨B, A, r, w, hs, hp, q.bind fun x w1 v H1 k1 p1 r1 q1 => ⟨B, A, r, w1, hs.keep k1, p1, q1.bind fun y w2 v2 H2 k2 p2 r2 q2 => by
    have r1' : rO (B.cf X.K X.mg) A H2 H2 v x := rO.keep hs.np k2 r1
    unfold Res.of ixD at q2
    split at q2
    · rename_i d e
      split at e
      · obtain ⟨a, vs, rfl, h1, h2⟩ := r1'.lst
        obtain ⟨u, h3, h4⟩ := h2.atI e
        exact .inl (.inl ⟨a, vs, _, u, rfl, r2.int, SqL.of h1, h3, q2 _ H2 .refl p2 h4⟩)
      · obtain ⟨a, vs, rfl, h1, h2⟩ := r1'.tupq (.inl rfl)
        obtain ⟨u, h3, h4⟩ := h2.atI e
        exact .inl (.inr ⟨a, vs, _, u, rfl, r2.int, h1, h3, q2 _ H2 .refl p2 h4⟩)
      · obtain ⟨a, vs, rfl, h1, h2⟩ := r1'.tupq (.inr rfl)
        obtain ⟨u, h3, h4⟩ := h2.atI e
        exact .inl (.inr ⟨a, vs, _, u, rfl, r2.int, h1, h3, q2 _ H2 .refl p2 h4⟩)
      · split at e
        · rename_i hl
          simp only [Option.map_eq_some_iff] at e
          obtain ⟨c, z, rfl⟩ := e
          exact .inr ⟨_, _, c, r1'.str, r2.int, hl, z, q2 _ H2 .refl p2 (.str _)⟩
        · cases e
      · cases e
    · exact q2.elim⟩⟩
/-- a part of a slice: None, or an int -/
def PostO (c : Cf) (A : Addr → Prop) (σ : L2.St) (H : Hp) (W : WX) (Q : Option Int → Hp → Prop) : Res → Prop
  | .ok (.int i) w => ∀ H', Kp c.p H H' → PenAt c.p c.lc A H' w → Q (some i) H'
  | .ok .non w => ∀ H', Kp c.p H H' → PenAt c.p c.lc A H' w → Q none H'
  | .ok _ _ => False
  | .exc n fs w => ∀ cls dd H', Kp c.p H H' → PenAt c.p c.lc A H' w → ErrR c A n fs cls dd H' → W cls dd σ H'
  | .bad => False
def tVO (K : PySem.W.Frag) (mg : Str → Option Value) (W : WX) (f : EM) : TO := fun σ H Q =>
  ∃ (B : Bs) (A : Addr → Prop) (r : Env) (w : Wd), StOk K mg B A σ H r ∧ PenAt B.p B.lc A H w ∧ PostO (B.cf K mg) A σ H W Q (f r w)
abbrev VO (X : Cx) (W : WX) (e : Option Expr) (f : EM) : Prop := PO X e (tVO X.K X.mg W f)
theorem weakO {e : Option Expr} {t t' : TO} (h : PO X e t) (k : ∀ σ H Q, t' σ H Q → t σ H Q) : PO X e t' := ⟨fun pins s σ H Q I q => h.run pins s σ H Q I (k σ H Q q)⟩
theorem vo_none : VO X W none (dC .non) := weakO po_none fun σ H Q ⟨B, A, r, w, hs, hp, q⟩ => q H .refl hp
def dIntOnly (fe : EM) : EM := fun r w => (fe r w).bind fun d w' => match d with
  | .int i => .ok (.int i) w'
  | _ => .bad
theorem vo_some {fe : EM} (h : VE X rO W e fe) : VO X W (some e) (dIntOnly fe) := weakO (po_some h) fun σ H Q ⟨B, A, r, w, hs, hp, q⟩ => ⟨B, A, r, w, hs, hp, by
  unfold dIntOnly at q
  cases z : fe r w with
  | bad => rw [z] at q; exact q
  | exc n fs w1 => rw [z] at q; exact q
  | ok d w1 =>
    rw [z] at q
    unfold Res.bind at q
    cases d <;> first | exact q.elim | skip
    exact fun v H1 k1 p1 r1 => ⟨_, r1.int, q H1 k1 p1⟩⟩
def D.opt : D → Option Int
  | .int i => some i
  | _ => none
def cutL {α : Type} (xs : List α) (lo hi : Option Int) : List α := (xs.drop (HT.sIx xs.length 0 lo)).take (HT.sIx xs.length xs.length hi - HT.sIx xs.length 0 lo)
theorem RepL.drop {c : Cf} {A : Addr → Prop} {H : Hp} : ∀ {vs : List V} {ds : List D} (n : Nat), RepL c A H vs ds → RepL c A H (vs.drop n) (ds.drop n)
  | _, _, 0, r => r
  | _, _, _ + 1, .nil => .nil
  | _, _, n + 1, .cons _ r => RepL.drop n r
theorem RepL.take {c : Cf} {A : Addr → Prop} {H : Hp} : ∀ {vs : List V} {ds : List D} (n : Nat), RepL c A H vs ds → RepL c A H (vs.take n) (ds.take n)
  | _, _, 0, r => .nil
  | _, _, _ + 1, .nil => .nil
  | _, _, n + 1, .cons h r => .cons h (RepL.take n r)
theorem RepL.cut {c : Cf} {A : Addr → Prop} {H : Hp} {vs : List V} {ds : List D} (lo hi : Option Int) (r : RepL c A H vs ds) : RepL c A H (cutV vs lo hi) (cutL ds lo hi) := by
  unfold cutV cutL
  rw [r.len]
  exact (r.drop _).take _
def isWhole (n : Nat) (lo hi : Option Int) : Bool := decide (HT.sIx n 0 lo = 0) && decide (HT.sIx n n hi = n)
def slD (d : D) (lo hi : Option Int) : Option D := match d with
  | .lst l => some (.lst (cutL l lo hi))
  | .tup l => some (.tup (cutL l lo hi))
  | .str s => if s.length ≤ sizeLine then some (.str (cutS s lo hi)) else none
  | _ => none
def dSl (g : D → Option Int → Option Int → Option D) (fe fl fh : EM) : EM := fun r w => (fe r w).bind fun d w1 => (fl r w1).bind fun lo w2 => (fh r w2).bind fun hi w3 => Res.of (g d lo.opt hi.opt) w3
theorem PostO.bind {c : Cf} {A : Addr → Prop} {σ : L2.St} {H : Hp} [RKm R] {Q : VK} {Q1 : Option Int → Hp → Prop} {x : Res} {k : D → Wd → Res} (h : Post c A σ H R W Q (x.bind k)) (hx : ∀ d w, x = .ok d w → d = .non ∨ ∃ i, d = .int i)
    (hk : ∀ d w H1, Kp c.p H H1 → PenAt c.p c.lc A H1 w → Post c A σ H1 R W Q (k d w) → Q1 d.opt H1) : PostO c A σ H W Q1 x := by
  cases x with
  | ok d w =>
    have h' : Post c A σ H R W Q (k d w) := h
    rcases hx d w rfl with rfl | ⟨i, rfl⟩
    · exact fun H' k' p => hk .non w H' k' p (Post.at k' h')
    · exact fun H' k' p => hk (.int i) w H' k' p (Post.at k' h')
  | exc n fs w => exact h
  | bad => exact h
/-- what a part comes to -/
structure PartM (f : EM) : Prop where
  is : ∀ r w d w', f r w = .ok d w' → d = .non ∨ ∃ i, d = .int i
theorem part_none : PartM (dC .non) := ⟨fun r w d w' h => by cases h; exact .inl rfl⟩
theorem part_some {fe : EM} : PartM (dIntOnly fe) := ⟨fun r w d w' h => by
  unfold dIntOnly at h
  cases z : fe r w with
  | bad => rw [z] at h; cases h
  | exc n fs w1 => rw [z] at h; cases h
  | ok d1 w1 =>
    rw [z] at h
    unfold Res.bind at h
    cases d1 <;> first | cases h | skip
    exact .inr ⟨_, rfl⟩⟩
theorem new_lstE {B : Bs} {A : Addr → Prop} {K : PySem.W.Frag} {mg : Str → Option Value} {H : Hp} {vs : List V} {ds : List D} {t : Addr} (fr : Fre (B.cf K mg) A H) (h : RepL (B.cf K mg) A H vs ds) (n : H t = none) : Rep (B.cf K mg) A (upd H t (.lst vs)) (.ref t) (.lst ds) :=
  .lst upd_same (fr.n t n).1 ⟨(fr.n t n).2, fr.l t n⟩ (h.keepA (Kp.a (.of (same_new n))))
theorem cutL_all {α : Type} {vs : List α} {lo hi : Option Int} (h : HT.sIx vs.length 0 lo = 0 ∧ HT.sIx vs.length vs.length hi = vs.length) : cutL vs lo hi = vs := by
  unfold cutL
  rw [h.1, h.2]
  simp
theorem ve_sl {lo hi : Option Expr} {fe fl fh : EM} {p2 : Pos} (he : VE X rO W e fe) (hl : VO X W lo fl) (hh : VO X W hi fh) (pl : PartM fl) (ph : PartM fh) : VE X rE W (.Subscript e (.Slice lo hi none p2) pos) (dSl slD fe fl fh) :=
  weak (pe_slice (SlR.or (SlR.or sl_list sl_tupA) sl_str) he hl hh) fun σ H Q ⟨B, A, r, w, hs, hp, q⟩ =>
  ⟨B, A, r, w, hs, hp, q.bind fun x w1 v H1 k1 p1 r1 q1 => ⟨B, A, r, w1, hs.keep k1, p1, PostO.bind q1 (pl.is r w1) fun lo w2 H2 k2 p2 q2 => ⟨B, A, r, w2, hs.keep (k1.trans k2), p2, PostO.bind q2 (ph.is r w2) fun hi w3 H3 k3 p3 q3 => by
    have r1' : rO (B.cf X.K X.mg) A H3 H3 v x := rO.keep hs.np (k2.trans k3) r1
    have fr := (hs.keep (k1.trans (k2.trans k3))).fre
    unfold Res.of slD at q3
    split at q3
    · rename_i d e
      split at e
      · cases e
        obtain ⟨a, vs, rfl, h1, h2⟩ := r1'.lst
        exact .inl (.inl ⟨a, vs, rfl, SqL.of h1, fun t ht => q3 _ _ (.of (same_new ht)) (p3.keep (same_new ht)) (new_lstE fr (h2.cut _ _) ht)⟩)
      · cases e
        obtain ⟨a, vs, e1, h1, h2⟩ := r1'.tup
        have e1' := e1
        subst e1'
        refine .inl (.inr ⟨a, vs, rfl, SqT.of h1, fun hw => ?_, fun hw t ht => q3 _ _ (.of (same_new ht)) (p3.keep (same_new ht)) (new_tup fr (h2.cut _ _) ht)⟩)
        have e2 : cutL _ lo.opt hi.opt = _ := cutL_all (by rw [← h2.len]; exact hw)
        rw [e2] at q3
        rcases r1' with r1' | ⟨_, _, _, r1'⟩
        · exact q3 _ H3 .refl p3 r1'
        · exact r1'.elim
      · split at e
        · rename_i hl
          cases e
          exact .inr ⟨_, r1'.str, hl, q3 _ H3 .refl p3 (.str _)⟩
        · cases e
      · cases e
    · exact q3.elim⟩⟩⟩
/-- a list's slice, a new list -/
def slLD (d : D) (lo hi : Option Int) : Option D := match d with
  | .lst l => some (.lst (cutL l lo hi))
  | _ => none
theorem vf_sl {lo hi : Option Expr} {fe fl fh : EM} {p2 : Pos} (he : VE X rO W e fe) (hl : VO X W lo fl) (hh : VO X W hi fh) (pl : PartM fl) (ph : PartM fh) : VE X rF W (.Subscript e (.Slice lo hi none p2) pos) (dSl slLD fe fl fh) :=
  weak (pe_slice sl_list he hl hh) fun σ H Q ⟨B, A, r, w, hs, hp, q⟩ =>
  ⟨B, A, r, w, hs, hp, q.bind fun x w1 v H1 k1 p1 r1 q1 => ⟨B, A, r, w1, hs.keep k1, p1, PostO.bind q1 (pl.is r w1) fun lo w2 H2 k2 p2 q2 => ⟨B, A, r, w2, hs.keep (k1.trans k2), p2, PostO.bind q2 (ph.is r w2) fun hi w3 H3 k3 p3 q3 => by
    have r1' : rO (B.cf X.K X.mg) A H3 H3 v x := rO.keep hs.np (k2.trans k3) r1
    unfold Res.of slLD at q3
    split at q3
    · rename_i d e
      split at e
      · cases e
        obtain ⟨a, vs, rfl, h1, h2⟩ := r1'.lst
        exact ⟨a, vs, rfl, SqL.of h1, fun t ht => q3 _ _ (.of (same_new ht)) (p3.keep (same_new ht)) (new_lst (h2.cut _ _) ht)⟩
      · cases e
    · exact q3.elim⟩⟩⟩
end
end DL

set_option Elab.async false
set_option linter.all false
set_option maxRecDepth 100000
set_option maxHeartbeats 2000000
namespace DL
open PySem PySem.SeqAt PySem.Spec PyProof.Rows L2

/-- a list (true) or a tuple (false) of vs at a -/
def Sq (k : Bool) (K : PySem.W.Frag) (H : Hp) (a : Addr) (vs : List V) : Prop := match k with
  | true => SqL K H a vs
  | false => SqT K H a vs
def IterAt (k : Bool) (h : Heap) (it a : Addr) (i : Nat) : Prop := match k with
  | true => h.IsListIter it a i
  | false => h.IsTupleIter it a i
def SeqIn (k : Bool) (h : Heap) (a : Addr) (its : Array Value) : Prop := match k with
  | true => h.IsList a its
  | false => h.IsTuple a its
theorem Sq.laid {X : Cx} {pins : List (Addr × Obj)} {σ : L2.St} {H : Hp} {s : Shared} {k : Bool} {a : Addr} {vs : List V} (I : Inv X pins σ H s) (h : Sq k X.K H a vs) : ∃ its : List Value, Vals vs its ∧ SeqIn k s.heap a its.toArray ∧ a < s.heap.objs.size := by
  cases k with
  | true =>
    obtain ⟨its, r, p, _⟩ := I.list h
    exact ⟨its, r, p.isList, p.lt⟩
  | false =>
    obtain ⟨its, r, p, _⟩ := I.tuple h
    obtain ⟨o, ho, _⟩ := id p
    exact ⟨its, r, (show s.heap.IsTuple a its.toArray from p), Heap.lt_size ho⟩
theorem drawsAt {prog : Program} {w : World} {A : Around} (hh : A.handled = none) (k : Bool) (it l : Addr) (hne : l ≠ it) (items : Array Value) :
    Draws prog w A it [it, l] items.size (fun i v => items[i]? = some v) (fun i h => IterAt k h it l i ∧ SeqIn k h l items) := by
  cases k with
  | true => exact Draws.list hh it l hne items
  | false => exact Draws.tuple hh it l hne items
theorem IterAt.at {k : Bool} {h h' : Heap} {it a : Addr} {i : Nat} (x : IterAt k h it a i) (f : ∀ o, h.get? it = some o → h'.get? it = some o) : IterAt k h' it a i := by
  cases k with
  | true => exact Heap.IsListIter.at (show h.IsListIter it a i from x) f
  | false => exact Heap.IsTupleIter.at (show h.IsTupleIter it a i from x) f
theorem IterAt.obj {k : Bool} {h : Heap} {it a : Addr} {i : Nat} (x : IterAt k h it a i) : ∃ o, h.get? it = some o ∧ ∀ v, o.data ≠ .cell v := by
  cases k with
  | true => obtain ⟨o, e, _, d⟩ := (show h.IsListIter it a i from x); exact ⟨o, e, fun v q => by rw [d] at q; cases q⟩
  | false => obtain ⟨o, e, _, d⟩ := (show h.IsTupleIter it a i from x); exact ⟨o, e, fun v q => by rw [d] at q; cases q⟩
def begObj (k : Bool) (a : Addr) : Obj := match k with
  | true => { cls := .type "list_iterator", data := .fields #[.ref a, .int 0 0] }
  | false => { cls := .type "tuple_iterator", data := .fields #[.ref a, .int 0 0] }
theorem begins {k : Bool} {a : Addr} {its : Array Value} : Begins (.ref a) (begObj k a) (fun h => SeqIn k h a its) := by
  cases k with
  | true => exact begins_list a its
  | false => exact begins_tuple a its
theorem begObj_iter {k : Bool} {h : Heap} {it a : Addr} (e : h.get? it = some (begObj k a)) : IterAt k h it a 0 := by
  cases k with
  | true => exact ⟨_, e, rfl, rfl⟩
  | false => exact ⟨_, e, rfl, rfl⟩

/-- zip of two -/
def ItzM (K : PySem.W.Frag) (k1 k2 : Bool) (a b : Addr) (xs ys : List V) : It :=
  ⟨fun i H => i < min xs.length ys.length ∧ Sq k1 K H a xs ∧ Sq k2 K H b ys,
   fun i H v H' => ∃ T x y, v = .ref T ∧ H T = none ∧ H' = upd H T (.tup [x, y]) ∧ xs[i]? = some x ∧ ys[i]? = some y,
   fun i H => i = min xs.length ys.length ∧ Sq k1 K H a xs ∧ Sq k2 K H b ys⟩
theorem turn_zipM {P : Program} {w : World} {K : PySem.W.Frag} {elts : List Expr} {kk : Nat} {tpos : Pos} {k1 k2 : Bool} {a b z TI TO i1 i2 : Addr} {xs ys : List V} (S : ZipSep2 z TI TO i1 i2 [i1, a] [i2, b]) (ha : a ≠ i1) (hb : b ≠ i2) :
    Turn P w K (.Tuple elts kk tpos) (ItzM K k1 k2 a b xs ys) [z, TI, TO, i1, i2] z (fun i h => IsZip h z TI TO .none ∧ IsTupOf2 h TI (.ref i1) (.ref i2) ∧ (∃ x y, IsTupOf2 h TO x y) ∧ IterAt k1 h i1 a i ∧ IterAt k2 h i2 b i)  where
  mem := List.mem_cons_self
  obj := fun i h ⟨hz, hTI, ⟨x, y, hTO⟩, h1, h2⟩ c hc => by
    simp only [List.mem_cons, List.not_mem_nil, or_false] at hc
    rcases hc with rfl | rfl | rfl | rfl | rfl
    · exact ⟨_, hz, fun v q => nomatch q⟩
    · exact ⟨_, hTI, fun v q => nomatch q⟩
    · exact ⟨_, hTO, fun v q => nomatch q⟩
    · exact h1.obj
    · exact h2.obj
  keep := fun i h h' ⟨hz, hTI, ⟨x, y, hTO⟩, h1, h2⟩ k => ⟨k z (by simp) _ hz, k TI (by simp) _ hTI, ⟨x, y, k TO (by simp) _ hTO⟩, h1.at fun o q => k i1 (by simp) o q, h2.at fun o q => k i2 (by simp) o q⟩
  item := by
    intro X hP hw hK hc i pins s σ H E I hf st hg
    subst hP hw hK
    obtain ⟨hlt, sq1, sq2⟩ := hg
    obtain ⟨its, rv, p, la⟩ := sq1.laid I
    obtain ⟨its2, rv2, p2, lb⟩ := sq2.laid I
    have e1 : its.toArray.size = xs.length := by rw [List.size_toArray]; exact rv.length.symm
    have e2 : its2.toArray.size = ys.length := by rw [List.size_toArray]; exact rv2.length.symm
    have hh : X.A.in1.handled = none := I.ok.hd hc
    have G := GoesN.zip2 (elts := elts) (x1 := kk) (pos := tpos) (A := X.A) S (drawsAt (prog := X.prog) (w := X.w) hh k1 i1 a ha its.toArray) (drawsAt (prog := X.prog) (w := X.w) hh k2 i2 b hb its2.toArray)
    obtain ⟨hz, hTI, hTO, h1, h2⟩ := st
    refine wpAny_mono (G.goes i s (fun v s2 => ∃ x H', Inv X pins σ H' s2 ∧ RelV x v ∧ (ItzM X.K k1 k2 a b xs ys).yld i H x H' ∧ _ ∧ ∀ b ∈ [z, TI, TO, i1, i2], H' b = none) E (by rw [e1, e2]; exact hlt) ⟨hz, hTI, hTO, ⟨h1, p⟩, ⟨h2, p2⟩⟩ fun v h' tk Y st' kp htk => ?_) (fun r s1 ⟨u, e, q⟩ => ⟨u, e, q⟩) fun _ _ q => q
    obtain ⟨T, x, y, rfl, hT, hx, hy, isT⟩ := Y
    obtain ⟨hz', hTI', hTO', ⟨h1', _⟩, ⟨h2', _⟩⟩ := st'
    have hx' : its[i]? = some x := by simpa using hx
    have hy' : its2[i]? = some y := by simpa using hy
    have hxl : i < xs.length := by omega
    have hyl : i < ys.length := by omega
    obtain ⟨u, hu, ru⟩ := rv.get (List.getElem?_eq_getElem hxl)
    obtain ⟨u2, hu2, ru2⟩ := rv2.get (List.getElem?_eq_getElem hyl)
    rw [hx'] at hu; cases hu
    rw [hy'] at hu2; cases hu2
    have hn : H T = none := I.hok.fresh hT
    have new : ObjOk X.prog X.w (upd H T (.tup [xs[i], ys[i]])) h' T (.tup [xs[i], ys[i]]) := ⟨by show 2 ≤ sizeLine; rw [sizeLine_eq]; decide, [x, y], .cons ru (.cons ru2 .nil), isT⟩
    have I1 := I.turnedNew (t' := tk) (ch := [z, TO, i1, i2]) (T := T) (ob := .tup [xs[i], ys[i]]) (h' := h') kp (fun c hc => hf c (by
      simp only [List.mem_cons, List.not_mem_nil, or_false] at hc ⊢
      rcases hc with z | z | z | z <;> simp [z])) hT new
    refine ⟨.ref T, _, I1, rfl, ⟨T, xs[i], ys[i], rfl, hn, rfl, List.getElem?_eq_getElem hxl, List.getElem?_eq_getElem hyl⟩, ⟨hz', hTI', hTO', h1', h2'⟩, fun c hc => ?_⟩
    have hlt : c < s.heap.objs.size := by
      simp only [List.mem_cons, List.not_mem_nil, or_false] at hc
      rcases hc with rfl | rfl | rfl | rfl | rfl
      · exact Heap.lt_size hz
      · exact Heap.lt_size hTI
      · obtain ⟨_, _, e⟩ := hTO; exact Heap.lt_size e
      · obtain ⟨_, e, _⟩ := h1.obj; exact Heap.lt_size e
      · obtain ⟨_, e, _⟩ := h2.obj; exact Heap.lt_size e
    rw [upd_ne (Nat.ne_of_lt (Nat.lt_of_lt_of_le hlt hT))]
    exact (hf c hc).1
  done := by
    intro X hP hw hK hc i pins s σ H E I hf st hg
    subst hP hw hK
    obtain ⟨hlt, sq1, sq2⟩ := hg
    obtain ⟨its, rv, p, la⟩ := sq1.laid I
    obtain ⟨its2, rv2, p2, lb⟩ := sq2.laid I
    have e1 : its.toArray.size = xs.length := by rw [List.size_toArray]; exact rv.length.symm
    have e2 : its2.toArray.size = ys.length := by rw [List.size_toArray]; exact rv2.length.symm
    have hh : X.A.in1.handled = none := I.ok.hd hc
    have G := GoesN.zip2 (elts := elts) (x1 := kk) (pos := tpos) (A := X.A) S (drawsAt (prog := X.prog) (w := X.w) hh k1 i1 a ha its.toArray) (drawsAt (prog := X.prog) (w := X.w) hh k2 i2 b hb its2.toArray)
    obtain ⟨hz, hTI, hTO, h1, h2⟩ := st
    refine G.stops s (fun s1 => Inv X pins σ H s1) E (by rw [e1, e2, ← hlt]; exact ⟨hz, hTI, hTO, ⟨h1, p⟩, ⟨h2, p2⟩⟩) fun h' tk kp htk => ?_
    exact I.turnedL (t' := tk) (ch := [z, TO, i1, i2]) kp (fun c hc => hf c (by
      simp only [List.mem_cons, List.not_mem_nil, or_false] at hc ⊢
      rcases hc with z | z | z | z <;> simp [z]))
  self := fun A i s Q E st h => wpAny_pyIter_zip st.1 h
theorem walk_zipM {K : PySem.W.Frag} {k1 k2 : Bool} {a b : Addr} {xs ys : List V} : Walk (ItzM K k1 k2 a b xs ys) (min xs.length ys.length) (fun H => Sq k1 K H a xs ∧ Sq k2 K H b ys)
    (fun i H v H' => ∃ T x y, v = .ref T ∧ H T = none ∧ H' = upd H T (.tup [x, y]) ∧ xs[i]? = some x ∧ ys[i]? = some y) :=
  ⟨fun i H hi g => ⟨hi, g⟩, fun H g => ⟨rfl, g⟩, fun i H x H' hi g y => y⟩
def iZipM (K : PySem.W.Frag) (ta : TA) : TI := fun σ H R => ta σ H fun vs H1 => ∃ (k1 k2 : Bool) (a b : Addr) (xs ys : List V), vs = [.ref a, .ref b] ∧ Sq k1 K H1 a xs ∧ Sq k2 K H1 b ys ∧ R (ItzM K k1 k2 a b xs ys) H1
theorem pi_zipM {X : Cx} {e e2 : Expr} {ta : TA} {p pos tpos : Pos} {elts : List Expr} {kk : Nat} (hm : X.mg "zip" = none) (ha : PA X [e, e2] ta) (hg : Gl X "zip" := by rfl)
    (hs : starEach [e, e2] X.env = (false, eval e X.env) :: starEach [e2] X.env := by rfl) (hpl : (backTo pos (starEach [e2] X.env)).any (·.1) = false := by rfl) :
    PI X (.Tuple elts kk tpos) (.Call (.Name "zip" p) [e, e2] [] pos) (iZipM X.K ta) := by
  constructor
  intro pins s σ H R I h
  refine Call_ (ld_blt I hg hm PyProof.Rows.boot_zip (PyProof.Rows.callWith_type1 (thn (ha.run pos pins s σ H _ I h) fun us s1 hh => ?_) hs hpl))
  obtain ⟨vs, H1, I1, r1, k1, k2, a, b, xs, ys, rfl, sq1, sq2, q⟩ := hh
  cases r1 with | cons ra rr => cases rr with | cons rb rr => cases rr with | nil =>
  cases ra
  cases rb
  obtain ⟨its, rv, p1, la⟩ := sq1.laid I1
  obtain ⟨its2, rv2, p2, lb⟩ := sq2.laid I1
  refine zip_begins2 (begins (k := k1) (a := a) (its := its.toArray)) (begins (k := k2) (a := b) (its := its2.toArray)) p1 p2 fun h' hz hTI hTO h1 h2 hsz hk => wpAny_pyIter_zip hz ?_
  have I2 : Inv X pins σ H1 { s1 with heap := h' } := I1.kept (t' := s1.toks) hk
  have fr : ∀ c, c ∈ [s1.heap.objs.size + 4, s1.heap.objs.size + 2, s1.heap.objs.size + 3, s1.heap.objs.size, s1.heap.objs.size + 1] → FpOk X pins H1 c := fun c hc => by
    have hle : s1.heap.objs.size ≤ c := by
      simp only [List.mem_cons, List.not_mem_nil, or_false] at hc
      omega
    exact I1.fpOk hle (I1.hok.fresh hle)
  exact ⟨_, _, _, _, H1, rfl, I2, turn_zipM (zip_sep2 (fp1 := [a]) (fp2 := [b]) (fun c hc => by simp at hc; rw [hc]; exact la) (fun c hc => by simp at hc; rw [hc]; exact lb)) (Nat.ne_of_lt la) (Nat.ne_of_lt (Nat.lt_succ_of_lt lb)), ⟨hz, hTI, ⟨_, _, hTO⟩, begObj_iter h1, begObj_iter h2⟩, fr, q⟩

/-! ### enumerate -/
def IteM (K : PySem.W.Frag) (k : Bool) (a : Addr) (xs : List V) : It :=
  ⟨fun i H => i < xs.length ∧ Sq k K H a xs,
   fun i H v H' => ∃ T x, v = .ref T ∧ H T = none ∧ H' = upd H T (.tup [.int (i : Nat), x]) ∧ xs[i]? = some x,
   fun i H => i = xs.length ∧ Sq k K H a xs⟩
theorem turn_enumM {P : Program} {w : World} {K : PySem.W.Frag} {elts : List Expr} {kk : Nat} {tpos : Pos} {k : Bool} {a e it : Addr} {xs : List V} (hei : e ≠ it) (hea : e ≠ a) (ha : a ≠ it) :
    Turn P w K (.Tuple elts kk tpos) (IteM K k a xs) [e, it] e (fun i h => (∃ old, IsEnum h e it (0 + (i : Int)) old) ∧ IterAt k h it a i) where
  mem := List.mem_cons_self
  obj := fun i h ⟨⟨old, ho⟩, h1⟩ c hc => by
    simp only [List.mem_cons, List.not_mem_nil, or_false] at hc
    rcases hc with rfl | rfl
    · exact ⟨_, ho, fun v q => nomatch q⟩
    · exact h1.obj
  keep := fun i h h' ⟨⟨old, ho⟩, h1⟩ k => ⟨⟨old, k e (by simp) _ ho⟩, h1.at fun o q => k it (by simp) o q⟩
  item := by
    intro X hP hw hK hc i pins s σ H E I hf st hg
    subst hP hw hK
    obtain ⟨hlt, sq1⟩ := hg
    obtain ⟨its, rv, p, la⟩ := sq1.laid I
    have e1 : its.toArray.size = xs.length := by rw [List.size_toArray]; exact rv.length.symm
    have hh : X.A.in1.handled = none := I.ok.hd hc
    have G := GoesN.enumFrom (elts := elts) (x1 := kk) (pos := tpos) (A := X.A) 0 (drawsAt (prog := X.prog) (w := X.w) hh k it a ha its.toArray) e hei (by simp [hei, hea]) (by simp)
    obtain ⟨he, h1⟩ := st
    refine wpAny_mono (G.goes i s (fun v s2 => ∃ x H', Inv X pins σ H' s2 ∧ RelV x v ∧ (IteM X.K k a xs).yld i H x H' ∧ _ ∧ ∀ b ∈ [e, it], H' b = none) E (by rw [e1]; exact hlt) ⟨he, h1, p⟩ fun v h' tk Y st' kp htk => ?_) (fun r s1 ⟨u, e, q⟩ => ⟨u, e, q⟩) fun _ _ q => q
    obtain ⟨T, t, x, rfl, hT, hx, isT⟩ := Y
    obtain ⟨he', h1', _⟩ := st'
    have hx' : its[i]? = some x := by simpa using hx
    obtain ⟨u, hu, ru⟩ := rv.get (List.getElem?_eq_getElem hlt)
    rw [hx'] at hu; cases hu
    have hn : H T = none := I.hok.fresh hT
    have new : ObjOk X.prog X.w (upd H T (.tup [.int (i : Nat), xs[i]])) h' T (.tup [.int (i : Nat), xs[i]]) := ⟨by show 2 ≤ sizeLine; rw [sizeLine_eq]; decide, [_, x], .cons ⟨t, by rw [Int.zero_add]⟩ (.cons ru .nil), isT⟩
    have I1 := I.turnedNew (t' := tk) (ch := [e, it]) (T := T) (ob := .tup [.int (i : Nat), xs[i]]) (h' := h') kp hf hT new
    refine ⟨.ref T, _, I1, rfl, ⟨T, xs[i], rfl, hn, rfl, List.getElem?_eq_getElem hlt⟩, ⟨he', h1'⟩, fun c hc => ?_⟩
    have hlt : c < s.heap.objs.size := by
      simp only [List.mem_cons, List.not_mem_nil, or_false] at hc
      rcases hc with rfl | rfl
      · obtain ⟨_, e⟩ := he; exact Heap.lt_size e
      · obtain ⟨_, e, _⟩ := h1.obj; exact Heap.lt_size e
    rw [upd_ne (Nat.ne_of_lt (Nat.lt_of_lt_of_le hlt hT))]
    exact (hf c hc).1
  done := by
    intro X hP hw hK hc i pins s σ H E I hf st hg
    subst hP hw hK
    obtain ⟨hlt, sq1⟩ := hg
    obtain ⟨its, rv, p, la⟩ := sq1.laid I
    have e1 : its.toArray.size = xs.length := by rw [List.size_toArray]; exact rv.length.symm
    have hh : X.A.in1.handled = none := I.ok.hd hc
    have G := GoesN.enumFrom (elts := elts) (x1 := kk) (pos := tpos) (A := X.A) 0 (drawsAt (prog := X.prog) (w := X.w) hh k it a ha its.toArray) e hei (by simp [hei, hea]) (by simp)
    obtain ⟨he, h1⟩ := st
    refine G.stops s (fun s1 => Inv X pins σ H s1) E (by rw [e1, ← hlt]; exact ⟨he, h1, p⟩) fun h' tk kp htk => ?_
    exact I.turnedL (t' := tk) (ch := [e, it]) kp hf
  self := fun A i s Q E st h => by
    obtain ⟨⟨old, ho⟩, _⟩ := st
    exact wpAny_pyIter_enum ho h

set_option maxHeartbeats 1000000 in
/-- enumerate(v): the machine's part -/
theorem enum_new1 {v : Value} {o : Obj} {S : Heap → Prop} (B : Begins v o S) :
    Meets (Builtin.«enumerate.__new__» ⟨[.type "enumerate", v], []⟩) fun _ R s =>
      S s.heap ∧ R (.ok (.ret (.ref (s.heap.push o).objs.size))) { s with
        heap := (s.heap.push o).push { cls := .type "enumerate", data := .fields #[.none, .bool false, .ref s.heap.objs.size, rawInt 0, .none, .none] } } :=
  .of_wp fun prog w A R s hyp => by
    obtain ⟨hp, g, d, tk, os⟩ := s
    obtain ⟨here, hyp⟩ := hyp
    have sub := sub_enumerate
    have itr : ∀ {A' : Around} {E Q : Value → Shared → Prop}, Q (.ref hp.objs.size) ⟨hp.push o, g, d, tk, os⟩ →
        wpAny (model prog w) A' (pyIter v) Q E ⟨hp, g, d, tk, os⟩ := fun q => B.iter prog w _ _ _ _ here q
    wp_walk using itr
    refine wpAny_stack_any fun st => wpAny_pure ?_
    split
    · rename_i c _ _ _ _ _
      cases c == Value.type "enumerate" <;> (wp_walk using itr; exact ⟨_, rfl, hyp⟩)
    · wp_walk using itr
      exact ⟨_, rfl, hyp⟩
theorem enum_call1 {prog : Program} {w : World} {A : Around} {E : Value → Shared → Prop} {s : Shared} {v : Value} {o : Obj} {S : Heap → Prop} {Q : Value → Shared → Prop} (B : Begins v o S) (here : S s.heap)
    (k : ∀ h', IsEnum h' (s.heap.objs.size + 1) s.heap.objs.size 0 .none → h'.get? s.heap.objs.size = some o → (∀ b u, s.heap.get? b = some u → h'.get? b = some u) → Q (.ref (s.heap.objs.size + 1)) { s with heap := h' }) :
    wpAny (model prog w) A (call (.type "enumerate") [v]) Q E s := by
  have sz : (s.heap.push o).objs.size = s.heap.objs.size + 1 := Heap.size_push ..
  have lies : IsEnum ((s.heap.push o).push { cls := .type "enumerate", data := .fields #[.none, .bool false, .ref s.heap.objs.size, rawInt 0, .none, .none] })
      (s.heap.objs.size + 1) s.heap.objs.size 0 .none := by
    have q := Heap.get?_push_size (s.heap.push o) (o := ({ cls := .type "enumerate", data := .fields #[.none, .bool false, .ref s.heap.objs.size, rawInt 0, .none, .none] } : Obj)) rfl
    rw [sz] at q
    exact q
  refine callType_new F.called_enumerate (by decide) (F.typeCall_enumerate_1 _) (F.newCall_enumerate_1 _)
    (fun obj => F.args_object_init_2 obj _) F.entry_enumerate_new (enum_new1 B) ⟨here, ?_⟩
  show _ ∧ _
  rw [sz]
  exact ⟨⟨_, lies, rfl⟩, k _ lies (Heap.get?_push_of_some _ (Heap.get?_push_size _ B.free)) fun b u x => Heap.get?_push_of_some _ (Heap.get?_push_of_some _ x)⟩
def iEnumM (K : PySem.W.Frag) (ta : TA) : TI := fun σ H R => ta σ H fun vs H1 => ∃ (k : Bool) (a : Addr) (xs : List V), vs = [.ref a] ∧ Sq k K H1 a xs ∧ R (IteM K k a xs) H1
theorem pi_enumM {X : Cx} {e : Expr} {ta : TA} {p pos tpos : Pos} {elts : List Expr} {kk : Nat} (hm : X.mg "enumerate" = none) (ha : PA X [e] ta) (hg : Gl X "enumerate" := by rfl)
    (hs : starEach [e] X.env = (false, eval e X.env) :: starEach [] X.env := by rfl) (hpl : (backTo pos (starEach [] X.env)).any (·.1) = false := by rfl) :
    PI X (.Tuple elts kk tpos) (.Call (.Name "enumerate" p) [e] [] pos) (iEnumM X.K ta) := by
  constructor
  intro pins s σ H R I h
  refine Call_ (ld_blt I hg hm PyProof.Rows.boot_enumerate (PyProof.Rows.callWith_type1 (thn (ha.run pos pins s σ H _ I h) fun us s1 hh => ?_) hs hpl))
  obtain ⟨vs, H1, I1, r1, k, a, xs, rfl, sq, q⟩ := hh
  cases r1 with | cons ra rr => cases rr with | nil =>
  cases ra
  obtain ⟨its, rv, p1, la⟩ := sq.laid I1
  refine enum_call1 (begins (k := k) (a := a) (its := its.toArray)) p1 fun h' he h1 hk => wpAny_pyIter_enum he ?_
  have I2 : Inv X pins σ H1 { s1 with heap := h' } := I1.kept (t' := s1.toks) hk
  have fr : ∀ c, c ∈ [s1.heap.objs.size + 1, s1.heap.objs.size] → FpOk X pins H1 c := fun c hc => by
    have hle : s1.heap.objs.size ≤ c := by
      simp only [List.mem_cons, List.not_mem_nil, or_false] at hc
      omega
    exact I1.fpOk hle (I1.hok.fresh hle)
  exact ⟨_, _, _, _, H1, rfl, I2, turn_enumM (Nat.succ_ne_self _) (Ne.symm (Nat.ne_of_lt (Nat.lt_succ_of_lt la))) (Nat.ne_of_lt la), ⟨⟨_, he⟩, begObj_iter h1⟩, fr, q⟩
theorem walk_enumM {K : PySem.W.Frag} {k : Bool} {a : Addr} {xs : List V} : Walk (IteM K k a xs) xs.length (fun H => Sq k K H a xs) (fun i H v H' => ∃ T x, v = .ref T ∧ H T = none ∧ H' = upd H T (.tup [.int (i : Nat), x]) ∧ xs[i]? = some x) :=
  ⟨fun i H hi g => ⟨hi, g⟩, fun H g => ⟨rfl, g⟩, fun i H x H' hi g y => y⟩
end DL

set_option Elab.async false
set_option linter.all false
set_option maxRecDepth 100000
set_option maxHeartbeats 2000000
namespace DL
open PySem PySem.SeqAt PySem.Spec PyProof.Rows L2
section
variable {X : Cx} {W : WX} {tg e a b : Expr} {fe : EM} {fa : IM} {pos p tpos : Pos} {elts : List Expr} {kk : Nat} {s : Bool} {R : RK}
theorem stay_s {c : Cf} {A : Addr → Prop} {H H0 : Hp} {v : V} {d : D} {l : List D} (hR : RSt s R) (np : ¬ A c.p) (h : R c A H0 H v d) (e : itemsD d = some l) : ∃ k a vs, v = .ref a ∧ (∀ H1, Ks s c.p A H H1 → Sq k c.K H1 a vs) ∧ RepL c A H vs l := by
  cases d <;> first | cases e | skip
  · obtain ⟨a, vs, e, h1, h2⟩ := stay_t hR h (.inl rfl); exact ⟨false, a, vs, e, h1, h2⟩
  · obtain ⟨a, vs, e, h1, h2⟩ := stay_t hR h (.inr rfl); exact ⟨false, a, vs, e, h1, h2⟩
  · obtain ⟨a, vs, e, h1, h2⟩ := stay_l hR np h; exact ⟨true, a, vs, e, h1, h2⟩
theorem Ks.refl {p : Addr} {A : Addr → Prop} {H : Hp} : Ks s p A H H := by
  unfold Ks; split <;> first | exact fun _ _ _ _ _ h => h | exact .refl
def pairs (l1 l2 : List D) : List D := List.zipWith (fun x y => .tup [x, y]) l1 l2
def iZip (fa : IM) : IM := fun r w => match fa r w with
  | .ok [d1, d2] w' => match itemsD d1, itemsD d2 with
    | some l1, some l2 => .ok (pairs l1 l2) w'
    | _, _ => .bad
  | .exc n fs w' => .exc n fs w'
  | _ => .bad
def enumL : Nat → List D → List D
  | _, [] => []
  | i, d :: l => .tup [.int i, d] :: enumL (i + 1) l
def iEnum (fa : IM) : IM := fun r w => match fa r w with
  | .ok [d1] w' => match itemsD d1 with
    | some l1 => .ok (enumL 0 l1) w'
    | _ => .bad
  | .exc n fs w' => .exc n fs w'
  | _ => .bad
theorem enumL_at : ∀ (l : List D) (k i : Nat), (enumL k l)[i]? = (l[i]?).map fun d => .tup [.int ((k + i : Nat)), d]
  | [], k, i => by simp [enumL]
  | d :: l, k, 0 => by simp [enumL]
  | d :: l, k, i + 1 => by
    simp only [enumL, List.getElem?_cons_succ]
    rw [enumL_at l (k + 1) i]
    have : k + 1 + i = k + (i + 1) := by omega
    rw [this]
theorem enumL_len : ∀ (l : List D) (k : Nat), (enumL k l).length = l.length
  | [], _ => rfl
  | _ :: l, k => by simp [enumL, enumL_len l]
abbrev YZip (xs ys : List V) : Nat → Hp → V → Hp → Prop := fun i H v H' => ∃ T x y, v = .ref T ∧ H T = none ∧ H' = upd H T (.tup [x, y]) ∧ xs[i]? = some x ∧ ys[i]? = some y
abbrev YEnu (xs : List V) : Nat → Hp → V → Hp → Prop := fun i H v H' => ∃ T x, v = .ref T ∧ H T = none ∧ H' = upd H T (.tup [.int (i : Nat), x]) ∧ xs[i]? = some x
/-- for a, b in zip(x, y) -/
theorem vi_zip (hR : RSt s R) (hm : X.mg "zip" = none) (ha : VA X R W [a, b] fa) (hg : Gl X "zip" := by rfl) (hs : starEach [a, b] X.env = (false, eval a X.env) :: starEach [b] X.env := by rfl) (hpl : (backTo pos (starEach [b] X.env)).any (·.1) = false := by rfl) :
    VI X s W (.Tuple elts kk tpos) (.Call (.Name "zip" p) [a, b] [] pos) (iZip fa) := weakI (pi_zipM hm ha hg hs hpl) fun σ H R0 ⟨B, A, r, w, hs, hp, q⟩ => by
  refine ⟨B, A, r, w, hs, hp, ?_⟩
  unfold iZip at q
  split at q
  · rename_i d1 d2 w' z
    rw [z]
    split at q
    · rename_i l1 l2 e1 e2
      intro vs H1 k1 p1 r1
      cases r1 with | @cons v1 _ _ _ h1 t => cases t with | @cons v2 _ _ _ h2 t => cases t with | nil =>
      obtain ⟨ka, a1, vs1, rfl, s1, rl1⟩ := stay_s hR hs.np h1 e1
      obtain ⟨kb, a2, vs2, rfl, s2, rl2⟩ := stay_s hR hs.np h2 e2
      refine ⟨ka, kb, a1, a2, vs1, vs2, rfl, s1 _ Ks.refl, s2 _ Ks.refl, q _ H1 k1 p1 ⟨fun H => Sq ka X.K H a1 vs1 ∧ Sq kb X.K H a2 vs2, YZip vs1 vs2, ?_, fun H2 k => ⟨s1 H2 k, s2 H2 k⟩, fun i H2 x H3 hi k y => ?_⟩⟩
      · have : (pairs l1 l2).length = min vs1.length vs2.length := by rw [rl1.len, rl2.len]; exact List.length_zipWith
        rw [this]
        exact walk_zipM
      · obtain ⟨T, x1, x2, rfl, hT, rfl, g1, g2⟩ := y
        obtain ⟨dx, hx1, hx2⟩ := rl1.at g1
        obtain ⟨dy, hy1, hy2⟩ := rl2.at g2
        refine ⟨same_new hT, .tup [dx, dy], ?_, fun A' up fr => ?_⟩
        · show (List.zipWith _ l1 l2)[i]? = _
          rw [List.getElem?_zipWith, hx1, hy1]
        · exact .tup upd_same (fr.n T hT).1 (fr.n T hT).2 (.cons ((hx2.on k.a up).keepA (Kp.a (.of (same_new hT)))) (.cons ((hy2.on k.a up).keepA (Kp.a (.of (same_new hT)))) .nil))
    · exact q.elim
  · rename_i n fs w' z
    rw [z]
    exact q
  · exact q.elim
/-- for i, x in enumerate(y) -/
theorem vi_enum (hR : RSt s R) (hm : X.mg "enumerate" = none) (ha : VA X R W [a] fa) (hg : Gl X "enumerate" := by rfl) (hs : starEach [a] X.env = (false, eval a X.env) :: starEach [] X.env := by rfl) (hpl : (backTo pos (starEach [] X.env)).any (·.1) = false := by rfl) :
    VI X s W (.Tuple elts kk tpos) (.Call (.Name "enumerate" p) [a] [] pos) (iEnum fa) := weakI (pi_enumM hm ha hg hs hpl) fun σ H R0 ⟨B, A, r, w, hs, hp, q⟩ => by
  refine ⟨B, A, r, w, hs, hp, ?_⟩
  unfold iEnum at q
  split at q
  · rename_i d1 w' z
    rw [z]
    split at q
    · rename_i l1 e1
      intro vs H1 k1 p1 r1
      cases r1 with | @cons v1 _ _ _ h1 t => cases t with | nil =>
      obtain ⟨ka, a1, vs1, rfl, s1, rl1⟩ := stay_s hR hs.np h1 e1
      refine ⟨ka, a1, vs1, rfl, s1 _ Ks.refl, q _ H1 k1 p1 ⟨fun H => Sq ka X.K H a1 vs1, YEnu vs1, ?_, fun H2 k => s1 H2 k, fun i H2 x H3 hi k y => ?_⟩⟩
      · rw [enumL_len, ← rl1.len]
        exact walk_enumM
      · obtain ⟨T, x1, rfl, hT, rfl, g1⟩ := y
        obtain ⟨dx, hx1, hx2⟩ := rl1.at g1
        refine ⟨same_new hT, .tup [.int i, dx], ?_, fun A' up fr => ?_⟩
        · rw [enumL_at, hx1, Nat.zero_add]; rfl
        · exact .tup upd_same (fr.n T hT).1 (fr.n T hT).2 (.cons (.int _) (.cons ((hx2.on k.a up).keepA (Kp.a (.of (same_new hT)))) .nil))
    · exact q.elim
  · rename_i n fs w' z
    rw [z]
    exact q
  · exact q.elim
def rangeL (lo : Int) (n : Nat) : List D := (List.range n).map fun (i : Nat) => .int (lo + i)
def iRange1 (fa : IM) : IM := fun r w => match fa r w with
  | .ok [.int j] w' => if -(2 ^ 62) ≤ j ∧ j < 2 ^ 62 then .ok (rangeL 0 j.toNat) w' else .bad
  | .exc n fs w' => .exc n fs w'
  | _ => .bad
def iRange2 (fa : IM) : IM := fun r w => match fa r w with
  | .ok [.int i, .int j] w' => if -(2 ^ 62) ≤ i ∧ i < 2 ^ 62 ∧ -(2 ^ 62) ≤ j ∧ j < 2 ^ 62 then .ok (rangeL i (j - i).toNat) w' else .bad
  | .exc n fs w' => .exc n fs w'
  | _ => .bad
theorem walks_range {c : Cf} {A : Addr → Prop} {H : Hp} {lo : Int} {n : Nat} : Walks s c A H (Itr lo n) (rangeL lo n) := by
  refine ⟨fun _ => True, YFn fun i => .int (lo + i), ?_, fun _ _ => trivial, fun i H1 x H2 hi k y => ?_⟩
  · have : (rangeL lo n).length = n := by simp [rangeL]
    rw [this]; exact walk_range
  · obtain ⟨rfl, rfl⟩ := y
    refine ⟨Same.refl _, .int (lo + i), ?_, fun A' _ _ => .int _⟩
    have : i < n := by simpa [rangeL] using hi
    simp [rangeL, this]
/-- for i in range(n) -/
theorem vi_range1 (hm : X.mg "range" = none) (ha : VA X rO W [a] fa) (hg : Gl X "range" := by rfl) (hs : starEach [a] X.env = [(false, eval a X.env)] := by rfl) : VI X s W tg (.Call (.Name "range" p) [a] [] pos) (iRange1 fa) := weakI (pi_range1 hg hm ha hs) fun σ H R0 ⟨B, A, r, w, hs, hp, q⟩ => by
  refine ⟨B, A, r, w, hs, hp, ?_⟩
  unfold iRange1 at q
  split at q
  · rename_i j w' z
    rw [z]
    split at q
    · rename_i hj
      intro vs H1 k1 p1 r1
      cases r1 with | cons h1 t => cases t with | nil =>
      have := h1.int; subst this
      exact ⟨j, rfl, hj.1, hj.2, q _ H1 k1 p1 walks_range⟩
    · exact q.elim
  · rename_i n fs w' z
    rw [z]
    exact q
  · exact q.elim
theorem vi_range2 (hm : X.mg "range" = none) (ha : VA X rO W [a, b] fa) (hg : Gl X "range" := by rfl) (hs : starEach [a, b] X.env = [(false, eval a X.env), (false, eval b X.env)] := by rfl) (hs2 : starEach [b] X.env = [(false, eval b X.env)] := by rfl) : VI X s W tg (.Call (.Name "range" p) [a, b] [] pos) (iRange2 fa) := weakI (pi_range2 hg hm ha hs hs2) fun σ H R0 ⟨B, A, r, w, hs, hp, q⟩ => by
  refine ⟨B, A, r, w, hs, hp, ?_⟩
  unfold iRange2 at q
  split at q
  · rename_i i j w' z
    rw [z]
    split at q
    · rename_i hj
      intro vs H1 k1 p1 r1
      cases r1 with | cons h1 t => cases t with | cons h2 t => cases t with | nil =>
      have := h1.int; subst this
      have := h2.int; subst this
      exact ⟨i, j, rfl, hj, q _ H1 k1 p1 walks_range⟩
    · exact q.elim
  · rename_i n fs w' z
    rw [z]
    exact q
  · exact q.elim
end
end DL

set_option Elab.async false
set_option linter.all false
set_option maxRecDepth 100000
set_option maxHeartbeats 2000000
namespace DL
open PySem PySem.SeqAt PySem.Spec PyProof.Rows L2

/-! ### a slot takes an owned object -/
section
variable {K : PySem.W.Frag} {mg : Str → Option Value} {B : Bs} {A : Addr → Prop} {σ : L2.St} {H : Hp} {r : Env}
theorem StOk.take (h : StOk K mg B A σ H r) {i : Nat} {a : Addr} {d : D} (hA : A a) (h0 : Fr B.H0 a) (hv : OwnR (B.cf K mg) A H a d) (no : ∀ (j : Nat) (e : D), r[j]? = some (some (e, true)) → σ[j]? = some (some (.ref a)) → j = i) : StOk K mg B A (σ.set i (some (.ref a))) H (r.set i (some (d, true))) := by
  refine ⟨h.kp, h.tp, h.tr, h.a0, h.t0, h.ax, h.np, fun j e q => ?_, fun j e q => ?_, fun j m d1 d2 b q1 q2 s1 s2 => ?_, by rw [List.length_set, List.length_set]; exact h.ln, h.tq⟩
  · rcases set_at q with ⟨rfl, z⟩ | ⟨n, z⟩
    · cases z
    · obtain ⟨u, h1, h2⟩ := h.pl j e z
      exact ⟨u, by rw [List.getElem?_set_ne (Ne.symm n)]; exact h1, h2⟩
  · rcases set_at q with ⟨rfl, z⟩ | ⟨n, z⟩
    · cases z
      have hl : j < σ.length := by rw [← h.ln]; have := (List.getElem?_eq_some_iff.mp q).1; simpa using this
      exact ⟨a, by rw [List.getElem?_set_self hl], hA, h0, hv⟩
    · obtain ⟨b, h1, h2⟩ := h.ow j e z
      exact ⟨b, by rw [List.getElem?_set_ne (Ne.symm n)]; exact h1, h2⟩
  · rcases set_at q1 with ⟨rfl, z⟩ | ⟨n, z⟩
    · rcases set_at q2 with ⟨rfl, z2⟩ | ⟨n2, z2⟩
      · rfl
      · rw [List.getElem?_set_ne (Ne.symm n2)] at s2
        have hl : j < σ.length := by rw [← h.ln]; have := (List.getElem?_eq_some_iff.mp q1).1; simpa using this
        rw [List.getElem?_set_self hl] at s1
        cases s1
        exact (no m d2 z2 s2).symm
    · rcases set_at q2 with ⟨rfl, z2⟩ | ⟨n2, z2⟩
      · rw [List.getElem?_set_ne (Ne.symm n)] at s1
        have hl : m < σ.length := by rw [← h.ln]; have := (List.getElem?_eq_some_iff.mp q2).1; simpa using this
        rw [List.getElem?_set_self hl] at s2
        cases s2
        exact no j d1 z s1
      · rw [List.getElem?_set_ne (Ne.symm n)] at s1
        rw [List.getElem?_set_ne (Ne.symm n2)] at s2
        exact h.ne j m d1 d2 b z z2 s1 s2
theorem StOk.notOwn (h : StOk K mg B A σ H r) {a : Addr} (n : ¬ A a) : ∀ (j : Nat) (e : D), r[j]? = some (some (e, true)) → σ[j]? ≠ some (some (.ref a)) := fun j e q s => by
  obtain ⟨b, h1, h2, _⟩ := h.ow j e q
  rw [s] at h1; cases h1
  exact n h2
end
section
variable {X : Cx} {W : WX} {R : RK} {a b e : Expr} {es : List Expr} {fa fb fe : EM} {pos p : Pos}

/-! ### x, y = a, b into two local names -/
/-- a value comes into a slot: owned where it is new -/
def RKind (o : Bool) : RK := if o then rF else rE
def sPar (i j : Nat) (caps : List Nat) (o1 o2 : Bool) (fa fb : EM) : SM := fun r w => (fa (rel (these caps) r) w).en (rel (these caps) r) fun d1 w1 => (fb (rel (these caps) r) w1).en (rel (these caps) r) fun d2 w2 => .nx (((rel (these caps) r).set i (some (d1, o1))).set j (some (d2, o2))) w2
theorem par_set {K : PySem.W.Frag} {mg : Str → Option Value} {B : Bs} {A : Addr → Prop} {σ : L2.St} {H0 H : Hp} {r : Env} {i : Nat} {v : V} {d : D} {o : Bool} {w0 w : Wd} (hs : StOk K mg B A σ H0 r) (k : Kp B.p H0 H) (hv : RKind o (B.cf K mg) A H0 H v d) (p0 : PenAt B.p B.lc A H0 w0) (p1 : PenAt B.p B.lc A H w) :
    ∃ A', (∀ b, A b → A' b) ∧ (∀ b, A' b → A b ∨ Fr H0 b) ∧ StOk K mg B A' (σ.set i (some v)) H (r.set i (some (d, o))) ∧ PenAt B.p B.lc A' H w ∧ (o = true → ∃ a, v = .ref a ∧ Fr H0 a) := by
  cases o with
  | true =>
    obtain ⟨a, rfl, hn, ho⟩ := hv
    exact ⟨_, fun b => .inl, fun b q => q.elim .inl fun e => .inr (by rw [e]; exact hn), hs.setO k hn ho, p1.more hn k ⟨w0, p0⟩, fun _ => ⟨a, rfl, hn⟩⟩
  | false => exact ⟨A, fun b q => q, fun b q => .inl q, (hs.keep k).set hv, p1, fun z => by cases z⟩
theorem vs_par {i j : Nat} {x y : Str} {px py pt : Pos} {kt k2 pt2} (caps : List Nat) (o1 o2 : Bool) (hc : X.calm = true) (hN : X.N.Nodup) (hij : i ≠ j) (hx : X.env.scope.names.lookup x = some .local) (hy : X.env.scope.names.lookup y = some .local)
    (ha : VE X (RKind o1) W a fa) (hb : VE X (RKind o2) W b fb) (hi : X.N[i]? = some x := by rfl) (hj : X.N[j]? = some y := by rfl) (hw : swappedStores [.Tuple [.Name x px, .Name y py] kt pt] (.Tuple [a, b] k2 pt2) X.env = pure (some [x, y]) := by rfl) (hsw : swapsWithSole [.Tuple [.Name x px, .Name y py] kt pt] (.Tuple [a, b] k2 pt2) pos.line X.env = pure false := by rfl)
    (hs1 : starEach [a, b] X.env = (false, eval a X.env) :: starEach [b] X.env := by rfl) (hs2 : starEach [b] X.env = (false, eval b X.env) :: starEach [] X.env := by rfl) :
    VS X W (.Assign [.Tuple [.Name x px, .Name y py] kt pt] (.Tuple [a, b] k2 pt2) pos) (sPar i j caps o1 o2 fa fb) := weakS (ps_par hc hN hi hj hij hx hy (pa_cons ha (pa_cons hb pa_nil hs2) hs1) hw hsw) fun D σ H ⟨B, A, r, w, hs, hp, q⟩ => by
  have hs1 := hs.rel (these caps)
  have hp1 : PenAt B.p B.lc (fun a => A a ∧ ¬ OwnBy (these caps) σ r a) H w := hp.less fun a z => .inl z.1
  generalize hr0 : rel (these caps) r = r0 at hs1 q
  have q : PostS X.K X.mg B W D ((fa r0 w).en r0 fun d1 w1 => (fb r0 w1).en r0 fun d2 w2 => .nx ((r0.set i (some (d1, o1))).set j (some (d2, o2))) w2) := by
    have : PostS X.K X.mg B W D (sPar i j caps o1 o2 fa fb r w) := by assumption
    unfold sPar at this
    rw [hr0] at this
    exact this
  generalize (fun a => A a ∧ ¬ OwnBy (these caps) σ r a) = A1 at hs1 hp1
  refine ⟨B, A1, r0, w, hs1, hp1, PostS.en hs1 q fun d1 w1 v1 H1 k1 p1 r1 q => ?_⟩
  cases o1 with
  | false =>
    refine ⟨B, A1, r0, w1, hs1.keep k1, p1, PostS.en (hs1.keep k1) q fun d2 w2 v2 H2 kk2 p2 r2 q => ?_⟩
    obtain ⟨A', _, dn, st, pp, _⟩ := par_set (i := j) (hs1.keep k1) kk2 r2 p1 p2
    have r1' : Rep (B.cf X.K X.mg) A' H2 v1 d1 := (Rep.to dn r1).keepA (Kp.a kk2)
    refine ⟨v1, v2, rfl, q _ H2 A' ?_ pp⟩
    have := st.set (i := i) r1'
    rw [List.set_comm _ _ hij, List.set_comm _ _ hij]
    exact this
  | true =>
    obtain ⟨a1, rfl, hn1, ho1⟩ := r1
    have hsA := hs1.side hn1 k1 ho1.some
    have pA := p1.more hn1 k1 ⟨w, hp1⟩
    refine ⟨B, _, r0, w1, hsA, pA, PostS.en hsA q fun d2 w2 v2 H2 kk2 p2 r2 q => ?_⟩
    obtain ⟨A', ups, dn, st, pp, fr⟩ := par_set (i := j) hsA kk2 r2 pA p2
    obtain ⟨o1, t1⟩ := ho1.some
    have nap : a1 ≠ B.p := (hs1.freshF hn1).2
    have up : A' a1 := ups a1 (.inr rfl)
    have ho2 : OwnR (B.cf X.K X.mg) A' H2 a1 d1 := (ho1.to dn).keepA (Kp.a kk2) fun o m z => kk2.k a1 o nap m z
    refine ⟨.ref a1, v2, rfl, q _ H2 A' ?_ pp⟩
    have := st.take (i := i) up (hs1.kp.free hn1) ho2 fun m e e1 e2 => ?_
    · rw [List.set_comm _ _ hij, List.set_comm _ _ hij]
      exact this
    · exfalso
      rcases set_at e1 with ⟨rfl, z⟩ | ⟨n, z⟩
      · have hl : m < σ.length := by rw [← hsA.ln]; have := (List.getElem?_eq_some_iff.mp e1).1; simpa using this
        rw [List.getElem?_set_self hl] at e2
        cases e2
        cases z
        obtain ⟨a2, e3, n2⟩ := fr rfl
        cases e3
        exact n2 _ t1.1 t1.2.nt
      · rw [List.getElem?_set_ne (Ne.symm n)] at e2
        exact hs1.notOwn (hs1.freshF hn1).1 m e z e2

/-! ### list + list, list * n -/
def catD : D → D → Option D
  | .lst a, .lst b => if a.length + b.length ≤ sizeLine then some (.lst (a ++ b)) else none
  | _, _ => none
theorem RepL.append {c : Cf} {A : Addr → Prop} {H : Hp} : ∀ {vs ws : List V} {ds es : List D}, RepL c A H vs ds → RepL c A H ws es → RepL c A H (vs ++ ws) (ds ++ es)
  | _, _, _, _, .nil, h => h
  | _, _, _, _, .cons h r, q => .cons h (RepL.append r q)
theorem of_cat : OpD X rF (binaryOp .Add) catD := fun pins s σ H x y v u Q I rx ry ⟨B, A, dx, dy, d, fr, h1, h2, e, q⟩ => by
  unfold catD at e
  split at e
  · split at e
    · cases e
      obtain ⟨a, vs, rfl, g1, l1⟩ := h1.lst
      obtain ⟨b, ws, rfl, g2, l2⟩ := h2.lst
      exact op_cat pins s σ H _ _ v u Q I rx ry ⟨a, b, vs, ws, rfl, rfl, g1, g2, by rw [l1.len, l2.len]; assumption, fun t ht => q _ _ (same_new ht) (new_lst (l1.append l2) ht)⟩
    · cases e
  · cases e
/-- a + b: numbers, texts, lists, tuples -/
def plusD : D → D → Option D
  | .int i, .int j => some (.int (i + j))
  | .str x, .str y => if x.length + y.length ≤ sizeLine then some (.str (x ++ y)) else none
  | .lst a, .lst b => if a.length + b.length ≤ sizeLine then some (.lst (a ++ b)) else none
  | .tup a, .tup b => if a.length + b.length ≤ sizeLine then some (.tup (a ++ b)) else none
  | _, _ => none
theorem od_plus : OpD X rE (binaryOp .Add) plusD := fun pins s σ H x y v u Q I rx ry ⟨B, A, dx, dy, d, fr, h1, h2, e, q⟩ => by
  unfold plusD at e
  split at e
  · exact od_add pins s σ H x y v u Q I rx ry ⟨B, A, _, _, d, fr, h1, h2, e, q⟩
  · exact od_add pins s σ H x y v u Q I rx ry ⟨B, A, _, _, d, fr, h1, h2, e, q⟩
  · split at e
    · cases e
      obtain ⟨a, vs, rfl, g1, l1⟩ := h1.lst
      obtain ⟨b, ws, rfl, g2, l2⟩ := h2.lst
      exact op_cat pins s σ H _ _ v u Q I rx ry ⟨a, b, vs, ws, rfl, rfl, g1, g2, by rw [l1.len, l2.len]; assumption, fun t ht => q _ _ (same_new ht) (new_lstE fr (l1.append l2) ht)⟩
    · cases e
  · split at e
    · cases e
      obtain ⟨a, vs, e1, g1, l1⟩ := h1.tup
      obtain ⟨b, ws, e2, g2, l2⟩ := h2.tup
      have e1' := e1
      have e2' := e2
      subst e1' e2'
      refine op_catA pins s σ H _ _ v u Q I rx ry ⟨a, b, vs, ws, rfl, rfl, SqT.of g1, SqT.of g2, by rw [l1.len, l2.len]; assumption, fun z => ?_, fun _ z => ?_, fun _ _ t ht => q _ _ (same_new ht) (new_tup fr (l1.append l2) ht)⟩
      · subst z
        cases l1
        rcases h2 with h2 | ⟨_, _, _, h2⟩
        · exact q _ H (Same.refl H) h2
        · exact h2.elim
      · subst z
        cases l2
        rw [List.append_nil] at q
        rcases h1 with h1 | ⟨_, _, _, h1⟩
        · exact q _ H (Same.refl H) h1
        · exact h1.elim
    · cases e
  · cases e
def repL (k : Int) (l : List D) : List D := (List.replicate k.toNat l).flatten
theorem RepL.rep {c : Cf} {A : Addr → Prop} {H : Hp} {vs : List V} {ds : List D} (h : RepL c A H vs ds) : ∀ n : Nat, RepL c A H (List.replicate n vs).flatten (List.replicate n ds).flatten
  | 0 => .nil
  | n + 1 => by
    rw [List.replicate_succ, List.replicate_succ, List.flatten_cons, List.flatten_cons]
    exact h.append (RepL.rep h n)
def lmulD : D → D → Option D
  | .lst l, .int k => if -(2 ^ 63) ≤ k ∧ k < 2 ^ 63 ∧ l.length * k.toNat ≤ sizeLine then some (.lst (repL k l)) else none
  | _, _ => none
theorem of_rep : OpD X rF (binaryOp .Mult) lmulD := fun pins s σ H x y v u Q I rx ry ⟨B, A, dx, dy, d, fr, h1, h2, e, q⟩ => by
  unfold lmulD at e
  split at e
  · split at e
    · rename_i hk
      cases e
      obtain ⟨a, vs, rfl, g1, l1⟩ := h1.lst
      have := h2.int; subst this
      exact op_rep pins s σ H _ _ v u Q I rx ry ⟨a, _, vs, rfl, rfl, g1, hk.1, hk.2.1, by rw [l1.len]; exact hk.2.2, fun t ht => q _ _ (same_new ht) (new_lst (l1.rep _) ht)⟩
    · cases e
  · cases e
/-- a * b: numbers, a list or a tuple by a number -/
def timesD : D → D → Option D
  | .int i, .int j => if IntMulOk i j then some (.int (i * j)) else none
  | .lst l, .int k => if -(2 ^ 63) ≤ k ∧ k < 2 ^ 63 ∧ l.length * k.toNat ≤ sizeLine then some (.lst (repL k l)) else none
  | .tup l, .int k => if l ≠ [] ∧ 2 ≤ k ∧ k ≤ 1000 ∧ l.length ≤ 1000 then some (.tup (repL k l)) else none
  | _, _ => none
instance {l : List D} : Decidable (l ≠ []) := match l with
  | [] => isFalse fun h => h rfl
  | _ :: _ => isTrue fun h => nomatch h
theorem od_times : OpD X rE (binaryOp .Mult) timesD := fun pins s σ H x y v u Q I rx ry ⟨B, A, dx, dy, d, fr, h1, h2, e, q⟩ => by
  unfold timesD at e
  split at e
  · split at e
    · cases e
      exact op_mulG pins s σ H x y v u Q I rx ry ⟨_, _, h1.int, h2.int, by assumption, q _ H (Same.refl H) (.int _)⟩
    · cases e
  · split at e
    · rename_i hk
      cases e
      obtain ⟨a, vs, rfl, g1, l1⟩ := h1.lst
      have := h2.int; subst this
      exact op_rep pins s σ H _ _ v u Q I rx ry ⟨a, _, vs, rfl, rfl, g1, hk.1, hk.2.1, by rw [l1.len]; exact hk.2.2, fun t ht => q _ _ (same_new ht) (new_lstE fr (l1.rep _) ht)⟩
    · cases e
  · split at e
    · rename_i hk
      cases e
      obtain ⟨a, vs, rfl, g1, l1⟩ := h1.tup
      have := h2.int; subst this
      exact op_repT pins s σ H _ _ v u Q I rx ry ⟨a, _, vs, rfl, rfl, SqT.of g1, fun z => hk.1 (by subst z; cases l1; rfl), hk.2.1, hk.2.2.1, by rw [l1.len]; exact hk.2.2.2, fun t ht => q _ _ (same_new ht) (new_tup fr (l1.rep _) ht)⟩
    · cases e
  · cases e

/-! ### owned lists are written -/
/-- the owned list in slot i -/
def ownL (i : Nat) (r : Env) : Option (List D) := match r[i]? with
  | some (some (.lst l, true)) => some l
  | _ => none
theorem ownL_at {i : Nat} {r : Env} {l : List D} (h : ownL i r = some l) : r[i]? = some (some (.lst l, true)) := by
  unfold ownL at h
  split at h
  · cases h; assumption
  · cases h
/-- x.append(e) -/
def sApp (i : Nat) (caps : List Nat) (fe : EM) : SM := fun r w => match ownL i (rel (these caps) r) with
  | none => .bad
  | some l => (fe (rel (these caps) r) w).en (rel (these caps) r) fun d w' => if l.length < sizeLine then .nx ((rel (these caps) r).set i (some (.lst (l ++ [d]), true))) w' else .bad
theorem vs_app {i : Nat} {x : Str} {apos cpos : Pos} (caps : List Nat) (he : VE X rE W e fe) (hN : X.N[i]? = some x := by rfl) (hv : Vis X.env.scope x := by first | exact Or.inl rfl | exact Or.inr (Or.inl rfl) | exact Or.inr (Or.inr rfl)) (hd : (x == ("__debug__" : Str)) = false := by decide) (hcd : (x == ("__classdict__" : Str)) = false := by decide)
    (hbase : attributeBase (.Name x p) "append" X.env (eval (.Name x p) X.env) = eval (.Name x p) X.env := by rfl)
    (hfew : ((backTo cpos (starEach [e] X.env)).all (fun x => !x.1) && (backToKw cpos (keywordEach [] X.env)).all (fun x => x.1.isSome)
      && decide (([e] : List Expr).length + ([] : List Keyword).length + (if ([] : List Keyword).isEmpty then 0 else 1) < 30)) = true := by rfl)
    (hline : (apos.endLine == cpos.line) = true := by rfl) (hs : starEach [e] X.env = (false, eval e X.env) :: starEach [] X.env := by rfl) (hplain : (backTo cpos (starEach [] X.env)).any (·.1) = false := by rfl)
    (hsw : swapsWith (.Call (.Attribute (.Name x p) "append" apos) [e] [] cpos) none pos.line X.env = pure false := by rfl) : VS X W (.Expr (.Call (.Attribute (.Name x p) "append" apos) [e] [] cpos) pos) (sApp i caps fe) :=
  weakS (ps_expr (pe_bm PySem.F.plainAttrs_list PySem.F.slot_list_append PySem.F.type_list_append mt_append (pe_var hN hv hd hcd) (pa_cons he pa_nil hs) hbase hfew hline hs hplain) hsw) fun D σ H ⟨B, A, r, w, hs, hp, q⟩ => by
  have hs1 := hs.rel (these caps)
  unfold sApp at q
  split at q
  · exact q.elim
  · rename_i l el
    have e0 := ownL_at el
    obtain ⟨a, h1, hA, h0, vs, g1, g2⟩ := hs1.ow i _ e0
    refine ⟨.ref a, h1, .inl ⟨rfl, vs, SqL.of g1⟩, B, _, _, w, hs1, hp.less fun a z => .inl z.1, PostS.en hs1 q fun d w' v H1 k p rv q => ?_⟩
    split at q
    · rename_i hl
      have nap : a ≠ B.p := fun z => hs1.np (z ▸ hA)
      have g3 : H1 a = some (.lst vs) := k.k a _ nap trivial g1
      have g4 := g2.keepA (Kp.a k)
      refine ⟨a, vs, v, rfl, rfl, g3, by rw [g4.len]; exact hl, q _ _ _ ((hs1.keep k).write e0 h1 ⟨_, upd_same, (g4.snoc rv).keepA (KpA.upd hA)⟩) (p.write hA ⟨_, g3, trivial⟩)⟩
    · exact q.elim
/-- x[k] = e, x a list -/
def sSto (i : Nat) (caps : List Nat) (fk fe : EM) : SM := fun r w => match ownL i (rel (these caps) r) with
  | none => .bad
  | some l => (fe (rel (these caps) r) w).en (rel (these caps) r) fun d w1 => (fk (rel (these caps) r) w1).en (rel (these caps) r) fun k w2 => match k with
    | .int k => match ixN l.length k with
      | some j => .nx ((rel (these caps) r).set i (some (.lst (l.set j d), true))) w2
      | none => .bad
    | _ => .bad
theorem RepL.set {c : Cf} {A : Addr → Prop} {H : Hp} {v : V} {d : D} (h : Rep c A H v d) : ∀ {vs : List V} {ds : List D} (j : Nat), RepL c A H vs ds → RepL c A H (vs.set j v) (ds.set j d)
  | _, _, _, .nil => .nil
  | _, _, 0, .cons _ r => .cons h r
  | _, _, j + 1, .cons g r => .cons g (RepL.set h j r)
theorem vs_sto {i : Nat} {x : Str} {k : Expr} {fk : EM} {tpos : Pos} (caps : List Nat) (hk : VE X rE W k fk) (he : VE X rE W e fe) (hN : X.N[i]? = some x := by rfl) (hv : Vis X.env.scope x := by first | exact Or.inl rfl | exact Or.inr (Or.inl rfl) | exact Or.inr (Or.inr rfl)) (hd : (x == ("__debug__" : Str)) = false := by decide) (hcd : (x == ("__classdict__" : Str)) = false := by decide)
    (ha : ∀ v, assign (.Subscript (.Name x p) k tpos) X.env v = (do let ov ← holding [v] (eval (.Name x p) X.env); let iv ← holding [v, ov] (eval k X.env); standAt tpos; holding [v, ov, iv] (setItem ov iv v); release [v, ov, iv] []) := by intro _; rfl)
    (hs : swapsWithSole [.Subscript (.Name x p) k tpos] e pos.line X.env = pure false := by rfl) (hw : swappedStores [.Subscript (.Name x p) k tpos] e X.env = pure none := by rfl) (h1 : (assignEach [.Subscript (.Name x p) k tpos] X.env).map (·.2) = [assign (.Subscript (.Name x p) k tpos) X.env] := by rfl) :
    VS X W (.Assign [.Subscript (.Name x p) k tpos] e pos) (sSto i caps fk fe) :=
  weakS (ps_asg he (pg_sub (pe_var hN hv hd hcd) hk set_list ha) hs hw h1) fun D σ H ⟨B, A, r, w, hs, hp, q⟩ => by
  have hs1 := hs.rel (these caps)
  unfold sSto at q
  split at q
  · exact q.elim
  · rename_i l el
    have e0 := ownL_at el
    obtain ⟨a, h1, hA, h0, vs, g1, g2⟩ := hs1.ow i _ e0
    have nap : a ≠ B.p := fun z => hs1.np (z ▸ hA)
    refine ⟨B, _, _, w, hs1, hp.less fun a z => .inl z.1, PostS.en hs1 q fun d w1 v H1 k1 p1 rv q => ⟨.ref a, h1, B, _, _, w1, hs1.keep k1, p1, PostS.en (hs1.keep k1) q fun dk w2 vk H2 k2 p2 rk q => ?_⟩⟩
    have g3 : H2 a = some (.lst vs) := k2.k a _ nap trivial (k1.k a _ nap trivial g1)
    have g4 := g2.keepA (Kp.a (k1.trans k2))
    split at q
    · rename_i kk
      split at q
      · rename_i j ej
        cases rk
        refine ⟨a, vs, kk, j, rfl, rfl, g3, by rw [g4.len]; exact ej, q _ _ _ ((hs1.keep (k1.trans k2)).write e0 h1 ⟨_, upd_same, ((g4.set (rv.keepA (Kp.a k2)) j).keepA (KpA.upd hA))⟩) (p2.write hA ⟨_, g3, trivial⟩)⟩
      · exact q.elim
    · exact q.elim
end
end DL

set_option Elab.async false
set_option linter.all false
set_option maxRecDepth 100000
set_option maxHeartbeats 2000000
namespace DL
open PySem PySem.SeqAt PySem.Spec PyProof.Rows L2

/-! ### an expression that takes an item out of an owned list -/
inductive ResX where
  | ok (d : D) (r : Env) (w : Wd)
  | exc (n : Str) (fs : List (Str × D)) (w : Wd)
  | bad
abbrev XM := Env → Wd → ResX
def PostX (K : PySem.W.Frag) (mg : Str → Option Value) (B : Bs) (A : Addr → Prop) (σ : L2.St) (W : WX) (Q : VK) : ResX → Prop
  | .ok d r w => ∀ v H', StOk K mg B A σ H' r → PenAt B.p B.lc A H' w → Rep (B.cf K mg) A H' v d → Q v H'
  | .exc n fs w => ∀ cls dd H' r, StOk K mg B A σ H' r → PenAt B.p B.lc A H' w → ErrR (B.cf K mg) A n fs cls dd H' → W cls dd σ H'
  | .bad => False
def tVX (K : PySem.W.Frag) (mg : Str → Option Value) (W : WX) (f : XM) : TE := fun σ H Q =>
  ∃ (B : Bs) (A : Addr → Prop) (r : Env) (w : Wd), StOk K mg B A σ H r ∧ PenAt B.p B.lc A H w ∧ PostX K mg B A σ W Q (f r w)
abbrev VX (X : Cx) (W : WX) (e : Expr) (f : XM) : Prop := PE X e (tVX X.K X.mg W f)
/-- the item at k, and the list without it -/
def popL (l : List D) (k : Int) : Option (D × List D) := if -(2 ^ 63) ≤ k ∧ k < 2 ^ 63 then (match seqIndex? k l.length with
  | some j => (l[j]?).map fun d => (d, l.eraseIdx j)
  | none => none) else none
theorem RepL.erase {c : Cf} {A : Addr → Prop} {H : Hp} : ∀ {vs : List V} {ds : List D} (j : Nat), RepL c A H vs ds → RepL c A H (vs.eraseIdx j) (ds.eraseIdx j)
  | _, _, _, .nil => .nil
  | _, _, 0, .cons _ r => r
  | _, _, j + 1, .cons g r => .cons g (RepL.erase j r)
def xPop (i : Nat) (fk : EM) : XM := fun r w => match ownL i r with
  | none => .bad
  | some l => match fk r w with
    | .ok (.int k) w' => match popL l k with
      | some (d, l') => .ok d (r.set i (some (.lst l', true))) w'
      | none => .bad
    | _ => .bad
def xPop0 (i : Nat) : XM := fun r w => match ownL i r with
  | none => .bad
  | some l => match l[l.length - 1]? with
    | some d => .ok d (r.set i (some (.lst l.dropLast, true))) w
    | none => .bad
section
variable {X : Cx} {W : WX} {e k : Expr} {fk : EM} {fx : XM} {pos p : Pos} {x : Str}
theorem vx_pop {i : Nat} {apos cpos : Pos} (hk : VE X rE W k fk) (hN : X.N[i]? = some x := by rfl) (hv : Vis X.env.scope x := by first | exact Or.inl rfl | exact Or.inr (Or.inl rfl) | exact Or.inr (Or.inr rfl)) (hd : (x == ("__debug__" : Str)) = false := by decide) (hcd : (x == ("__classdict__" : Str)) = false := by decide)
    (hbase : attributeBase (.Name x p) "pop" X.env (eval (.Name x p) X.env) = eval (.Name x p) X.env := by rfl)
    (hfew : ((backTo cpos (starEach [k] X.env)).all (fun x => !x.1) && (backToKw cpos (keywordEach [] X.env)).all (fun x => x.1.isSome)
      && decide (([k] : List Expr).length + ([] : List Keyword).length + (if ([] : List Keyword).isEmpty then 0 else 1) < 30)) = true := by rfl)
    (hline : (apos.endLine == cpos.line) = true := by rfl) (hs : starEach [k] X.env = (false, eval k X.env) :: starEach [] X.env := by rfl) (hplain : (backTo cpos (starEach [] X.env)).any (·.1) = false := by rfl) :
    VX X W (.Call (.Attribute (.Name x p) "pop" apos) [k] [] cpos) (xPop i fk) :=
  weak (pe_bm PySem.F.plainAttrs_list PySem.F.slot_list_pop PySem.F.type_list_pop mt_popAt (pe_var hN hv hd hcd) (pa_cons hk pa_nil hs) hbase hfew hline hs hplain) fun σ H Q ⟨B, A, r, w, hs, hp, q⟩ => by
  unfold xPop at q
  split at q
  · exact q.elim
  · rename_i l el
    have e0 := ownL_at el
    obtain ⟨a, h1, hA, h0, vs, g1, g2⟩ := hs.ow i _ e0
    have nap : a ≠ B.p := fun z => hs.np (z ▸ hA)
    refine ⟨.ref a, h1, .inl ⟨rfl, vs, SqL.of g1⟩, B, A, r, w, hs, hp, ?_⟩
    split at q
    · rename_i kk w' z
      rw [z]
      split at q
      · rename_i d l' ep
        intro v H1 k1 p1 r1
        cases r1
        unfold popL at ep
        split at ep
        · rename_i hk
          split at ep
          · rename_i j ej
            cases ed : l[j]? with
            | none => rw [ed] at ep; cases ep
            | some d' =>
              rw [ed] at ep; cases ep
              have g3 : H1 a = some (.lst vs) := k1.k a _ nap trivial g1
              have g4 := g2.keepA (Kp.a k1)
              have hj : j < vs.length := by rw [g2.len]; exact (List.getElem?_eq_some_iff.mp ed).1
              obtain ⟨d2, f1, f2⟩ := g4.at (List.getElem?_eq_getElem hj)
              rw [ed] at f1; cases f1
              exact ⟨a, vs, kk, j, vs[j], rfl, rfl, g3, hk.1, hk.2, by rw [g2.len]; exact ej, List.getElem?_eq_getElem hj, q _ _ ((hs.keep k1).write e0 h1 ⟨_, upd_same, (g4.erase j).keepA (KpA.upd hA)⟩) (p1.write hA ⟨_, g3, trivial⟩) (f2.keepA (KpA.upd hA))⟩
          · cases ep
        · cases ep
      · exact q.elim
    · exact q.elim
theorem RepL.dropLast {c : Cf} {A : Addr → Prop} {H : Hp} : ∀ {vs : List V} {ds : List D}, RepL c A H vs ds → RepL c A H vs.dropLast ds.dropLast
  | _, _, .nil => .nil
  | _, _, .cons _ .nil => .nil
  | _, _, .cons h (.cons g r) => .cons h (RepL.dropLast (.cons g r))
theorem vx_pop0 {i : Nat} {apos cpos : Pos} (hN : X.N[i]? = some x := by rfl) (hv : Vis X.env.scope x := by first | exact Or.inl rfl | exact Or.inr (Or.inl rfl) | exact Or.inr (Or.inr rfl)) (hd : (x == ("__debug__" : Str)) = false := by decide) (hcd : (x == ("__classdict__" : Str)) = false := by decide)
    (hbase : attributeBase (.Name x p) "pop" X.env (eval (.Name x p) X.env) = eval (.Name x p) X.env := by rfl) (hline : (apos.endLine == cpos.line) = true := by rfl) :
    VX X W (.Call (.Attribute (.Name x p) "pop" apos) [] [] cpos) (xPop0 i) :=
  weak (pe_bm0 PySem.F.plainAttrs_list PySem.F.slot_list_pop PySem.F.type_list_pop mt_pop (pe_var hN hv hd hcd) hbase hline) fun σ H Q ⟨B, A, r, w, hs, hp, q⟩ => by
  unfold xPop0 at q
  split at q
  · exact q.elim
  · rename_i l el
    have e0 := ownL_at el
    obtain ⟨a, h1, hA, h0, vs, g1, g2⟩ := hs.ow i _ e0
    split at q
    · rename_i d ed
      have hj : l.length - 1 < vs.length := by rw [g2.len]; exact (List.getElem?_eq_some_iff.mp ed).1
      obtain ⟨d2, f1, f2⟩ := g2.at (List.getElem?_eq_getElem hj)
      rw [ed] at f1; cases f1
      refine ⟨.ref a, h1, .inl ⟨rfl, vs, SqL.of g1⟩, a, vs, vs[l.length - 1], rfl, rfl, g1, by rw [g2.len]; exact List.getElem?_eq_getElem hj, q _ _ (hs.write e0 h1 ⟨_, upd_same, g2.dropLast.keepA (KpA.upd hA)⟩) (hp.write hA ⟨_, g1, trivial⟩) (f2.keepA (KpA.upd hA))⟩
    · exact q.elim
/-! .. in statements -/
def ResX.en (x : ResX) (r : Env) (k : D → Env → Wd → SR) : SR := match x with
  | .ok d r w => k d r w
  | .exc n fs w => .bad
  | .bad => .bad
theorem PostX.en {K : PySem.W.Frag} {mg : Str → Option Value} {B : Bs} {A : Addr → Prop} {Z : Ends} {σ : L2.St} {r : Env} {x : ResX} {k : D → Env → Wd → SR} {Q : VK} (h : PostS K mg B W Z (x.en r k))
    (hk : ∀ d r w v H1, StOk K mg B A σ H1 r → PenAt B.p B.lc A H1 w → Rep (B.cf K mg) A H1 v d → PostS K mg B W Z (k d r w) → Q v H1) : PostX K mg B A σ W Q x := by
  cases x with
  | ok d r w => exact fun v H' hs p rv => hk d r w v H' hs p rv h
  | exc n fs w => exact h.elim
  | bad => exact h
def sDropX (fx : XM) : SM := fun r w => (fx r w).en r fun _ r' w' => .nx r' w'
theorem vs_dropX (he : VX X W e fx) (hs : swapsWith e none pos.line X.env = pure false := by rfl) : VS X W (.Expr e pos) (sDropX fx) := weakS (ps_expr he hs) fun D σ H ⟨B, A, r, w, hs, hp, q⟩ =>
  ⟨B, A, r, w, hs, hp, PostX.en q fun d r' w' v H1 hs1 p1 rv q => q σ H1 A hs1 p1⟩
def sToX (g : GM) (fx : XM) : SM := fun r w => (fx r w).en r fun d r' w' => match g d r' with
  | some r2 => .nx r2 w'
  | none => .bad
theorem vs_toX {tg : Expr} {S : List Nat} {g : GM} (he : VX X W e fx) (hg : VG X tg S g) (hs : swapsWithSole [tg] e pos.line X.env = pure false := by rfl) (hw : swappedStores [tg] e X.env = pure none := by rfl) (h1 : (assignEach [tg] X.env).map (·.2) = [assign tg X.env] := by rfl) : VS X W (.Assign [tg] e pos) (sToX g fx) :=
  weakS (ps_asg he hg hs hw h1) fun D σ H ⟨B, A, r, w, hs, hp, q⟩ => ⟨B, A, r, w, hs, hp, PostX.en q fun d r' w' v H1 hs1 p1 rv q => by
    split at q
    · rename_i r2 e1
      exact ⟨B, A, r', r2, d, hs1, rv, e1, fun σ' hs' _ => q σ' H1 A hs' p1⟩
    · exact q.elim⟩
def sRetX (fx : XM) : SM := fun r w => (fx r w).en r fun d _ w' => .rt d w'
theorem vs_retX (he : VX X W e fx) : VS X W (.Return (some e) pos) (sRetX fx) := weakS (ps_ret he) fun D σ H ⟨B, A, r, w, hs, hp, q⟩ =>
  ⟨B, A, r, w, hs, hp, PostX.en q fun d r' w' v H1 hs1 p1 rv q => q v H1 hs1.kp (p1.less fun a z => .inl (hs1.a0 a z)) (rv.to fun a z => .inl (hs1.a0 a z))⟩
def sAppX (i : Nat) (fx : XM) : SM := fun r w => (fx r w).en r fun d r' w' => match ownL i r, ownL i r' with
  | some _, some l => if l.length < sizeLine then .nx (r'.set i (some (.lst (l ++ [d]), true))) w' else .bad
  | _, _ => .bad
theorem vs_appX {i : Nat} {apos cpos : Pos} (he : VX X W e fx) (hN : X.N[i]? = some x := by rfl) (hv : Vis X.env.scope x := by first | exact Or.inl rfl | exact Or.inr (Or.inl rfl) | exact Or.inr (Or.inr rfl)) (hd : (x == ("__debug__" : Str)) = false := by decide) (hcd : (x == ("__classdict__" : Str)) = false := by decide)
    (hbase : attributeBase (.Name x p) "append" X.env (eval (.Name x p) X.env) = eval (.Name x p) X.env := by rfl)
    (hfew : ((backTo cpos (starEach [e] X.env)).all (fun x => !x.1) && (backToKw cpos (keywordEach [] X.env)).all (fun x => x.1.isSome)
      && decide (([e] : List Expr).length + ([] : List Keyword).length + (if ([] : List Keyword).isEmpty then 0 else 1) < 30)) = true := by rfl)
    (hline : (apos.endLine == cpos.line) = true := by rfl) (hs : starEach [e] X.env = (false, eval e X.env) :: starEach [] X.env := by rfl) (hplain : (backTo cpos (starEach [] X.env)).any (·.1) = false := by rfl)
    (hsw : swapsWith (.Call (.Attribute (.Name x p) "append" apos) [e] [] cpos) none pos.line X.env = pure false := by rfl) : VS X W (.Expr (.Call (.Attribute (.Name x p) "append" apos) [e] [] cpos) pos) (sAppX i fx) :=
  weakS (ps_expr (pe_bm PySem.F.plainAttrs_list PySem.F.slot_list_append PySem.F.type_list_append mt_append (pe_var hN hv hd hcd) (pa_cons he pa_nil hs) hbase hfew hline hs hplain) hsw) fun D σ H ⟨B, A, r, w, hs, hp, q⟩ => by
  have q : PostS X.K X.mg B W D ((fx r w).en r fun d r' w' => match ownL i r, ownL i r' with
    | some _, some l => if l.length < sizeLine then .nx (r'.set i (some (.lst (l ++ [d]), true))) w' else .bad
    | _, _ => .bad) := q
  cases z : ownL i r with
  | none =>
    exfalso
    rw [z] at q
    cases z2 : fx r w <;> (rw [z2] at q; exact q.elim)
  | some l0 =>
    obtain ⟨a, h1, hA, h0, vs0, g0, _⟩ := hs.ow i _ (ownL_at z)
    refine ⟨.ref a, h1, .inl ⟨rfl, vs0, SqL.of g0⟩, B, A, r, w, hs, hp, PostX.en q fun d r' w' v H1 hs1 p1 rv q => ?_⟩
    rw [z] at q
    cases z2 : ownL i r' with
    | none => rw [z2] at q; exact q.elim
    | some l =>
      rw [z2] at q
      simp only at q
      split at q
      · rename_i hl
        have e0 := ownL_at z2
        obtain ⟨a', f1, fA, f0, vs, g1, g2⟩ := hs1.ow i _ e0
        rw [h1] at f1; cases f1
        exact ⟨a, vs, v, rfl, rfl, g1, by rw [g2.len]; exact hl, q _ _ _ (hs1.write e0 h1 ⟨_, upd_same, (g2.snoc rv).keepA (KpA.upd fA)⟩) (p1.write fA ⟨_, g1, trivial⟩)⟩
      · exact q.elim
end
end DL

set_option Elab.async false
set_option linter.all false
set_option maxRecDepth 100000
set_option maxHeartbeats 2000000
namespace DL
open PySem PySem.SeqAt PySem.Spec PyProof.Rows L2

/-! ### several except clauses, with and without a name -/
/-- the end of a suite that has bound slot i -/
def unb (i : Nat) (Z : Ends) : Ends := ⟨fun t G => Z.nx (t.set i none) G, Z.rt, fun t G => Z.bk (t.set i none) G, fun t G => Z.ct (t.set i none) G⟩
abbrev Clause := Value × Option Nat × (Addr → Value → Option Addr → TS)
def wAll (K : PySem.W.Frag) (Wo : WX) (Z : Ends) : List Clause → WX
  | [] => Wo
  | (c, none, ts) :: l => fun cls d σ H => ∃ b, PySem.W.exmOne K cls c = some b ∧ (b = true → ∀ x, H x = none → ts x cls d Z σ H) ∧ (b = false → wAll K Wo Z l cls d σ H)
  | (c, some i, ts) :: l => fun cls d σ H => ∃ b, PySem.W.exmOne K cls c = some b ∧ (b = true → ∀ x, H x = none → ts x cls d (unb i Z) (σ.set i (some (.ref x))) H) ∧ (b = false → wAll K Wo Z l cls d σ H)
inductive Hds (X : Cx) : List ExceptHandler → List Clause → Prop
  | nil : Hds X [] []
  | plain {x : Str} {c : Value} {ts : Addr → Value → Option Addr → TS} {st : Stmt} {sts : List Stmt} {np hp : Pos} {hs : List ExceptHandler} {l : List Clause} (nm : Names X x c)
      (su : ∀ (e : Addr) (eo : Obj) (cls : Value) (d : Option Addr) (pn : List (Addr × Obj)), Zc cls d eo → (∃ vs, eo.data = .fields vs) → PSs (X.suite e ((e, eo) :: pn)) (st :: sts) (ts e cls d)) (r : Hds X hs l) :
      Hds X (.ExceptHandler (some (.Name x np)) none (st :: sts) hp :: hs) ((c, none, ts) :: l)
  | named {x n : Str} {i : Nat} {c : Value} {ts : Addr → Value → Option Addr → TS} {st : Stmt} {sts : List Stmt} {np hp : Pos} {hs : List ExceptHandler} {l : List Clause} (nm : Names X x c) (nd : X.N.Nodup) (hi : X.N[i]? = some n) (hl : X.env.kindOf n = some .local)
      (su : ∀ (e : Addr) (eo : Obj) (cls : Value) (d : Option Addr) (pn : List (Addr × Obj)), Zc cls d eo → (∃ vs, eo.data = .fields vs) → PSs (X.suite e ((e, eo) :: pn)) (st :: sts) (ts e cls d)) (r : Hds X hs l) :
      Hds X (.ExceptHandler (some (.Name x np)) (some n) (st :: sts) hp :: hs) ((c, some i, ts) :: l)
section
variable {X : Cx} {body : List Stmt} {k0 : ExceptHandler} {ks : List ExceptHandler} {l : List Clause} {pos : Pos} {tb : WX → TS} {Wo : WX}
theorem ps_try_all (stk : X.stack = X.env :: X.outer) (fr : X.env.frame = some X.env.locals) (tk : Takes X Wo)
    (bd : ∀ (W : WX) (pn : List (Addr × Obj)) (xe : Value → Shared → Prop), Takes (X.tr pn xe) W → PassesOwn (model X.prog X.w) X.A X.env xe → PSs (X.tr pn xe) body (tb W))
    (hh : Hds X (k0 :: ks) l) : PS X (.Try body (k0 :: ks) [] [] pos) (fun Z σ H => tb (wAll X.K Wo Z l) Z σ H) := by
  constructor
  intro pins s σ H Z I h
  have ok := I.ok
  have frames : X.A.frames = some (X.env :: X.outer) := ok.frames.trans (by rw [stk])
  let xe' : Value → Shared → Prop := fun e s₁ => wpAny (model X.prog X.w) X.A (noteFrame e X.env)
    (fun _ s₂ => wpAny (model X.prog X.w) X.A (setFlight e none)
      (fun _ s₃ => wpAny (model X.prog X.w) X.A (handleBy e X.env (k0 :: ks)) (SP X pins Z) X.xe s₃) X.xe s₂) X.xe s₁
  have tk' : Takes (X.tr (X.pn ++ pins) xe') (wAll X.K Wo Z l) := by
    intro u s' raised
    obtain ⟨e, G, sI, pins', σ', H', cls, d, rfl, J', nb, up, sky, ne, eos, bare, wish⟩ := raised
    have J := J'.ofTry ok
    rw [show (X.tr (X.pn ++ pins) xe').stack = X.env :: X.outer from stk] at sky
    show wpAny (model X.prog X.w) X.A (noteFrame (.ref e) X.env) _ _ _
    refine Sky.land Zc.steady frames fr sky fun g3 fl3 up3 => ?_
    have J3 : Inv X pins σ' H' { s' with heap := g3 } := J.landed nb fl3.1 (up.trans up3) eos bare
    obtain ⟨eo, evs, at3, z3, d3⟩ := fl3.there
    have off : e ∉ frs (X.env :: X.outer) := fun mem => by
      obtain ⟨_, o2, at2, nf⟩ := fl3.2.2.1.mem mem
      rw [at3] at at2
      cases at2
      exact nf _ d3
    have offL : e ≠ X.env.locals := fun z => off (List.mem_filterMap.mpr ⟨X.env, List.mem_cons_self, by rw [fr, z]⟩)
    have offF : e ∉ X.fs := fun mem => by
      obtain ⟨v, mv, q⟩ := List.mem_filterMap.mp mem
      exact off (List.mem_filterMap.mpr ⟨v, List.mem_cons_of_mem _ mv, q⟩)
    have S3 := J3.suite at3 d3 ne offL offF
    have tyE : PySem.W.Looks (model X.prog X.w) g3 (typeOf (.ref e)) cls := fun A Q E s k q => wpAny_typeOf_ref (k _ _ at3) (by rw [z3.1]; exact q)
    have asks : ∀ {x : Str} {np : Pos} {c : Value} {Q E : Value → Shared → Prop}, Names X x c → Q c { s' with heap := g3 } →
        wpAny (model X.prog X.w) (X.A.mark (some (.ref e))) (eval (.Name x np) X.env) Q E { s' with heap := g3 } := by
      intro x np c Q E ⟨gl, db, by_⟩ q
      rcases by_ with m | ⟨m, bt, nn⟩
      · exact ld_glob (X := X.suite e ((e, eo) :: (X.pn ++ pins))) S3 gl m q db
      · exact ld_blt (X := X.suite e ((e, eo) :: (X.pn ++ pins))) S3 gl m bt q nn db
    have go : ∀ {hs : List ExceptHandler} {cl : List Clause}, Hds X hs cl → wAll X.K Wo Z cl cls d σ' H' → wpAny (model X.prog X.w) X.A (handleBy (.ref e) X.env hs) (SP X pins Z) X.xe { s' with heap := g3 } := by
      intro hs cl hk
      induction hk with
      | nil =>
        intro wish
        refine wpAny_handleBy_nil ?_
        obtain ⟨_, _, _, eo', evs', T, oT, ts', at', _, dt, v1, _⟩ := id fl3
        have last : wpAny (model X.prog X.w) X.A (setFlight (.ref e) X.env.frame)
            (fun _ s4 => wpAny (model X.prog X.w) X.A (throw (.ref e) : Sem Flow) (SP X pins Z) X.xe s4) X.xe { s' with heap := g3 } := by
          rw [fr]
          refine HandSPX.setFlight_upZ fl3 fun g4 hh4 up4 => wpAny_throw (tk _ _ ?_)
          exact ⟨e, G, sI, pins, σ', H', cls, d, rfl, J, nb, (up.trans up3).trans up4, .inr (.inr (by rw [stk]; exact hh4)), ne, eos, bare, wish⟩
        unfold PySem.passOn
        refine wpAny_bind (wpAny_field at' dt v1 ?_)
        rw [if_neg (by simp : ¬ ((Value.ref T == Value.none) = true))]
        first | exact wpAny_bind (wpAny_pure (wpAny_bind last)) | exact wpAny_bind last
      | @plain x c ts st sts np hp hs2 l2 nm su r ih =>
        intro ⟨b, hb, yes, no⟩
        refine wpAny_handleBy_cons (codeAny_handlers_test (asks nm ((PySem.W.exm_one (M := model X.prog X.w) J3.kIn tyE hb).here ?_))) (fun q => by cases q)
        cases b with
        | false => exact ih (no rfl)
        | true =>
          refine codeAny_handlers_suite (HandSPX.lands_againZ fl3 fun g4 fl4 up4 => ?_)
          have J4 : Inv X pins σ' H' { s' with heap := g4 } := J.landed nb fl4.1 ((up.trans up3).trans up4) eos bare
          obtain ⟨eo4, evs4, at4, z4, d4⟩ := fl4.there
          have S4 := J4.suite at4 d4 ne offL offF
          refine wpAny_mono ((su e eo4 cls d (X.pn ++ pins) z4 ⟨_, d4⟩).run [] _ _ H' _ S4 (yes rfl e ne)) (fun f s6 sp => ?_) (fun _ _ z => False.elim z)
          cases f with
          | ret u => obtain ⟨v6, t6, G6, S6, r6, q6⟩ := sp; exact ⟨v6, t6, G6, S6.unsuite ok, r6, q6⟩
          | next => obtain ⟨t6, G6, S6, q6⟩ := sp; exact ⟨t6, G6, S6.unsuite ok, q6⟩
          | brk => obtain ⟨t6, G6, S6, q6⟩ := sp; exact ⟨t6, G6, S6.unsuite ok, q6⟩
          | cont => obtain ⟨t6, G6, S6, q6⟩ := sp; exact ⟨t6, G6, S6.unsuite ok, q6⟩
      | @named x n i c ts st sts np hp hs2 l2 nm nd hi hl su r ih =>
        intro ⟨b, hb, yes, no⟩
        refine wpAny_handleBy_cons (codeAny_handlers_test (asks nm ((PySem.W.exm_one (M := model X.prog X.w) J3.kIn tyE hb).here ?_))) (fun q => by cases q)
        cases b with
        | false => exact ih (no rfl)
        | true =>
          refine codeAny_handlers_suite_as (HandSPX.lands_againZ fl3 fun g4 fl4 up4 => ?_)
          have J4 : Inv X pins σ' H' { s' with heap := g4 } := J.landed nb fl4.1 ((up.trans up3).trans up4) eos bare
          obtain ⟨eo4, evs4, at4, z4, d4⟩ := fl4.there
          have S4 := J4.suite at4 d4 ne offL offF
          refine store_ok (X := X.suite e ((e, eo4) :: (X.pn ++ pins))) (v := .ref e) S4 nd hi (.inl hl) rfl (fun s5 S5 => ?_) (.inr hl)
          refine wpAny_mono ((su e eo4 cls d (X.pn ++ pins) z4 ⟨_, d4⟩).run [] s5 _ H' _ S5 (yes rfl e ne)) (fun f s6 sp => ?_) (fun _ _ z => False.elim z)
          have clear : ∀ {t6 : L2.St} {G6 : Hp} {Q : Shared → Prop}, Inv (X.suite e ((e, eo4) :: (X.pn ++ pins))) [] t6 G6 s6 → (∀ s7, Inv X pins (t6.set i none) G6 s7 → Q s7) →
              wpAny (model X.prog X.w) X.A (do bindName X.env n .none; unbindBehindTheSuite X.env n hp) (fun _ s7 => Q s7) X.xe s6 :=
            fun {t6 G6 Q} S6 q => gone_ok (S6.unsuite ok) nd hi hl q
          cases f with
          | ret u => obtain ⟨v6, t6, G6, S6, r6, q6⟩ := sp; exact clear S6 fun s7 J7 => ⟨v6, _, G6, J7, r6, q6⟩
          | next => obtain ⟨t6, G6, S6, q6⟩ := sp; exact clear S6 fun s7 J7 => ⟨_, G6, J7, q6⟩
          | brk => obtain ⟨t6, G6, S6, q6⟩ := sp; exact clear S6 fun s7 J7 => ⟨_, G6, J7, q6⟩
          | cont => obtain ⟨t6, G6, S6, q6⟩ := sp; exact clear S6 fun s7 J7 => ⟨_, G6, J7, q6⟩
    exact go hh wish
  refine wpAny_Try_except (wpAny_mono ((bd (wAll X.K Wo Z l) (X.pn ++ pins) xe' tk' PassesOwn.looking).run [] s σ H Z (I.toTry _) h) (fun f s1 sp => ?_) (fun e s1 he => he))
  cases f with
  | ret u => obtain ⟨v, t, G, J, r, q⟩ := sp; exact ⟨v, t, G, J.ofTry ok, r, q⟩
  | next => obtain ⟨t, G, J, q⟩ := sp; exact wpAny_execs_nil ⟨t, G, J.ofTry ok, q⟩
  | brk => obtain ⟨t, G, J, q⟩ := sp; exact ⟨t, G, J.ofTry ok, q⟩
  | cont => obtain ⟨t, G, J, q⟩ := sp; exact ⟨t, G, J.ofTry ok, q⟩
end
end DL

set_option Elab.async false
set_option linter.all false
set_option maxRecDepth 100000
set_option maxHeartbeats 2000000
namespace DL
open PySem PySem.SeqAt PySem.Spec PyProof.Rows L2

/-! ### the suite of an except clause: its error's class and fields are at hand -/
def slotAt (io : Option Nat) (σ : L2.St) (a : Addr) : Prop := ∀ i, io = some i → σ[i]? = some (some (.ref a))
abbrev FM := Str → List (Str × D) → EM
abbrev W0 : WX := fun _ _ _ _ => False
def tX (K : PySem.W.Frag) (mg : Str → Option Value) (io : Option Nat) (a : Addr) (cls : Value) (dd : Option Addr) (R : RK) (f : FM) : TE := fun σ H Q =>
  ∃ (B : Bs) (A : Addr → Prop) (r : Env) (w : Wd) (n : Str) (fs : List (Str × D)), StOk K mg B A σ H r ∧ PenAt B.p B.lc A H w ∧ slotAt io σ a ∧ ErrR (B.cf K mg) A n fs cls dd H ∧ Post (B.cf K mg) A σ H R W0 Q (f n fs r w)
def tXA (K : PySem.W.Frag) (mg : Str → Option Value) (io : Option Nat) (a : Addr) (cls : Value) (dd : Option Addr) (R : RK) (f : Str → List (Str × D) → IM) : TA := fun σ H Q =>
  ∃ (B : Bs) (A : Addr → Prop) (r : Env) (w : Wd) (n : Str) (fs : List (Str × D)), StOk K mg B A σ H r ∧ PenAt B.p B.lc A H w ∧ slotAt io σ a ∧ ErrR (B.cf K mg) A n fs cls dd H ∧ PostA R (B.cf K mg) A σ H W0 Q (f n fs r w)
def tXS (K : PySem.W.Frag) (mg : Str → Option Value) (io : Option Nat) (a : Addr) (cls : Value) (dd : Option Addr) (f : Str → List (Str × D) → SM) : TS := fun Z σ H =>
  ∃ (B : Bs) (A : Addr → Prop) (r : Env) (w : Wd) (n : Str) (fs : List (Str × D)), StOk K mg B A σ H r ∧ PenAt B.p B.lc A H w ∧ slotAt io σ a ∧ ErrR (B.cf K mg) A n fs cls dd H ∧ PostS K mg B W0 Z (f n fs r w)
theorem ErrR.keep {c : Cf} {A : Addr → Prop} {H H' : Hp} {n : Str} {fs : List (Str × D)} {cls : Value} {dd : Option Addr} (k : Kp c.p H H') (h : ErrR c A n fs cls dd H) : ErrR c A n fs cls dd H' := by
  obtain ⟨C, e1, e2, e3⟩ := h
  refine ⟨C, e1, e2, ?_⟩
  cases dd with
  | none => exact e3
  | some x =>
    obtain ⟨fvs, h1, h2, h3, h4, h5⟩ := e3
    exact ⟨fvs, k.k _ _ h2 trivial h1, h2, h3, h4, h5.keepA k.a⟩
theorem ErrR.less {c : Cf} {A A' : Addr → Prop} {H : Hp} {n : Str} {fs : List (Str × D)} {cls : Value} {dd : Option Addr} (k : ∀ a, A' a → A a ∨ Fr H a) (h : ErrR c A n fs cls dd H) : ErrR c A' n fs cls dd H := by
  obtain ⟨C, e1, e2, e3⟩ := h
  refine ⟨C, e1, e2, ?_⟩
  cases dd with
  | none => exact e3
  | some x =>
    obtain ⟨fvs, h1, h2, h3, h4, h5⟩ := e3
    exact ⟨fvs, h1, h2, fun z => (k _ z).elim h3 fun e => e _ h1 trivial, h4, h5.to k⟩
def xP (f : EM) : FM := fun _ _ => f
/-- e.f, e an error of the class named m -/
def xF (m f : Str) : FM := fun n fs _ w => if n = m then Res.of (fs.lookup f) w else .bad
theorem lookup_map {α β : Type} {f : Str} : ∀ {l : List (Str × α)} {l2 : List (Str × β)} {y : β}, l.map (·.1) = l2.map (·.1) → l2.lookup f = some y → ∃ (i : Nat) (x : α), l.lookup f = some x ∧ (l.map (·.2))[i]? = some x ∧ (l2.map (·.2))[i]? = some y
  | [], [], _, _, h => by cases h
  | (a, x) :: l, (b, z) :: l2, y, e, h => by
    simp only [List.map_cons, List.cons.injEq] at e
    obtain ⟨e1, e2⟩ := e
    subst e1
    rw [List.lookup_cons] at h ⊢
    by_cases q : (f == a) = true
    · rw [q] at h ⊢
      cases h
      exact ⟨0, x, rfl, rfl, rfl⟩
    · have q : (f == a) = false := by simpa using q
      rw [q] at h ⊢
      obtain ⟨i, x', h1, h2, h3⟩ := lookup_map e2 h
      exact ⟨i + 1, x', h1, h2, h3⟩
section
variable {X : Cx} {io : Option Nat} {a : Addr} {oe : Obj} {cls : Value} {dd : Option Addr} {pn : List (Addr × Obj)} {R : RK} {e : Expr} {es : List Expr} {f : FM} {fa : Str → List (Str × D) → IM} {pos : Pos}
abbrev EX (X : Cx) (io : Option Nat) (a : Addr) (oe : Obj) (cls : Value) (dd : Option Addr) (pn : List (Addr × Obj)) (R : RK) (e : Expr) (f : FM) : Prop := PE (X.suite a ((a, oe) :: pn)) e (tX X.K X.mg io a cls dd R f)
abbrev EXA (X : Cx) (io : Option Nat) (a : Addr) (oe : Obj) (cls : Value) (dd : Option Addr) (pn : List (Addr × Obj)) (R : RK) (es : List Expr) (f : Str → List (Str × D) → IM) : Prop := PA (X.suite a ((a, oe) :: pn)) es (tXA X.K X.mg io a cls dd R f)
abbrev EXS (X : Cx) (io : Option Nat) (a : Addr) (oe : Obj) (cls : Value) (dd : Option Addr) (pn : List (Addr × Obj)) (ss : List Stmt) (f : Str → List (Str × D) → SM) : Prop := PSs (X.suite a ((a, oe) :: pn)) ss (tXS X.K X.mg io a cls dd f)
theorem xe_p {g : EM} (h : VE (X.suite a ((a, oe) :: pn)) R W0 e g) : EX X io a oe cls dd pn R e (xP g) := weak h fun σ H Q ⟨B, A, r, w, n, fs, hs, hp, sl, er, q⟩ => ⟨B, A, r, w, hs, hp, q⟩
theorem xe_o (h : EX X io a oe cls dd pn rE e f) : EX X io a oe cls dd pn rO e f := weak h fun σ H Q ⟨B, A, r, w, n, fs, hs, hp, sl, er, q⟩ => ⟨B, A, r, w, n, fs, hs, hp, sl, er, by
  cases z : f n fs r w with
  | ok d w' => rw [z] at q; exact fun v H' k p r => q v H' k p (.inl r)
  | exc n fs w' => rw [z] at q; exact q
  | bad => rw [z] at q; exact q⟩
theorem xe_f (h : EX X io a oe cls dd pn rF e f) : EX X io a oe cls dd pn rE e f := weak h fun σ H Q ⟨B, A, r, w, n, fs, hs, hp, sl, er, q⟩ => ⟨B, A, r, w, n, fs, hs, hp, sl, er, by
  cases z : f n fs r w with
  | ok d w' => rw [z] at q; exact fun v H' k p ⟨a, e, n, o⟩ => by subst e; exact q _ H' k p ((o.to fun b z => .inl (.inl z)).rep (hs.freshF n).1 ⟨(hs.freshF n).2, hs.nlf n⟩)
  | exc n fs w' => rw [z] at q; exact q
  | bad => rw [z] at q; exact q⟩
theorem xe_fld {i : Nat} {m g x : Str} {C : Addr} {p : Pos} (T : XfC X.K C) (hm : X.mg m = some (.ref C)) (hno : PySem.W.findIn X.K (.ref C) g = some none) (hz : Zc cls dd oe) (hf : ∃ vs, oe.data = .fields vs)
    (hN : X.N[i]? = some x := by rfl) (hv : Vis X.env.scope x := by first | exact Or.inl rfl | exact Or.inr (Or.inl rfl) | exact Or.inr (Or.inr rfl)) (hd : (x == ("__debug__" : Str)) = false := by decide) (hcd : (x == ("__classdict__" : Str)) = false := by decide)
    (hb : attributeBase (.Name x p) g X.env (eval (.Name x p) X.env) = eval (.Name x p) X.env := by rfl) : EX X (some i) a oe cls dd pn rE (.Attribute (.Name x p) g pos) (xF m g) :=
  weak (pe_xf (X := X) T hno hz hf (pe_var (X := X.suite a ((a, oe) :: pn)) hN hv hd hcd) hb) fun σ H Q ⟨B, A, r, w, n, fs, hs, hp, sl, er, q⟩ => by
    unfold xF at q
    split at q
    · rename_i e
      subst e
      unfold Res.of at q
      split at q
      · rename_i d ed
        obtain ⟨C', e1, e2, e3⟩ := er
        have e2 : X.mg n = some (.ref C') := e2
        rw [hm] at e2; cases e2
        cases dd with
        | none => have e3 : fs = [] := e3; subst e3; cases ed
        | some x =>
          obtain ⟨fvs, h1, h2, h3, h4, h5⟩ := e3
          obtain ⟨j, y, y1, y2, y3⟩ := lookup_map h4 ed
          obtain ⟨d', d1, d2⟩ := h5.at y2
          rw [y3] at d1; cases d1
          exact ⟨_, sl i rfl, rfl, e1, x, fvs, y, rfl, h1, y1, q y H .refl hp d2⟩
      · exact q.elim
    · exact q.elim
theorem xa_nil : EXA X io a oe cls dd pn R [] (fun _ _ => aNil) := weakA pa_nil fun σ H Q ⟨B, A, r, w, n, fs, hs, hp, sl, er, q⟩ => q [] H .refl hp .nil
theorem xa_cons [RKs R] (he : EX X io a oe cls dd pn R e f) (ha : EXA X io a oe cls dd pn R es fa) (hs : starEach (e :: es) X.env = (false, eval e X.env) :: starEach es X.env := by rfl) : EXA X io a oe cls dd pn R (e :: es) (fun n fs => aCons (f n fs) (fa n fs)) :=
  weakA (pa_cons (X := X.suite a ((a, oe) :: pn)) he ha hs) fun σ H Q ⟨B, A, r, w, n, fs, hs, hp, sl, er, q⟩ => by
  refine ⟨B, A, r, w, n, fs, hs, hp, sl, er, ?_⟩
  have q : PostA R (B.cf X.K X.mg) A σ H W0 Q (aCons (f n fs) (fa n fs) r w) := q
  unfold aCons at q
  cases z : f n fs r w with
  | bad => rw [z] at q; exact q
  | exc n fs w1 => rw [z] at q; exact q
  | ok d w1 =>
    rw [z] at q
    intro v H1 k1 p1 r1
    refine ⟨B, A, r, w1, n, fs, hs.keep k1, p1, sl, er.keep k1, ?_⟩
    have q : PostA R (B.cf X.K X.mg) A σ H W0 Q ((fa n fs r w1).mapA (d :: ·)) := q
    cases z2 : fa n fs r w1 with
    | bad => rw [z2] at q; exact q
    | exc n' fs' w2 => rw [z2] at q; exact fun cls dd H' k p e => q cls dd H' (k1.trans k) p e
    | ok ds w2 =>
      rw [z2] at q
      exact fun vs H2 k2 p2 r2 => q (v :: vs) H2 (k1.trans k2) p2 (.cons (RKs.keep hs.np k2 r1) r2)

theorem xe_tup {k : Nat} (ha : EXA X io a oe cls dd pn rE es fa) : EX X io a oe cls dd pn rE (.Tuple es k pos) (fun n fs => dTup (fa n fs)) := weak (pe_tup (X := X.suite a ((a, oe) :: pn)) ha) fun σ H Q ⟨B, A, r, w, n, fs, hs, hp, sl, er, q⟩ => by
  refine ⟨B, A, r, w, n, fs, hs, hp, sl, er, ?_⟩
  have q : Post (B.cf X.K X.mg) A σ H rE W0 Q ((fa n fs r w).toR fun l w' => if l.length ≤ sizeLine then .ok (.tup l) w' else .bad) := q
  cases z : fa n fs r w with
  | bad => rw [z] at q; exact q
  | exc n fs w1 => rw [z] at q; exact q
  | ok ds w1 =>
    rw [z] at q
    unfold ResI.toR at q
    simp only at q
    split at q
    · rename_i hl
      intro vs H1 k1 p1 r1
      have r2 := r1.e
      refine ⟨by rw [r2.len]; exact hl, fun t ht => ?_⟩
      have hf := (hs.keep k1).fresh ht
      exact q _ _ (k1.trans (.of (same_new ht))) (p1.keep (same_new ht)) (.tup upd_same hf.1 hf.2 (r2.keepA (Kp.a (.of (same_new ht)))))
    · exact q.elim
theorem xf_lst (ha : EXA X io a oe cls dd pn rE es fa) : EX X io a oe cls dd pn rF (.List es pos) (fun n fs => dLst (fa n fs)) := weak (pe_lst (X := X.suite a ((a, oe) :: pn)) ha) fun σ H Q ⟨B, A, r, w, n, fs, hs, hp, sl, er, q⟩ => by
  refine ⟨B, A, r, w, n, fs, hs, hp, sl, er, ?_⟩
  have q : Post (B.cf X.K X.mg) A σ H rF W0 Q ((fa n fs r w).toR fun l w' => if l.length ≤ sizeLine then .ok (.lst l) w' else .bad) := q
  cases z : fa n fs r w with
  | bad => rw [z] at q; exact q
  | exc n fs w1 => rw [z] at q; exact q
  | ok ds w1 =>
    rw [z] at q
    unfold ResI.toR at q
    simp only at q
    split at q
    · rename_i hl
      intro vs H1 k1 p1 r1
      have r2 := r1.e
      refine ⟨by rw [r2.len]; exact hl, fun t ht => ?_⟩
      exact q _ _ (k1.trans (.of (same_new ht))) (p1.keep (same_new ht)) ⟨t, rfl, k1.free ht, vs, upd_same, (r2.to fun b z => z.elim .inl fun e => .inr (by rw [e]; exact fr_none ht)).keepA (Kp.a (.of (same_new ht)))⟩
    · exact q.elim
/-! statements of a suite -/
theorem xs_set {i : Nat} {x : Str} {pos' : Pos} (caps : List Nat) (hN : X.N.Nodup) (he : EX X io a oe cls dd pn rE e f) (hi : X.N[i]? = some x := by rfl) (hx : Loc X.env.scope x := by first | exact Or.inl rfl | exact Or.inr rfl) (hf : X.fn x = true ∨ X.env.scope.names.lookup x = some .local := by first | exact .inl rfl | exact .inr rfl)
    (hs : swapsWith e (some (.Name x pos')) pos.line X.env = pure false := by rfl) : EXS X io a oe cls dd pn [.Assign [.Name x pos'] e pos] (fun n fs => sSet i caps (f n fs)) :=
  weakSs (pss_one (ps_asg (X := X.suite a ((a, oe) :: pn)) he (pg_name hN hi hx hf) hs)) fun Z σ H ⟨B, A, r, w, n, fs, hs, hp, sl, er, q⟩ => by
  have hs1 := hs.rel (these caps)
  exact ⟨B, _, _, w, n, fs, hs1, hp.less fun a z => .inl z.1, sl, er.less fun a z => .inl z.1, PostS.en hs1 q fun d w' v H1 k p rv q => q _ H1 _ ((hs1.keep k).set rv) p⟩
theorem xs_ret (he : EX X io a oe cls dd pn rE e f) : EXS X io a oe cls dd pn [.Return (some e) pos] (fun n fs => sRet (f n fs)) :=
  weakSs (pss_one (ps_ret (X := X.suite a ((a, oe) :: pn)) he)) fun Z σ H ⟨B, A, r, w, n, fs, hs, hp, sl, er, q⟩ => by
  have hs1 := hs.rel all_
  exact ⟨B, _, _, w, n, fs, hs1, hp.less fun a z => .inl z.1, sl, er.less fun a z => .inl z.1, PostS.en hs1 q fun d w' v H1 k p rv q => q _ H1 ((hs1.keep k).kp) (p.less fun a z => .inl (hs1.a0 a z)) (rv.to fun a z => .inl (hs1.a0 a z))⟩
end

/-! ### try, by data -/
/-- which classes of errors a clause takes; its name's slot; its suite -/
abbrev DCl := List (Str × Bool) × Option Nat × (Str → List (Str × D) → SM)
def clr (io : Option Nat) (r : Env) : Env := match io with
  | some i => r.set i none
  | none => r
def SR.un (io : Option Nat) : SR → SR
  | .nx r w => .nx (clr io r) w
  | .bk r w => .bk (clr io r) w
  | .ct r w => .ct (clr io r) w
  | .rt d w => .rt d w
  | .exc _ _ _ _ => .bad
  | .bad => .bad
def inR (io : Option Nat) (r : Env) : Bool := match io with
  | some i => decide (i < r.length)
  | none => true
def handle (n : Str) (fs : List (Str × D)) : List DCl → Env → Wd → SR
  | [], r, w => .exc n fs r w
  | (sb, io, g) :: l, r, w => match sb.lookup n with
    | some true => if inR io r = true then (g n fs (clr io r) w).un io else .bad
    | some false => handle n fs l r w
    | none => .bad
def sTry (fb : SM) (l : List DCl) : SM := fun r w => match fb r w with
  | .exc n fs r' w' => handle n fs l r' w'
  | x => x
/-- the clauses of the text are those of the data -/
inductive HD (X : Cx) : List ExceptHandler → List DCl → Prop
  | nil : HD X [] []
  | plain {x : Str} {c : Value} {sb : List (Str × Bool)} {g : Str → List (Str × D) → SM} {st : Stmt} {sts : List Stmt} {np hp : Pos} {hs : List ExceptHandler} {l : List DCl} (nm : Names X x c) (hb : ∀ n b, (n, b) ∈ sb → ∀ C, X.mg n = some (.ref C) → PySem.W.exmOne X.K (.ref C) c = some b)
      (su : ∀ (e : Addr) (eo : Obj) (cls : Value) (d : Option Addr) (pn : List (Addr × Obj)), Zc cls d eo → (∃ vs, eo.data = .fields vs) → EXS X none e eo cls d pn (st :: sts) g) (r : HD X hs l) :
      HD X (.ExceptHandler (some (.Name x np)) none (st :: sts) hp :: hs) ((sb, none, g) :: l)
  | named {x n : Str} {i : Nat} {c : Value} {sb : List (Str × Bool)} {g : Str → List (Str × D) → SM} {st : Stmt} {sts : List Stmt} {np hp : Pos} {hs : List ExceptHandler} {l : List DCl} (nm : Names X x c) (hb : ∀ n b, (n, b) ∈ sb → ∀ C, X.mg n = some (.ref C) → PySem.W.exmOne X.K (.ref C) c = some b)
      (nd : X.N.Nodup) (hi : X.N[i]? = some n) (hl : X.env.kindOf n = some .local)
      (su : ∀ (e : Addr) (eo : Obj) (cls : Value) (d : Option Addr) (pn : List (Addr × Obj)), Zc cls d eo → (∃ vs, eo.data = .fields vs) → EXS X (some i) e eo cls d pn (st :: sts) g) (r : HD X hs l) :
      HD X (.ExceptHandler (some (.Name x np)) (some n) (st :: sts) hp :: hs) ((sb, some i, g) :: l)
theorem StOk.gone {K : PySem.W.Frag} {mg : Str → Option Value} {B : Bs} {A : Addr → Prop} {σ : L2.St} {H : Hp} {r : Env} (h : StOk K mg B A σ H r) (i : Nat) (v : Option V) : StOk K mg B A (σ.set i v) H (r.set i none) where
  kp := h.kp
  tp := h.tp
  tr := h.tr
  a0 := h.a0
  t0 := h.t0
  ax := h.ax
  np := h.np
  pl := fun j e q => by
    rcases set_at q with ⟨rfl, z⟩ | ⟨n, z⟩
    · cases z
    · obtain ⟨u, h1, h2⟩ := h.pl j e z
      exact ⟨u, by rw [List.getElem?_set_ne (Ne.symm n)]; exact h1, h2⟩
  ow := fun j e q => by
    rcases set_at q with ⟨rfl, z⟩ | ⟨n, z⟩
    · cases z
    · obtain ⟨a, h1, h2⟩ := h.ow j e z
      exact ⟨a, by rw [List.getElem?_set_ne (Ne.symm n)]; exact h1, h2⟩
  ne := fun j k d1 d2 a q1 q2 s1 s2 => by
    rcases set_at q1 with ⟨rfl, z⟩ | ⟨n, z⟩
    · cases z
    · rcases set_at q2 with ⟨rfl, z2⟩ | ⟨n2, z2⟩
      · cases z2
      · rw [List.getElem?_set_ne (Ne.symm n)] at s1
        rw [List.getElem?_set_ne (Ne.symm n2)] at s2
        exact h.ne j k d1 d2 a z z2 s1 s2
  ln := by rw [List.length_set, List.length_set]; exact h.ln
  tq := h.tq
theorem lookup_in {α : Type} {n : Str} {b : α} : ∀ {l : List (Str × α)}, l.lookup n = some b → (n, b) ∈ l
  | [], h => by cases h
  | (m, c) :: l, h => by
    rw [List.lookup_cons] at h
    by_cases q : (n == m) = true
    · rw [q] at h; cases h
      rw [eq_of_beq q]; exact List.mem_cons_self
    · have q : (n == m) = false := by simpa using q
      rw [q] at h
      exact List.mem_cons_of_mem _ (lookup_in h)
section
variable {X : Cx} {body : List Stmt} {k0 : ExceptHandler} {ks : List ExceptHandler} {l : List DCl} {pos : Pos} {fb : SM} {Wo : WX}
def asCl (K : PySem.W.Frag) (mg : Str → Option Value) (c : Value) (x : DCl) : Clause := (c, x.2.1, fun a cls d => tXS K mg x.2.1 a cls d x.2.2)
theorem hd_key : ∀ {hs : List ExceptHandler} {l : List DCl}, HD X hs l → ∃ cl : List Clause, Hds X hs cl ∧ ∀ (B : Bs) (Z : Ends) (n : Str) (fs : List (Str × D)) (r : Env) (w : Wd) (cls : Value) (dd : Option Addr) (σ : L2.St) (H : Hp) (A : Addr → Prop),
      StOk X.K X.mg B A σ H r → PenAt B.p B.lc A H w → ErrR (B.cf X.K X.mg) A n fs cls dd H → PostS X.K X.mg B Wo Z (handle n fs l r w) → wAll X.K Wo Z cl cls dd σ H := by
  intro hs l h
  induction h with
  | nil => exact ⟨[], .nil, fun B Z n fs r w cls dd σ H A hs hp er q => q cls dd σ H A hs hp er⟩
  | @plain x c sb g st sts np hp' hs2 l2 nm hb su r ih =>
    obtain ⟨cl, h1, h2⟩ := ih
    refine ⟨(c, none, fun a cls d => tXS X.K X.mg none a cls d g) :: cl, .plain nm (fun e eo cls d pn z f => su e eo cls d pn z f) h1, fun B Z n fs r w cls dd σ H A hs hp er q => ?_⟩
    have er' := er
    obtain ⟨C, e1, e2, e3⟩ := er
    unfold handle at q
    cases z : sb.lookup n with
    | none => rw [z] at q; exact q.elim
    | some b =>
      rw [z] at q
      refine ⟨b, by rw [e1]; exact hb n b (lookup_in z) C e2, fun e => ?_, fun e => ?_⟩
      · subst e
        refine fun x hx => ⟨B, A, r, w, n, fs, hs, hp, (fun i e => by cases e), er', ?_⟩
        simp only at q
        have q : PostS X.K X.mg B Wo Z ((g n fs r w).un none) := q
        cases z2 : g n fs r w with
        | nx r' w' => rw [z2] at q; exact q
        | bk r' w' => rw [z2] at q; exact q
        | ct r' w' => rw [z2] at q; exact q
        | rt d w' => rw [z2] at q; exact q
        | exc n' fs' r' w' => rw [z2] at q; exact q.elim
        | bad => rw [z2] at q; exact q
      · subst e
        exact h2 B Z n fs r w cls dd σ H A hs hp er' q
  | @named x nn i c sb g st sts np hp' hs2 l2 nm hb nd hi hl su r ih =>
    obtain ⟨cl, h1, h2⟩ := ih
    refine ⟨(c, some i, fun a cls d => tXS X.K X.mg (some i) a cls d g) :: cl, .named nm nd hi hl (fun e eo cls d pn z f => su e eo cls d pn z f) h1, fun B Z n fs r w cls dd σ H A hs hp er q => ?_⟩
    have er' := er
    obtain ⟨C, e1, e2, e3⟩ := er
    unfold handle at q
    cases z : sb.lookup n with
    | none => rw [z] at q; exact q.elim
    | some b =>
      rw [z] at q
      refine ⟨b, by rw [e1]; exact hb n b (lookup_in z) C e2, fun e => ?_, fun e => ?_⟩
      · subst e
        refine fun x hx => ⟨B, A, r.set i none, w, n, fs, hs.gone i _, hp, fun j e => ?_, er', ?_⟩
        · cases e
          simp only at q
          split at q
          · rename_i hlt
            rw [List.getElem?_set_self]
            rw [← hs.ln]; exact of_decide_eq_true hlt
          · exact q.elim
        · simp only at q
          split at q
          rotate_left
          · exact q.elim
          have q : PostS X.K X.mg B Wo Z ((g n fs (r.set i none) w).un (some i)) := q
          cases z2 : g n fs (r.set i none) w with
          | nx r' w' => rw [z2] at q; exact fun σ' H' A' hs' hp' => q _ H' A' (hs'.gone i none) hp'
          | bk r' w' => rw [z2] at q; exact fun σ' H' A' hs' hp' => q _ H' A' (hs'.gone i none) hp'
          | ct r' w' => rw [z2] at q; exact fun σ' H' A' hs' hp' => q _ H' A' (hs'.gone i none) hp'
          | rt d w' => rw [z2] at q; exact q
          | exc n' fs' r' w' => rw [z2] at q; exact q.elim
          | bad => rw [z2] at q; exact q
      · subst e
        exact h2 B Z n fs r w cls dd σ H A hs hp er' q
theorem vs_try (stk : X.stack = X.env :: X.outer) (fr : X.env.frame = some X.env.locals) (tk : Takes X Wo)
    (bd : ∀ (W : WX) (pn : List (Addr × Obj)) (xe : Value → Shared → Prop), Takes (X.tr pn xe) W → PassesOwn (model X.prog X.w) X.A X.env xe → VSs (X.tr pn xe) W body fb)
    (hh : HD X (k0 :: ks) l) : VS X Wo (.Try body (k0 :: ks) [] [] pos) (sTry fb l) := by
  obtain ⟨cl, h1, h2⟩ := hd_key (Wo := Wo) hh
  refine weakS (ps_try_all (tb := fun W => tVS X.K X.mg W fb) stk fr tk bd h1) fun Z σ H ⟨B, A, r, w, hs, hp, q⟩ => ⟨B, A, r, w, hs, hp, ?_⟩
  unfold sTry at q
  cases z : fb r w with
  | nx r' w' => rw [z] at q; exact q
  | bk r' w' => rw [z] at q; exact q
  | ct r' w' => rw [z] at q; exact q
  | rt d w' => rw [z] at q; exact q
  | exc n fs r' w' => rw [z] at q; exact fun cls dd σ' H' A' hs' hp' er => h2 B Z n fs r' w' cls dd σ' H' A' hs' hp' er q
  | bad => rw [z] at q; exact q
end
end DL

set_option Elab.async false
set_option linter.all false
set_option maxRecDepth 100000
set_option maxHeartbeats 2000000
namespace DL
open PySem PySem.SeqAt PySem.Spec PyProof.Rows L2 LamX

/-! ### W at every filling of the slots -/
def looseW (n : Nat) (W : WX) : WX := fun cls d _ H => ∀ σ : L2.St, σ.length = n → W cls d σ H
theorem takes_loose {X : Cx} {W : WX} (tk : Takes X W) : Takes X (looseW X.N.length W) := fun u s' ⟨a, B, sI, pins, σ, H, cls, d, e, I, nb, up, sky, na, os, ag, w⟩ => tk u s' ⟨a, B, sI, pins, σ, H, cls, d, e, I, nb, up, sky, na, os, ag, w σ I.len⟩
/-! ### x(): x got a lambda -/
open Classical in
noncomputable def dCb (c : D) (i : Nat) (cb : Wd → Res) : EM := fun r w => if r[i]? = some (some (c, false)) then cb w else .bad
theorem dCb_ok {c : D} {i : Nat} {cb : Wd → Res} {r : Env} {w : Wd} (h : r[i]? = some (some (c, false))) : dCb c i cb r w = cb w := if_pos h
/-- what the lambda's reading is asked for: whenever what it took stands there -/
def Cbk (K : PySem.W.Frag) (mg : Str → Option Value) (vs : List V) (ds : List D) (cb : Wd → Res) (tl : XK → Hp → VK → Prop) : Prop :=
  ∀ (E : XK) (H : Hp) (Q : VK) (p : Addr) (lc : Lx) (A : Addr → Prop) (w : Wd), (∀ a, A a → ∃ o, H a = some o ∧ WO o) → PenAt p lc A H w → LcOk K mg p lc H → RepL ⟨K, mg, p, lc⟩ A H vs ds → Post ⟨K, mg, p, lc⟩ A [] H rE (fun cls d _ H => E cls d H) Q (cb w) → tl E H Q
theorem ve_cb {X : Cx} {W : WX} {e : Expr} {f c' : Addr} {q : Str} {vs : List V} {ds : List D} {cb : Wd → Res} {n : Nat} {tl : XK → Hp → VK → Prop}
    (act : PE X e fun σ H Q => σ[0]? = some (some (.ref f)) ∧ H c' = some (CodeO c' q) ∧ tl (fun cls d H => ∀ σ : L2.St, σ.length = n → W cls d σ H) H Q) (k : Cbk X.K X.mg vs ds cb tl) : VE X rE (looseW n W) e (dCb (.clo f c' q vs ds) 0 cb) :=
  weak act fun σ H Q ⟨B, A, r, w, hs, hp, h⟩ => by
  unfold dCb at h
  split at h
  · rename_i e
    obtain ⟨v, h1, h2⟩ := hs.pl 0 _ e
    cases h2 with | clo g1 g2 g3 g4 =>
    refine ⟨h1, g1, k _ H Q B.p B.lc A w hs.tr hp hs.lco g4 ?_⟩
    cases z : cb w with
    | ok d w' => rw [z] at h; exact h
    | exc m fs w' => rw [z] at h; exact h
    | bad => rw [z] at h; exact h
  · exact h.elim
/-! ### try over it: the slots are forgotten where it raises -/
def sTryL (n : Nat) (fb : SM) (l : List DCl) : SM := fun r w => match fb r w with
  | .exc m fs _ w' => handle m fs l (List.replicate n none) w'
  | x => x
theorem StOk.forget {K : PySem.W.Frag} {mg : Str → Option Value} {B : Bs} {A : Addr → Prop} {σ σ' : L2.St} {H : Hp} {r : Env} {n : Nat} (h : StOk K mg B A σ H r) (hn : σ'.length = n) : StOk K mg B A σ' H (List.replicate n none) where
  kp := h.kp
  tp := h.tp
  tr := h.tr
  a0 := h.a0
  t0 := h.t0
  ax := h.ax
  np := h.np
  pl := fun i d e => by rw [List.getElem?_replicate] at e; split at e <;> cases e
  ow := fun i d e => by rw [List.getElem?_replicate] at e; split at e <;> cases e
  ne := fun i j d e a h1 h2 => by rw [List.getElem?_replicate] at h1; split at h1 <;> cases h1
  ln := by rw [List.length_replicate, hn]
  tq := h.tq
theorem vs_tryL {X : Cx} {body : List Stmt} {k0 : ExceptHandler} {ks : List ExceptHandler} {l : List DCl} {pos : Pos} {fb : SM} {Wo : WX} (n : Nat) (hn : X.N.length = n) (stk : X.stack = X.env :: X.outer) (fr : X.env.frame = some X.env.locals) (tk : Takes X Wo)
    (bd : ∀ (W : WX) (pn : List (Addr × Obj)) (xe : Value → Shared → Prop), Takes (X.tr pn xe) W → PassesOwn (model X.prog X.w) X.A X.env xe → VSs (X.tr pn xe) (looseW n W) body fb)
    (hh : HD X (k0 :: ks) l) : VS X Wo (.Try body (k0 :: ks) [] [] pos) (sTryL n fb l) := by
  obtain ⟨cl, h1, h2⟩ := hd_key (Wo := Wo) hh
  refine weakS (ps_try_all (tb := fun W => tVS X.K X.mg (looseW n W) fb) stk fr tk bd h1) fun Z σ H ⟨B, A, r, w, hs, hp, q⟩ => ⟨B, A, r, w, hs, hp, ?_⟩
  unfold sTryL at q
  cases z : fb r w with
  | nx r' w' => rw [z] at q; exact q
  | bk r' w' => rw [z] at q; exact q
  | ct r' w' => rw [z] at q; exact q
  | rt d w' => rw [z] at q; exact q
  | exc m fs r' w' => rw [z] at q; exact fun cls dd σ' H' A' hs' hp' er σ2 l2 => h2 B Z m fs _ w' cls dd σ2 H' A' (hs'.forget l2) hp' er q
  | bad => rw [z] at q; exact q
/-! ### what a lambda takes -/
/-- without what is owned -/
def plainE (r : Env) : Env := r.map fun x => match x with
  | some (_, true) => none
  | x => x
def capD (r : Env) : List D := r.map fun x => match x with
  | some (d, false) => d
  | _ => .non
def capV (σ : L2.St) (r : Env) : List V := List.zipWith (fun s x => match x with
  | some (_, false) => s.getD .non
  | _ => .non) σ r
theorem plain_at {r : Env} {i : Nat} {d : D} {o : Bool} (h : (plainE r)[i]? = some (some (d, o))) : o = false ∧ r[i]? = some (some (d, false)) := by
  unfold plainE at h
  rw [List.getElem?_map] at h
  cases e : r[i]? with
  | none => rw [e] at h; cases h
  | some x =>
    rw [e] at h
    cases x with
    | none => cases h
    | some y =>
      obtain ⟨d', o'⟩ := y
      cases o' with
      | true => cases h
      | false => cases h; exact ⟨rfl, rfl⟩
theorem RepL.of_at {c : Cf} {A : Addr → Prop} {H : Hp} : ∀ {vs : List V} {ds : List D}, vs.length = ds.length → (∀ (i : Nat) (v : V) (d : D), vs[i]? = some v → ds[i]? = some d → Rep c A H v d) → RepL c A H vs ds
  | [], [], _, _ => .nil
  | v :: vs, d :: ds, l, h => .cons (h 0 v d rfl rfl) (RepL.of_at (by simpa using l) fun i v d a b => h (i + 1) v d a b)
  | [], _ :: _, l, _ => by cases l
  | _ :: _, [], l, _ => by cases l
theorem cap_v {σ : L2.St} {r : Env} {i : Nat} {d : D} {v : V} (h : r[i]? = some (some (d, false))) (hv : σ[i]? = some (some v)) : (capV σ r)[i]? = some v ∧ (capD r)[i]? = some d := by
  unfold capV capD
  refine ⟨?_, ?_⟩
  · rw [List.getElem?_zipWith, h, hv]; rfl
  · rw [List.getElem?_map, h]; rfl
theorem StOk.cap {K : PySem.W.Frag} {mg : Str → Option Value} {B : Bs} {A : Addr → Prop} {σ : L2.St} {H : Hp} {r : Env} (hs : StOk K mg B A σ H r) : RepL (B.cf K mg) A H (capV σ r) (capD r) := by
  refine RepL.of_at ?_ fun i v d h1 h2 => ?_
  · unfold capV capD; simp [hs.ln]
  · unfold capD at h2
    unfold capV at h1
    rw [List.getElem?_map] at h2
    rw [List.getElem?_zipWith] at h1
    cases e : r[i]? with
    | none => rw [e] at h2; cases h2
    | some x =>
      rw [e] at h1 h2
      have non : v = .non → d = .non → Rep (B.cf K mg) A H v d := fun a b => by rw [a, b]; exact .non
      cases es : σ[i]? with
      | none => rw [es] at h1; cases h1
      | some s =>
        rw [es] at h1
        cases x with
        | none => cases h1; cases h2; exact .non
        | some y =>
          obtain ⟨d', o'⟩ := y
          cases o' with
          | true => cases h1; cases h2; exact .non
          | false =>
            obtain ⟨u, g1, g2⟩ := hs.pl i _ e
            rw [es] at g1
            cases g1
            cases h1; cases h2
            exact g2
/-- the slots again, at a later heap -/
theorem cap_ok {K : PySem.W.Frag} {mg : Str → Option Value} {B : Bs} {A A' : Addr → Prop} {σ : L2.St} {H H' : Hp} {r : Env} {p : Addr} {lc : Lx} {w : Wd} (hs : StOk K mg B A σ H r) (tr : ∀ a, A' a → ∃ o, H' a = some o ∧ WO o) (pn : PenAt p lc A' H' w) (tq : LcOk K mg p lc H') (rl : RepL ⟨K, mg, p, lc⟩ A' H' (capV σ r) (capD r)) :
    StOk K mg ⟨p, lc, A', H'⟩ A' σ H' (plainE r) := by
  obtain ⟨o, l, h1, h2, h3, h4, h5⟩ := pn
  refine ⟨.refl, ⟨_, h1, trivial⟩, tr, fun a q => q, fun a q => let ⟨o, e, w⟩ := tr a q; ⟨o, e, w.nt⟩, fun a q => .inl q, h4, fun i d e => ?_, fun i d e => ?_, fun i j d d2 a e => ?_, ?_, ⟨tq, ⟨_, h2, trivial⟩, h3⟩⟩
  · obtain ⟨_, e⟩ := plain_at e
    obtain ⟨v, g1, _⟩ := hs.pl i d e
    obtain ⟨c1, c2⟩ := cap_v e g1
    obtain ⟨d', h6, h7⟩ := rl.at c1
    rw [c2] at h6; cases h6
    exact ⟨v, g1, h7⟩
  · exact absurd (plain_at e).1 (by decide)
  · exact absurd (plain_at e).1 (by decide)
  · unfold plainE; rw [List.length_map, hs.ln]
/-! ### why(lambda: e) -/
def TTw (K : PySem.W.Frag) (mg : Str → Option Value) (F : (Wd → Res) → Wd → Res) : (XK → Hp → VK → Prop) → Hp → VK → Prop := fun tl H Q =>
  ∃ (p : Addr) (lc : Lx) (A : Addr → Prop) (w : Wd) (vs : List V) (ds : List D) (cb : Wd → Res), (∀ a, A a → ∃ o, H a = some o ∧ WO o) ∧ PenAt p lc A H w ∧ LcOk K mg p lc H ∧ RepL ⟨K, mg, p, lc⟩ A H vs ds ∧ Cbk K mg vs ds cb tl ∧ Post ⟨K, mg, p, lc⟩ A [] H rE W0 Q (F cb w)
def dWhy (F : (Wd → Res) → Wd → Res) (fe : EM) : EM := fun r w => match F (fe (plainE r)) w with
  | .ok d w' => .ok d w'
  | _ => .bad
theorem why_gives {X : Cx} {Ng : List Str} {x a q : Str} {sg : Scope} {g : Addr} {cdg : Value} {bg : List Stmt} {F : (Wd → Res) → Wd → Res} {gw : D → (Wd → Res) → SM}
    (hF : ∀ f c' q vs ds cb w, (gw (.clo f c' q vs ds) cb (startE Ng.length [.clo f c' q vs ds]) w).res = F cb w)
    (hb : ∀ (s : Shared) (H : Hp) (c : D) (cb : Wd → Res), (∀ (W : WX) (pn : List (Addr × Obj)) (xe : Value → Shared → Prop) (p1 p2 : Pos), Takes ((cxOf C8.CX0 X.prog X.w X.K X.mg X.base Ng x sg g cdg X.A X.stack s H C8.E0).nox.tr pn xe) W →
      VE ((cxOf C8.CX0 X.prog X.w X.K X.mg X.base Ng x sg g cdg X.A X.stack s H C8.E0).nox.tr pn xe) rE (looseW Ng.length W) (.Call (.Name a p1) [] [] p2) (dCb c 0 cb)) →
      VSs (cxOf C8.CX0 X.prog X.w X.K X.mg X.base Ng x sg g cdg X.A X.stack s H C8.E0).nox W0 bg (gw c cb)) : GivesTo X Ng x sg g cdg bg a q (TTw X.K X.mg F) := by
  intro f c' s H Q tl act hc ⟨p, lc, A, w, vs, ds, cb, tr, pn, tq, rl, ck, po⟩
  refine ⟨_, hb s H (.clo f c' q vs ds) cb fun W pn xe p1 p2 tk => ?_, ?_⟩
  · exact ve_cb (act (looseW Ng.length W) pn xe (fun cls d H => ∀ σ : L2.St, σ.length = Ng.length → W cls d σ H) p1 p2 (takes_loose tk) fun cls d σ' H' e => e) ck
  · have nA : ¬ A c' := fun z => by
      obtain ⟨o, e, wo⟩ := tr c' z
      rw [hc] at e; cases e
      exact wo
    have np : c' ≠ p := fun z => by
      have hp := pn.2.2.1
      rw [← z, hc] at hp
      cases hp
    have st := start_ok (N := Ng) (vs := [.ref f]) (ds := [.clo f c' q vs ds]) tr pn tq (.cons (.clo hc nA np rl) .nil)
    refine ⟨⟨p, lc, A, H⟩, A, _, w, st, pn, ?_⟩
    rw [← hF f c' q vs ds cb w] at po
    cases z : gw (.clo f c' q vs ds) cb (startE Ng.length [.clo f c' q vs ds]) w with
    | rt d w' => rw [z] at po; exact fun v H' k p r => po v H' k p r
    | nx r' w' => rw [z] at po; exact fun σ' H' A' hs hp => po .non H' hs.kp (hp.less fun a z => .inl (hs.a0 a z)) .non
    | exc n fs r' w' => rw [z] at po; exact fun cls dd σ' H' A' hs hp er => po cls dd H' hs.kp (hp.less fun a z => .inl (hs.a0 a z)) (er.less fun a z => .inl (hs.a0 a z))
    | bk r' w' => rw [z] at po; exact po.elim
    | ct r' w' => rw [z] at po; exact po.elim
    | bad => rw [z] at po; exact po.elim
theorem ve_why {X : Cx} {W : WX} {F : (Wd → Res) → Wd → Res} {fe : EM} {x a : Str} {g c P : Addr} {k : Nat} {pg : Arguments} {bg : List Stmt} {sg : Scope} {dV kV doc pm cdv ct oc : Value} {an od : Option Addr} {osl : Array (Option Value)} {Ng : List Str}
    {params : Arguments} {body : Expr} {scope : Scope} {p lpos pos : Pos} (hg : Gl X x) (hm : X.mg x = some (.ref g)) (hk : PySem.W.keepIn X.K (.ref g) = true)
    (lk : X.K.lookup g = some ⟨oc, od, .func (PySem.W.fnOf x x pg bg sg dV kV doc pm an cdv ct), osl⟩) (hcg : PySem.W.codeIn X.K cdv x = true) (hb : L2.Binds X.K (PySem.W.fnOf x x pg bg sg dV kV doc pm an cdv ct) [a] []) (Sg : FnScope Ng [a] sg) (hNg : Ng[0]? = some a) (hva : Vis sg a)
    (hG : GivesTo X Ng x sg g cdv bg a (X.env.qual ++ "<lambda>") (TTw X.K X.mg F))
    (TB : TabB X.base X.mg c P) (hcode : X.env.code = .ref c) (hmT : (P, X.env.qual ++ "<lambda>") ∈ TK X.K) (hu : ∀ p ∈ TK X.K, p.1 = P → p.2 = X.env.qual ++ "<lambda>") (hr : Room (k + 2) X.A) (L : LamS X.env.scope scope) (hdef : defaultsOf params X.env = ([], []))
    (hbind : ∀ (q : Str) (cl : List (Str × Addr)) (pm cv ctv : Value), bindArgs (PySem.W.kla_fn "<lambda>" q params body scope cl pm cv ctv) ⟨[], []⟩ = pure [])
    (hbody : ∀ (A : Around) (outer : List PySem.Env) (s : Shared) (H : Hp) (E : XK) (f c' : Addr), Room k (A.deeper (lamEnv X scope s.heap.objs.size f c')) → VE (lamCx X A outer s H E scope f c') rE (fun cls d _ H => E cls d H) body fe)
    (hdb : (x == ("__debug__" : Str)) = false := by decide) (hd : (a == ("__debug__" : Str)) = false := by decide) (hcd : (a == ("__classdict__" : Str)) = false := by decide) :
    VE X rE W (.Call (.Name x p) [.Lambda params body scope lpos] [] pos) (dWhy F fe) :=
  weak (pe_lamcall (T := TK X.K) (t := fun E => tV X.K X.mg rE (fun cls d _ H => E cls d H) fe) hg hm hk lk hcg hb Sg hNg hva hG TB hcode hmT hu hr L hdef hbind hbody hdb hd hcd) fun σ H Q ⟨B, A, r, w, hs, hp, q⟩ => by
  refine ⟨hs.tq.l.t ▸ hp.1.2, fun H1 eN T1 => ?_⟩
  have e1 : ∀ b o, NT o → H b = some o → H1 b = some o := fun b o n e => eN b o e fun ps z => by rw [z] at n; exact n
  have kp : Kp B.p H H1 := ⟨fun b o _ n e => e1 b o n e, fun b ⟨o, e, n⟩ => ⟨o, e1 b o n e, n⟩⟩
  have tr1 : ∀ a, A a → ∃ o, H1 a = some o ∧ WO o := fun a z => let ⟨o, e, wo⟩ := hs.tr a z; ⟨o, e1 _ _ wo.nt e, wo⟩
  obtain ⟨⟨ok, _⟩, l, g1, g2, g3⟩ := hp
  have hp1 : PenAt B.p B.lc A H1 w := ⟨⟨ok, hs.tq.l.t ▸ T1⟩, l, e1 _ _ trivial g1, e1 _ _ trivial g2, g3⟩
  refine ⟨B.p, B.lc, A, w, capV σ r, capD r, fe (plainE r), tr1, hp1, (hs.keep kp).lco, (hs.keep kp).cap, fun E H' Q' p' lc' A' w' tr' pn' tq' rl' po' => ?_, ?_⟩
  · refine ⟨⟨p', lc', A', H'⟩, A', _, w', cap_ok hs tr' pn' tq' rl', pn', ?_⟩
    cases z : fe (plainE r) w' with
    | ok d w2 => rw [z] at po'; exact po'
    | exc m fs w2 => rw [z] at po'; exact po'
    | bad => rw [z] at po'; exact po'
  · unfold dWhy at q
    cases z : F (fe (plainE r)) w with
    | ok d w2 => rw [z] at q; exact fun v H' k p r => q v H' (kp.trans k) p r
    | exc m fs w2 => rw [z] at q; exact q.elim
    | bad => rw [z] at q; exact q
end DL

set_option Elab.async false
set_option linter.all false
set_option maxRecDepth 100000
set_option maxHeartbeats 2000000
namespace DL
open PySem PySem.SeqAt PySem.Spec PyProof.Rows L2

/-! ### raise C(..), C's fields fl being its __init__'s parameters -/
def spXI (C : Addr) (fl : List Str) : Sp := fun vs H Q _ => ∃ (a : Addr) (ws : List V), vs = .ref a :: ws ∧ ws.length = fl.length ∧ H a = some (exo a C none) ∧
  ∀ (d : Addr) (H' : Hp), H d = none → d ≠ a → H' a = some (exo a C (some d)) → H' d = some (exd d (fl.zip ws).reverse) → (∀ b, b ≠ a → b ≠ d → H' b = H b) → Q .non H'
section
variable {P : Program} {w : World} {K : PySem.W.Frag} {mg : Str → Option Value} {base : Heap}
theorem xinit1_ok {qual f : Str} {st : Stmt} {fI C : Addr} {fd : FuncData} {N ps : List Str} (F : Fun K "__init__" qual st fI fd) (S : FnScope N ps (defScope st)) (hN : N.length = 2) (hps : ps.length = 2) (T : OexC K C) (no : PySem.W.findIn K (.ref C) f = some none)
    (hb : ∀ (cdv : Value) (A : Around) (outer : List PySem.Env) (s : Shared) (H : Hp) (E : XK), PSs (cxOf (L2.CX P w) P w K mg base N qual (defScope st) fI cdv A outer s H E) (defBody st) (tOst K f (tVar 0) (tVar 1))) :
    FnOk P w K mg base (L2.CX P w) 1 fI fd ps (spXI C [f]) := by
  refine F.okX S (fun vs H Q E h => ?_) (fun cdv A outer s H vs Q E hr h => ⟨_, hb cdv A outer s H E, ?_⟩)
  · obtain ⟨a, ws, rfl, hl, _⟩ := h
    rw [List.length_cons, hl, hps]; rfl
  · obtain ⟨a, ws, rfl, hl, ha, q⟩ := h
    obtain ⟨v, rfl⟩ : ∃ v, ws = [v] := by
      cases ws with
      | nil => cases hl
      | cons v r => cases r with
        | nil => exact ⟨v, rfl⟩
        | cons _ _ => cases hl
    refine ⟨v, rfl, .ref a, rfl, a, C, rfl, T, no, .inl ⟨ha, fun dx hdx ne => ?_⟩⟩
    refine q dx _ hdx ne upd_same ?_ fun b h1 h2 => ?_
    · rw [upd_ne ne, upd_same]; rfl
    · rw [upd_ne h1, upd_ne h2]
theorem xinit2_ok {qual f g : Str} {st : Stmt} {fI C : Addr} {fd : FuncData} {N ps : List Str} (F : Fun K "__init__" qual st fI fd) (S : FnScope N ps (defScope st)) (hN : N.length = 3) (hps : ps.length = 3) (T : OexC K C) (no : PySem.W.findIn K (.ref C) f = some none) (no2 : PySem.W.findIn K (.ref C) g = some none)
    (hb : ∀ (cdv : Value) (A : Around) (outer : List PySem.Env) (s : Shared) (H : Hp) (E : XK), PSs (cxOf (L2.CX P w) P w K mg base N qual (defScope st) fI cdv A outer s H E) (defBody st) (tSeq (tOst K f (tVar 0) (tVar 1)) (tOst K g (tVar 0) (tVar 2)))) :
    FnOk P w K mg base (L2.CX P w) 1 fI fd ps (spXI C [f, g]) := by
  refine F.okX S (fun vs H Q E h => ?_) (fun cdv A outer s H vs Q E hr h => ⟨_, hb cdv A outer s H E, ?_⟩)
  · obtain ⟨a, ws, rfl, hl, _⟩ := h
    rw [List.length_cons, hl, hps]; rfl
  · obtain ⟨a, ws, rfl, hl, ha, q⟩ := h
    obtain ⟨v, u, rfl⟩ : ∃ v u, ws = [v, u] := by
      cases ws with
      | nil => cases hl
      | cons v r => cases r with
        | nil => cases hl
        | cons u r => cases r with
          | nil => exact ⟨v, u, rfl⟩
          | cons _ _ => cases hl
    refine ⟨v, rfl, .ref a, rfl, a, C, rfl, T, no, .inl ⟨ha, fun dx hdx ne => ?_⟩⟩
    refine ⟨u, rfl, .ref a, rfl, a, C, rfl, T, no2, .inr ⟨dx, [(f, v)], upd_same, ?_, ?_, ?_⟩⟩
    · rw [upd_ne ne, upd_same]
    · show 1 ≤ 900; decide
    · refine q dx _ hdx ne ?_ upd_same fun b h1 h2 => ?_
      · rw [upd_ne (Ne.symm ne), upd_same]
      · rw [upd_ne h2, upd_ne h1, upd_ne h2]
end
/-- what is known of an own error's class -/
structure XC (P : Program) (w : World) (K : PySem.W.Frag) (mg : Str → Option Value) (base : Heap) (n : Str) (fl : List Str) : Prop where
  ex : ∃ (C fI : Addr) (fd : FuncData) (ps : List Str), mg n = some (.ref C) ∧ OexC K C ∧ PySem.W.findIn K (.ref C) "__init__" = some (some (.ref fI)) ∧ PySem.W.typeIn K (.ref fI) = some (.type "function") ∧
    FnOk P w K mg base (L2.CX P w) 1 fI fd ps (spXI C fl) ∧ Binds K fd ps []
def sRaise (n : Str) (fl : List Str) (fa : IM) : SM := fun r w => match fa (rel all_ r) w with
  | .ok ds w' => if ds.length = fl.length then .exc n (fl.zip ds).reverse (rel all_ r) w' else .bad
  | .exc m fs w' => .exc m fs (rel all_ r) w'
  | .bad => .bad
theorem zip_map {α β : Type} : ∀ {l : List α} {m : List β}, m.length = l.length → (l.zip m).map (·.1) = l ∧ (l.zip m).map (·.2) = m
  | [], [], _ => ⟨rfl, rfl⟩
  | [], _ :: _, h => by cases h
  | _ :: _, [], h => by cases h
  | a :: l, b :: m, h => by
    obtain ⟨h1, h2⟩ := zip_map (l := l) (m := m) (by simpa using h)
    exact ⟨by rw [List.zip_cons_cons, List.map_cons, h1], by rw [List.zip_cons_cons, List.map_cons, h2]⟩
theorem RepL.rev {c : Cf} {A : Addr → Prop} {H : Hp} : ∀ {vs : List V} {ds : List D}, RepL c A H vs ds → RepL c A H vs.reverse ds.reverse
  | _, _, .nil => .nil
  | _, _, .cons h r => by
    rw [List.reverse_cons, List.reverse_cons]
    exact (RepL.rev r).snoc h
section
variable {X : Cx} {W : WX} {e : Expr} {es : List Expr} {fa : IM} {p pos pos2 : Pos} {n : Str} {fl : List Str}
theorem vs_raise (T : XC X.prog X.w X.K X.mg X.base n fl) (tk : Takes X W) (hr : Room 2 X.A) (hsm : fl.length ≤ 900) (ha : VA X rE W (e :: es) fa) (hc : X.calm = true := by rfl) (hg : Gl X n := by rfl)
    (hdb : (n == ("__debug__" : Str)) = false := by decide) (he : starEach (e :: es) X.env = (false, eval e X.env) :: starEach es X.env := by rfl) (hpl : (backTo pos (starEach es X.env)).any (·.1) = false := by rfl) :
    VS X W (.Raise (some (.Call (.Name n p) (e :: es) [] pos)) none pos2) (sRaise n fl fa) := by
  obtain ⟨C, fI, fd, ps, Tmg, Tox, TiC, TtI, Tfo, Tbi⟩ := T.ex
  refine weakS (ps_raise hc tk (pmk_oex Tox TiC TtI Tfo hr Tbi .nil passL hg Tmg ha hdb he hpl)) fun Z σ H ⟨B, A, r, w, hs, hp, q⟩ => ?_
  have hs1 := hs.rel all_
  have hp1 : PenAt B.p B.lc (fun a => A a ∧ ¬ OwnBy all_ σ r a) H w := hp.less fun a z => .inl z.1
  refine ⟨B, _, _, w, hs1, hp1, ?_⟩
  unfold sRaise at q
  cases z : fa (rel all_ r) w with
  | bad => rw [z] at q; exact q
  | exc m fs w1 => rw [z] at q; exact fun cls dd H' k p e => q cls dd σ H' _ (hs1.keep k) p e
  | ok ds w1 =>
    rw [z] at q
    simp only at q
    split at q
    · rename_i hl
      intro vs H1 k1 p1 r1
      have r2 := r1.e
      have hvl : vs.length = fl.length := by rw [r2.len, hl]
      refine ⟨by rw [hvl]; omega, fun a ha => ⟨a, vs, by rw [List.append_nil], hvl, upd_same, fun d H' hd ne h1 h2 h3 => ⟨rfl, d, _, h1, h2, ?_, ?_⟩⟩⟩
      · rw [upd_ne ne] at hd; exact hd
      · have hd1 : H1 d = none := by rw [upd_ne ne] at hd; exact hd
        have sm : Same H1 (upd (del H' a) d (.xd (fl.zip vs).reverse)) := fun b o eb => by
          have ba : b ≠ a := ne_of_none eb ha
          have bd : b ≠ d := ne_of_none eb hd1
          rw [upd_ne bd, del_ne ba, h3 b ba bd, upd_ne ba]; exact eb
        have hs2 := hs1.keep (k1.trans (.of sm))
        have hz := zip_map (l := fl) (m := vs) hvl
        have hz2 := zip_map (l := fl) (m := ds) hl
        have fr := (hs1.keep k1).fresh hd1
        refine q (.ref C) (some d) σ _ _ hs2 (p1.keep sm) ⟨C, rfl, Tmg, _, upd_same, fr.2, fr.1, ?_, ?_⟩
        · rw [List.map_reverse, List.map_reverse, hz.1, hz2.1]
        · rw [List.map_reverse, List.map_reverse, hz.2, hz2.2]
          exact (r2.keepA (Kp.a (.of sm))).rev
    · exact q.elim
end
end DL

set_option Elab.async false
set_option linter.all false
set_option maxRecDepth 100000
set_option maxHeartbeats 2000000
namespace DL
open PySem PySem.SeqAt PySem.Spec PyProof.Rows L2

/-! ### own errors as values -/
def tErrV (C : Addr) (sp : Sp) (ta : TA) : TE := fun σ H Q => ta σ H fun vs H1 => vs.length ≤ 1000 ∧ ∀ a, H1 a = none → sp (.ref a :: vs) (upd H1 a (exo a C none)) (fun v H2 => v = .non ∧ Q (.ref a) H2) (fun _ _ _ => False)
section
variable {X : Cx} {W : WX} {e : Expr} {es : List Expr} {fa : IM} {p pos : Pos} {n : Str} {fl : List Str}
theorem pe_errv {x : Str} {C fI : Addr} {k : Nat} {fd : FuncData} {ps : List Str} {sp : Sp} {ta : TA} (T : OexC X.K C) (iC : PySem.W.findIn X.K (.ref C) "__init__" = some (some (.ref fI))) (tI : PySem.W.typeIn X.K (.ref fI) = some (.type "function"))
    (F1 : FnOk X.prog X.w X.K X.mg X.base (L2.CX X.prog X.w) k fI fd ps sp) (hr : Room (k + 1) X.A) (hb : Binds X.K fd ps []) (hg : Gl X x) (hm : X.mg x = some (.ref C)) (ha : PA X (e :: es) ta)
    (hdb : (x == ("__debug__" : Str)) = false := by decide) (he : starEach (e :: es) X.env = (false, eval e X.env) :: starEach es X.env := by rfl) (hpl : (backTo pos (starEach es X.env)).any (·.1) = false := by rfl) :
    PE X (.Call (.Name x p) (e :: es) [] pos) (tErrV C sp ta) := by
  constructor
  intro pins s σ H Q I h
  obtain ⟨_, _, _, _, bm, _, _, _, _, _, _, _, _, _, _, hC, hbm⟩ := T.cls
  apply wpAny_Call_Name_kw
  refine ld_glob I hg hm ?_ hdb
  refine PySem.W.callWith_K (h₀ := X.base) I.ok.mod.kin T.kC (thn (ha.run pos pins s σ H _ I h) fun us s1 hh => ?_) he hpl
  obtain ⟨vs, H1, I1, r1, hz, q1⟩ := hh
  refine ⟨I1.kIn, ?_⟩
  obtain ⟨hp, g, dr, tk, os⟩ := s1
  generalize ha' : hp.objs.size + 1 = a
  have hsz : hp.objs.size ≤ a := by omega
  have hq := q1 a (I1.hok.fresh hsz)
  have I2 : Inv X pins σ (upd H1 a (exo a C none)) ⟨(hp.push (PySem.W.kdv_tup us)).push (PySem.HandSPX.excO C hp.objs.size), g, dr, tk, os⟩ := by
    subst ha'
    exact I1.laid (t' := tk) (fun b o e => Heap.get?_push_of_some _ (Heap.get?_push_of_some _ e)) hsz (exo_ok (t1 := hp.objs.size) (by heap_get))
  have r2 : Vals (V.ref a :: vs) (Value.ref a :: us) := .cons rfl r1
  have hl : (Value.ref a :: us).length = ps.length := by rw [← r2.length, F1.len _ _ _ _ hq]
  have hb2 := hb ⟨(hp.push (PySem.W.kdv_tup us)).push (PySem.HandSPX.excO C hp.objs.size), g, dr, tk, os⟩ (Value.ref a :: us) I2.kIn (by rw [List.append_nil]; exact hl)
  rw [List.append_nil] at hb2
  have run := F1.run _ X.stack _ _ ⟨Value.ref a :: us, []⟩ (Value.ref a :: us) _ _ (fun _ _ _ => False) (hr.make C us []) (I2.env0.make C us []) hb2 r2 hq
  have hus : us.length ≤ sizeLine := by rw [← Paired.length r1, sizeLine_eq]; omega
  subst ha'
  refine wpAny_call (PySem.HandSPX.call_own F.excBase_ValueError (fun Y => PySem.HandSPX.refsVE_contains Y bm hbm) (I1.kIn _ _ hC) (PySem.W.looks_findIn I1.kIn iC) (fun self => PySem.W.bind_fn I1.kIn self tI) hus (codeAny_mono run fun r s' z => ?_))
  match r, z with
  | .error er, z =>
    obtain ⟨_, _, _, _, _, _, _, _, _, _, _, _, q⟩ := z
    exact q.elim
  | .ok (.ret u), z =>
    obtain ⟨v, H2, J, rv, ev, q2⟩ := I2.after z
    subst ev
    exact ⟨rv, .ref (hp.objs.size + 1), H2, J, rfl, q2⟩
  | .ok .next, z => exact z.elim
  | .ok .brk, z => exact z.elim
  | .ok .cont, z => exact z.elim
def dErr (n : Str) (fl : List Str) (fa : IM) : EM := fun r w => (fa r w).toR fun ds w' => if ds.length = fl.length then .ok (.err n (fl.zip ds).reverse) w' else .bad
theorem ve_err (T : XC X.prog X.w X.K X.mg X.base n fl) (hr : Room 2 X.A) (hsm : fl.length ≤ 900) (ha : VA X rE W (e :: es) fa) (hg : Gl X n := by rfl)
    (hdb : (n == ("__debug__" : Str)) = false := by decide) (he : starEach (e :: es) X.env = (false, eval e X.env) :: starEach es X.env := by rfl) (hpl : (backTo pos (starEach es X.env)).any (·.1) = false := by rfl) :
    VE X rE W (.Call (.Name n p) (e :: es) [] pos) (dErr n fl fa) := by
  obtain ⟨C, fI, fd, ps, Tmg, Tox, TiC, TtI, Tfo, Tbi⟩ := T.ex
  refine weak (pe_errv Tox TiC TtI Tfo hr Tbi hg Tmg ha hdb he hpl) fun σ H Q ⟨B, A, r, w, hs, hp, q⟩ => ?_
  refine ⟨B, A, r, w, hs, hp, ?_⟩
  unfold dErr at q
  cases z : fa r w with
  | bad => rw [z] at q; exact q
  | exc m fs w1 => rw [z] at q; exact q
  | ok ds w1 =>
    rw [z] at q
    unfold ResI.toR at q
    simp only at q
    split at q
    · rename_i hl
      intro vs H1 k1 p1 r1
      have r2 := r1.e
      have hvl : vs.length = fl.length := by rw [r2.len, hl]
      refine ⟨by rw [hvl]; omega, fun a ha => ⟨a, vs, rfl, hvl, upd_same, fun d H' hd ne h1 h2 h3 => ⟨rfl, ?_⟩⟩⟩
      have hd1 : H1 d = none := by rw [upd_ne ne] at hd; exact hd
      have sm : Same H1 H' := fun b o eb => by
        have ba : b ≠ a := ne_of_none eb ha
        have bd : b ≠ d := ne_of_none eb hd1
        rw [h3 b ba bd, upd_ne ba]; exact eb
      have hz := zip_map (l := fl) (m := vs) hvl
      have hz2 := zip_map (l := fl) (m := ds) hl
      have fa' := (hs.keep k1).fresh ha
      have fd' := (hs.keep k1).fresh hd1
      refine q _ H' (k1.trans (.of sm)) (p1.keep sm) (.err Tmg ⟨fa'.1, fa'.2, .inl ⟨d, h1, h2, fd'.1, fd'.2⟩⟩ ?_ ?_)
      · rw [List.map_reverse, List.map_reverse, hz.1, hz2.1]
      · rw [List.map_reverse, List.map_reverse, hz.2, hz2.2]
        exact (r2.keepA (Kp.a (.of sm))).rev
    · exact q.elim
end
/-! C(), a class without an own __init__ -/
structure XC0 (K : PySem.W.Frag) (mg : Str → Option Value) (n : Str) : Prop where
  ex : ∃ (C : Addr) (bmB : List Value) (B newId initId : String), mg n = some (.ref C) ∧ ExcBaseFacts B newId initId bmB ∧ PySem.W.excIn K C bmB newId = true ∧ PySem.W.keepIn K (.ref C) = true ∧ PySem.W.subIn K (.ref C) (.type "BaseException") = some true ∧ PySem.W.typeIn K (.ref C) = some (.type "type")
section
variable {X : Cx} {W : WX} {p pos pos2 : Pos} {n : Str}
theorem pe_err0 (T : XC0 X.K X.mg n) (hg : Gl X n := by rfl) (hdb : (n == ("__debug__" : Str)) = false := by decide) :
    PE X (.Call (.Name n p) [] [] pos) (fun σ H Q => ∀ a C, X.mg n = some (.ref C) → H a = none → Q (.ref a) (upd H a (ExO (.ref C) a))) := by
  obtain ⟨C, bmB, B, newId, initId, hm, F, q, kC, sC, tC⟩ := T.ex
  constructor
  intro pins s σ H Q I h
  apply wpAny_Call_Name_kw
  refine ld_glob I hg hm ?_ hdb
  refine PySem.W.callWith_K0 I.kIn kC ?_
  obtain ⟨hp, g, d, t, os⟩ := s
  obtain ⟨_, _, _, _, _, _, _, _, _, _, _, _, _, _, _, _, _, hC, hN, hni, T⟩ := exc_obj I.kIn q
  refine wpAny_call_exc_subT F T hC hN hni (fun h' a hm' => ?_) (Nat.zero_le _)
  have hn : H a = none := I.hok.gone hm'.new
  obtain ⟨t, ht, _, _⟩ := hm'.there
  exact ⟨.ref a, upd H a (ExO (.ref C) a), I.laidN hm'.keeps hm'.new hn (exO_ok ht ⟨rfl, rfl⟩ rfl rfl rfl (show 4 < 6 by decide)), rfl, h a C hm hn⟩
theorem ve_err0 (T : XC0 X.K X.mg n) (hg : Gl X n := by rfl) (hdb : (n == ("__debug__" : Str)) = false := by decide) : VE X rE W (.Call (.Name n p) [] [] pos) (dC (.err n [])) :=
  weak (pe_err0 T hg hdb) fun σ H Q ⟨B, A, r, w, hs, hp, q⟩ a C hm ha => by
  have sm : Same H (upd H a (ExO (.ref C) a)) := same_new ha
  have fr := hs.fresh ha
  exact q _ _ (.of sm) (hp.keep sm) (.err hm ⟨fr.1, fr.2, .inr ⟨upd_same, rfl⟩⟩ rfl .nil)
end
/-! its class, its fields -/
structure EFact (K : PySem.W.Frag) (C : Addr) : Prop where
  xf : XfC K C
  cl : (PySem.W.clsIn K C).isSome = true
  ca : PySem.W.findIn K (.ref C) "__class__" = some (some (.builtin "object.__class__"))
  sg : PySem.W.specialIn K (.builtin "object.__class__") "__get__" = some (some (.builtin "getset_descriptor.__get__"))
  tk : PySem.W.takesIn K (.builtin "object.__class__") = some true
  mo : PySem.W.mroIn K C (.type "object") = some true
/-- an error's object stands there -/
theorem err_at {X : Cx} {pins : List (Addr × Obj)} {σ : L2.St} {H : Hp} {s : Shared} {p a C : Addr} {A : Addr → Prop} {fvs : List (Str × V)} (I : Inv X pins σ H s) (h : EShape p A H a C fvs) : ∃ (oe : Obj) (od : Option Obj), PySem.W.InstAt s.heap a oe C od := by
  obtain ⟨_, _, h⟩ := h
  rcases h with ⟨dx, h1, h2, _, _⟩ | ⟨h1, _⟩
  · obtain ⟨t1, e1⟩ := exo_at I.hok h1
    obtain ⟨mA, hns, hr⟩ := exd_at I.hok h2
    obtain ⟨od, ho, hl⟩ := lookIn_ns hns
    exact ⟨_, some od, e1, rfl, rfl, ho⟩
  · obtain ⟨⟨oe, vs, e1, ez, ed, _⟩, _, _⟩ := I.hok a _ h1
    exact ⟨oe, none, e1, ez.1, by unfold PySem.W.notCls; rw [ed] <;> rfl, by rw [ez.2]; trivial⟩
section
variable {X : Cx} {W : WX} {e : Expr} {fe : EM} {pos : Pos}
def tFldE (C : Addr) (f : Str) (te : TE) : TE := fun σ H Q => te σ H fun x H1 => ∃ (p a : Addr) (A : Addr → Prop) (fvs : List (Str × V)) (v : V), x = .ref a ∧ EShape p A H1 a C fvs ∧ fvs.lookup f = some v ∧ Q v H1
theorem pe_fldE {C : Addr} {te : TE} {f : Str} (T : XfC X.K C) (hno : PySem.W.findIn X.K (.ref C) f = some none) (he : PE X e te) (hb : attributeBase e f X.env (eval e X.env) = eval e X.env := by rfl) : PE X (.Attribute e f pos) (tFldE C f te) := by
  constructor
  intro pins s σ H Q I h
  refine attr_of hb (thn (he.run pins s σ H _ I h) fun u s1 hh => ?_)
  obtain ⟨x, H1, I1, rx, p, a, A, fvs, v, ex, ⟨_, _, sh⟩, l, q⟩ := hh
  subst ex
  cases rx
  rcases sh with ⟨dx, h1, h2, _, _⟩ | ⟨_, h2⟩
  · obtain ⟨t1, e1⟩ := exo_at I1.hok h1
    obtain ⟨mA, hns, hr⟩ := exd_at I1.hok h2
    obtain ⟨od, ho, hl⟩ := lookIn_ns hns
    obtain ⟨u, hu, ru⟩ := RelO.some_of (v := v) (o := mA f) (by rw [← l]; exact hr f)
    have J : PySem.W.InstAt s1.heap a _ C (some od) := ⟨e1, rfl, rfl, ho⟩
    exact HandSPX.exc_get I1.kIn J T.ga T.gg T.exC (PySem.W.findObj_own T.hdC hno rfl (by rw [hl, hu])) (handed_of ru) ⟨v, H1, I1.tok _, ru, q⟩
  · rw [h2] at l; cases l
/-- e.f, e an error of the class n -/
def dFldE (n f : Str) (fe : EM) : EM := fun r w => (fe r w).bind fun d w' => match d with
  | .err m fs => if m = n then Res.of (fs.lookup f) w' else .bad
  | _ => .bad
theorem ve_fldE {n f : Str} {C : Addr} (hm : X.mg n = some (.ref C)) (T : XfC X.K C) (hno : PySem.W.findIn X.K (.ref C) f = some none) (he : VE X rE W e fe) (hb : attributeBase e f X.env (eval e X.env) = eval e X.env := by rfl) : VE X rE W (.Attribute e f pos) (dFldE n f fe) :=
  weak (pe_fldE T hno he hb) fun σ H Q ⟨B, A, r, w, hs, hp, q⟩ => ⟨B, A, r, w, hs, hp, q.bind fun d w1 v H1 k1 p1 r1 q1 => by
    cases d <;> first | exact q1.elim | skip
    rename_i m fs
    simp only at q1
    split at q1
    · rename_i em
      subst em
      unfold Res.of at q1
      split at q1
      · rename_i d ed
        cases r1 with | err g sh ek rl =>
        have g : X.mg m = _ := g
        rw [hm] at g
        cases g
        obtain ⟨i, y, y1, y2, y3⟩ := lookup_map ek ed
        obtain ⟨d', d1, d2⟩ := rl.at y2
        rw [y3] at d1; cases d1
        exact ⟨_, _, _, _, _, rfl, sh, y1, q1 _ H1 .refl p1 d2⟩
      · exact q1.elim
    · exact q1.elim⟩
/-- isinstance(e, x), e an own error: by a table -/
def isiE (tb : Str → Option Bool) (fe : EM) : EM := fun r w => (fe r w).bind fun d w' => match d with
  | .err m _ => Res.of ((tb m).map .bl) w'
  | _ => .bad
def rIsiE (K : PySem.W.Frag) : List V → Hp → VK → Prop := fun xs H Q => ∃ (p a C : Addr) (A : Addr → Prop) (fvs : List (Str × V)) (c : V) (u : Value) (b : Bool), xs = [.ref a, c] ∧ (∀ w, RelV c w → w = u) ∧ EShape p A H a C fvs ∧ EFact K C ∧ PySem.W.kitOne K (.ref C) u = some b ∧ Q (.bl b) H
theorem call_isiE : CallR X (.builtin "isinstance") (rIsiE X.K) := by
  intro pins s σ H xs us Q I r h
  obtain ⟨p, a, C, A, fvs, c, u, b, rfl, hu, sh, T, e, q⟩ := h
  cases r with | cons r1 r2 => cases r2 with | cons r2 r3 => cases r3 with | nil =>
  cases r1
  have e2 := hu _ r2
  subst e2
  obtain ⟨oe, od, J⟩ := err_at I sh
  exact PySem.W.kia_one (PySem.W.kitx_exc T.cl T.xf.ga T.xf.gg T.xf.exC T.ca T.sg T.tk T.mo) I.kIn J e (fun z => nomatch z) fun tk => ⟨.bl b, H, I.tok tk, rfl, q⟩
theorem isiE_of {c : V} {u : Value} {p p1 : Pos} {tb : Str → Option Bool} {te2 : Expr} (hi : X.mg "isinstance" = none) (h2 : PE X te2 (tC c)) (hu : ∀ w, RelV c w → w = u) (hT : ∀ n b, tb n = some b → ∀ C, X.mg n = some (.ref C) → EFact X.K C ∧ PySem.W.kitOne X.K (.ref C) u = some b) (he : VE X rE W e fe) (hg : Gl X "isinstance")
    (hs : starEach [e, te2] X.env = (false, eval e X.env) :: starEach [te2] X.env) (hs2 : starEach [te2] X.env = (false, eval te2 X.env) :: starEach [] X.env) (hpl : (backTo pos (starEach [te2] X.env)).any (·.1) = false) :
    VE X rE W (.Call (.Name "isinstance" p) [e, te2] [] pos) (isiE tb fe) :=
  weak (pe_callB call_isiE hg hi boot_isinstance (pa_cons he (pa_cons h2 pa_nil hs2) hs) (by decide) (by decide) hs hpl) fun σ H Q ⟨B, A, r, w, hs, hp, q⟩ => ⟨B, A, r, w, hs, hp, q.bind fun d w1 v H1 k1 p1 r1 q1 => by
    cases d <;> first | exact q1.elim | skip
    rename_i m fs
    cases z : tb m with
    | none => simp only [z] at q1; exact q1.elim
    | some b =>
      simp only [z] at q1
      cases r1 with | err g sh ek rl =>
      obtain ⟨f1, f2⟩ := hT m b z _ g
      exact ⟨_, _, _, _, _, c, u, b, rfl, hu, sh, f1, f2, q1 _ H1 .refl p1 (.bl b)⟩⟩
theorem ve_isiE {x : Str} {D : Addr} {tb : Str → Option Bool} {p p1 : Pos} (hi : X.mg "isinstance" = none) (hx : X.mg x = some (.ref D)) (hT : ∀ n b, tb n = some b → ∀ C, X.mg n = some (.ref C) → EFact X.K C ∧ PySem.W.kitOne X.K (.ref C) (.ref D) = some b) (he : VE X rE W e fe) (hg : Gl X "isinstance" := by rfl) (hgx : Gl X x := by rfl)
    (hdx : (x == ("__debug__" : Str)) = false := by decide) (hs : starEach [e, .Name x p1] X.env = (false, eval e X.env) :: starEach [.Name x p1] X.env := by rfl) (hs2 : starEach [.Name x p1] X.env = (false, eval (.Name x p1) X.env) :: starEach [] X.env := by rfl) (hpl : (backTo pos (starEach [.Name x p1] X.env)).any (·.1) = false := by rfl) :
    VE X rE W (.Call (.Name "isinstance" p) [e, .Name x p1] [] pos) (isiE tb fe) :=
  isiE_of (p1 := p1) hi (pe_glob (v := .ref D) hgx hx rfl hdx) (fun w z => z) hT he hg hs hs2 hpl
theorem ve_isiEb {x : Str} {t : String} {tb : Str → Option Bool} {p p1 : Pos} (hi : X.mg "isinstance" = none) (hx : X.mg x = none) (hv : bootBuiltins x = some (.type t)) (hT : ∀ n b, tb n = some b → ∀ C, X.mg n = some (.ref C) → EFact X.K C ∧ PySem.W.kitOne X.K (.ref C) (.type t) = some b) (he : VE X rE W e fe) (hg : Gl X "isinstance" := by rfl) (hgx : Gl X x := by rfl) (hnx : x ≠ "__name__" := by decide)
    (hdx : (x == ("__debug__" : Str)) = false := by decide) (hs : starEach [e, .Name x p1] X.env = (false, eval e X.env) :: starEach [.Name x p1] X.env := by rfl) (hs2 : starEach [.Name x p1] X.env = (false, eval (.Name x p1) X.env) :: starEach [] X.env := by rfl) (hpl : (backTo pos (starEach [.Name x p1] X.env)).any (·.1) = false := by rfl) :
    VE X rE W (.Call (.Name "isinstance" p) [e, .Name x p1] [] pos) (isiE tb fe) :=
  isiE_of (p1 := p1) hi (pe_bltn (v := .ty t) hgx hx hv rfl hnx hdx) (fun w z => z) hT he hg hs hs2 hpl
end
/-! the suite of an except clause: found.append(e) -/
section
variable {X : Cx} {io : Option Nat} {a : Addr} {oe : Obj} {cls : Value} {dd : Option Addr} {pn : List (Addr × Obj)} {e : Expr} {f : FM} {pos : Pos}
theorem xs_app {i : Nat} {x : Str} {p apos cpos : Pos} (caps : List Nat) (he : EX X io a oe cls dd pn rE e f) (hN : X.N[i]? = some x := by rfl) (hv : Vis X.env.scope x := by first | exact Or.inl rfl | exact Or.inr (Or.inl rfl) | exact Or.inr (Or.inr rfl)) (hd : (x == ("__debug__" : Str)) = false := by decide) (hcd : (x == ("__classdict__" : Str)) = false := by decide)
    (hbase : attributeBase (.Name x p) "append" X.env (eval (.Name x p) X.env) = eval (.Name x p) X.env := by rfl)
    (hfew : ((backTo cpos (starEach [e] X.env)).all (fun x => !x.1) && (backToKw cpos (keywordEach [] X.env)).all (fun x => x.1.isSome)
      && decide (([e] : List Expr).length + ([] : List Keyword).length + (if ([] : List Keyword).isEmpty then 0 else 1) < 30)) = true := by rfl)
    (hline : (apos.endLine == cpos.line) = true := by rfl) (hs : starEach [e] X.env = (false, eval e X.env) :: starEach [] X.env := by rfl) (hplain : (backTo cpos (starEach [] X.env)).any (·.1) = false := by rfl)
    (hsw : swapsWith (.Call (.Attribute (.Name x p) "append" apos) [e] [] cpos) none pos.line X.env = pure false := by rfl) : EXS X io a oe cls dd pn [.Expr (.Call (.Attribute (.Name x p) "append" apos) [e] [] cpos) pos] (fun n fs => sApp i caps (f n fs)) :=
  weakSs (pss_one (ps_expr (X := X.suite a ((a, oe) :: pn)) (pe_bm PySem.F.plainAttrs_list PySem.F.slot_list_append PySem.F.type_list_append mt_append (pe_var hN hv hd hcd) (pa_cons he pa_nil hs) hbase hfew hline hs hplain) hsw)) fun D σ H ⟨B, A, r, w, n, fs, hs, hp, sl, er, q⟩ => by
  have hs1 := hs.rel (these caps)
  have q : PostS X.K X.mg B W0 D (sApp i caps (f n fs) r w) := q
  unfold sApp at q
  split at q
  · exact q.elim
  · rename_i l el
    have e0 := ownL_at el
    obtain ⟨b, h1, hA, h0, vs, g1, g2⟩ := hs1.ow i _ e0
    refine ⟨.ref b, h1, .inl ⟨rfl, vs, SqL.of g1⟩, B, _, _, w, n, fs, hs1, hp.less fun a z => .inl z.1, sl, er.less fun a z => .inl z.1, PostS.en hs1 q fun d w' v H1 k p rv q => ?_⟩
    split at q
    · rename_i hl
      have nap : b ≠ B.p := fun z => hs1.np (z ▸ hA)
      have g3 : H1 b = some (.lst vs) := k.k b _ nap trivial g1
      have g4 := g2.keepA (Kp.a k)
      refine ⟨b, vs, v, rfl, rfl, g3, by rw [g4.len]; exact hl, q _ _ _ ((hs1.keep k).write e0 h1 ⟨_, upd_same, (g4.snoc rv).keepA (KpA.upd hA)⟩) (p.write hA ⟨_, g3, trivial⟩)⟩
    · exact q.elim
end
end DL

set_option Elab.async false
set_option linter.all false
set_option maxRecDepth 100000
set_option maxHeartbeats 2000000
namespace DL
open PySem PySem.SeqAt PySem.Spec PyProof.Rows L2

/-! ### the pen: pen['count'], .. -/
def penI (i : Nat) (r : Env) : Bool := match r[i]? with
  | some (some (.pen, false)) => true
  | _ => false
def dPen (i : Nat) (g : Wd → Int) : EM := fun r w => if penI i r = true then .ok (.int (g w)) w else .bad
theorem RepL.ints {c : Cf} {A : Addr → Prop} {H : Hp} : ∀ (l : List Int), RepL c A H (l.map V.int) (l.map D.int)
  | [] => .nil
  | i :: l => .cons (.int i) (RepL.ints l)
theorem pen_at {K : PySem.W.Frag} {mg : Str → Option Value} {B : Bs} {A : Addr → Prop} {σ : L2.St} {H : Hp} {r : Env} {i : Nat} (hs : StOk K mg B A σ H r) (h : penI i r = true) : σ[i]? = some (some (.ref B.p)) := by
  unfold penI at h
  split at h
  · rename_i e
    obtain ⟨v, h1, h2⟩ := hs.pl i _ e
    cases h2
    exact h1
  · cases h
section
variable {X : Cx} {W : WX} {e : Expr} {fe : EM} {pos p1 p2 p3 : Pos} {j : Nat} {key x : Str}
theorem vp_get (i : Nat) (g : Wd → Int) (hu : X.A.units + 1 < cLine) (hk : ∀ lc w, valV (penKvs lc w) (.inr key) = some (.int (g w)) := by exact fun _ _ => rfl) (hN : X.N[i]? = some x := by rfl) (hv : Vis X.env.scope x := by first | exact Or.inl rfl | exact Or.inr (Or.inl rfl) | exact Or.inr (Or.inr rfl)) (hd : (x == ("__debug__" : Str)) = false := by decide)
    (hcd : (x == ("__classdict__" : Str)) = false := by decide) (hs : NoSl (.Constant (.str key) j p2) := by exact fun _ _ => rfl) : VE X rE W (.Subscript (.Name x p1) (.Constant (.str key) j p2) pos) (dPen i g) := weak (pe_dget hu (pe_var hN hv hd hcd) pe_str hs) fun σ H Q ⟨B, A, r, w, hs, hp, q⟩ => by
  unfold dPen at q
  split at q
  · rename_i h
    have hq := hp.2.2.1
    exact ⟨_, pen_at hs h, B.p, _, rfl, (by have := DGet.k (k := .inr key) hq; rw [hk] at this; exact this), q _ H .refl hp (.int _)⟩
  · exact q.elim
/-- len(pen['cells']) -/
theorem vp_len (i : Nat) (hu : X.A.units + 1 < cLine) {pl : Pos} (hm : X.mg "len" = none) (hg : Gl X "len" := by rfl) (hN : X.N[i]? = some x := by rfl) (hv : Vis X.env.scope x := by first | exact Or.inl rfl | exact Or.inr (Or.inl rfl) | exact Or.inr (Or.inr rfl)) (hd : (x == ("__debug__" : Str)) = false := by decide)
    (hcd : (x == ("__classdict__" : Str)) = false := by decide) (hs : NoSl (.Constant (.str ("cells" : Str)) j p2) := by exact fun _ _ => rfl)
    (hs1 : starEach [.Subscript (.Name x p1) (.Constant (.str ("cells" : Str)) j p2) p3] X.env = (false, eval (.Subscript (.Name x p1) (.Constant (.str ("cells" : Str)) j p2) p3) X.env) :: starEach [] X.env := by rfl) (hpl : (backTo pos (starEach [] X.env)).any (·.1) = false := by rfl) :
    VE X rE W (.Call (.Name "len" pl) [.Subscript (.Name x p1) (.Constant (.str ("cells" : Str)) j p2) p3] [] pos) (dPen i fun w => w.cells.length) :=
  weak (pe_callB call_len_seq hg hm boot_len (pa_cons (pe_dget hu (pe_var hN hv hd hcd) pe_str hs) pa_nil hs1) (by decide) (by decide) hs1 hpl) fun σ H Q ⟨B, A, r, w, hs, hp, q⟩ => by
  unfold dPen at q
  split at q
  · rename_i h
    have hq := hp.2.2.1
    refine ⟨_, pen_at hs h, B.p, _, rfl, (by have := DGet.k (k := .inr "cells") hq; exact this), B.lc.a, _, rfl, .inl (SqL.of hp.2.2.2.1), ?_⟩
    have := q _ H .refl hp (.int _)
    rw [List.length_map]; exact this
  · exact q.elim
/-- pen['cells'][pen['at']] -/
def dCell (i : Nat) : EM := fun r w => if penI i r = true then Res.of (L2.atI (w.cells.map D.int) w.at_) w else .bad
theorem vp_cell (i : Nat) (hu : X.A.units + 1 < cLine) {p4 p5 p6 : Pos} {j2 : Nat} (hN : X.N[i]? = some x := by rfl) (hv : Vis X.env.scope x := by first | exact Or.inl rfl | exact Or.inr (Or.inl rfl) | exact Or.inr (Or.inr rfl)) (hd : (x == ("__debug__" : Str)) = false := by decide)
    (hcd : (x == ("__classdict__" : Str)) = false := by decide) (hs : NoSl (.Constant (.str ("cells" : Str)) j p2) := by exact fun _ _ => rfl) (hs' : NoSl (.Constant (.str ("at" : Str)) j2 p5) := by exact fun _ _ => rfl) (hs2 : PlainIx (.Subscript (.Name x p4) (.Constant (.str ("at" : Str)) j2 p5) p6) := by exact fun _ _ => rfl) :
    VE X rE W (.Subscript (.Subscript (.Name x p1) (.Constant (.str ("cells" : Str)) j p2) p3) (.Subscript (.Name x p4) (.Constant (.str ("at" : Str)) j2 p5) p6) pos) (dCell i) :=
  weak (pe_ix ix_list (pe_dget hu (pe_var hN hv hd hcd) pe_str hs) (pe_dget hu (pe_var hN hv hd hcd) pe_str hs') hs2) fun σ H Q ⟨B, A, r, w, hs, hp, q⟩ => by
  unfold dCell at q
  split at q
  · rename_i h
    have hq := hp.2.2.1
    unfold Res.of at q
    split at q
    · rename_i d e
      obtain ⟨v, e1, e2⟩ := (RepL.ints (c := B.cf X.K X.mg) (A := A) (H := H) w.cells).atI e
      refine ⟨_, pen_at hs h, B.p, _, rfl, (by have := DGet.k (k := .inr "cells") hq; exact this), _, pen_at hs h, B.p, _, rfl, (by have := DGet.k (k := .inr "at") hq; exact this), ?_⟩
      exact ⟨B.lc.a, _, _, v, rfl, rfl, SqL.of hp.2.2.2.1, e1, q _ H .refl hp e2⟩
    · exact q.elim
  · exact q.elim
/-- pen['count'] = e -/
def sPen (i : Nat) (put : Int → Wd → Option Wd) (fe : EM) : SM := fun r w => (fe (rel all_ r) w).en (rel all_ r) fun d w' => match d with
  | .int z => if penI i r = true then match put z w' with
    | some w2 => .nx r w2
    | none => .bad
    else .bad
  | _ => .bad
structure PutOk (key : Str) (put : Int → Wd → Option Wd) : Prop where
  k : ∀ lc z w w', put z w = some w' → putK (penKvs lc w) (.inr key) (.int z) = penKvs lc w' ∧ w'.cells = w.cells
theorem vp_put (i : Nat) {put : Int → Wd → Option Wd} (hu : X.A.units + 1 < cLine) (hk : PutOk key put) (he : VE X rE W e fe) (hN : X.N[i]? = some x := by rfl) (hv : Vis X.env.scope x := by first | exact Or.inl rfl | exact Or.inr (Or.inl rfl) | exact Or.inr (Or.inr rfl)) (hd : (x == ("__debug__" : Str)) = false := by decide)
    (hcd : (x == ("__classdict__" : Str)) = false := by decide) (hsw : swapsWith e (some (.Subscript (.Name x p1) (.Constant (.str key) j p2) p3)) pos.line X.env = pure false := by rfl) :
    VS X W (.Assign [.Subscript (.Name x p1) (.Constant (.str key) j p2) p3] e pos) (sPen i put fe) := weakS (ps_dput hu (pe_var hN hv hd hcd) pe_str he hsw) fun Z σ H ⟨B, A, r, w, hs, hp, q⟩ => by
  have hs1 := hs.rel all_
  refine ⟨B, _, _, w, hs1, hp.less fun a z => .inl z.1, PostS.en hs1 q fun d w' v H1 k1 p rv q => ?_⟩
  cases d <;> first | exact q.elim | skip
  cases rv
  rename_i z
  simp only at q
  split at q
  · rename_i h
    have hs2 := hs.keep k1
    have p2 : PenAt B.p B.lc A H1 w' := hp.again p
    split at q
    · rename_i w2 e
      have hq := p2.2.2.1
      refine ⟨_, pen_at hs2 h, B.p, _, rfl, DPut.k (k := .inr key) hq (by show 5 < sizeLine; decide), ?_⟩
      obtain ⟨e1, e2⟩ := hk.k B.lc.a z w' w2 e
      rw [e1]
      have kp : Kp B.p H1 (upd H1 B.p (.dK (penKvs B.lc.a w2))) := ⟨fun b o n _ eb => by rw [upd_ne n]; exact eb, fun b ⟨o, eb, m⟩ => by
        by_cases z : b = B.p
        · rw [z, upd_same]; exact ⟨_, rfl, trivial⟩
        · rw [upd_ne z]; exact ⟨o, eb, m⟩⟩
      obtain ⟨⟨_, tb⟩, l, h1, h2, h3, h4, h5⟩ := p2
      exact q σ _ A (hs2.keep kp) ⟨⟨w2.isOk, tabs_upd ⟨_, hq, trivial⟩ tb⟩, w2.cl, upd_same, by rw [upd_ne h5, e2]; exact h2, h3, h4, h5⟩
    · exact q.elim
  · exact q.elim
end
def putCt (z : Int) (w : Wd) : Option Wd := if h : 0 ≤ z then some { w with ct := z, ct0 := h } else none
def putAt (z : Int) (w : Wd) : Option Wd := if h : 0 ≤ z then some { w with at_ := z, at0 := h } else none
def putDg (z : Int) (w : Wd) : Option Wd := if h : 0 ≤ z then some { w with dg := z, dg0 := h } else none
def putFo (z : Int) (w : Wd) : Option Wd := if h : 0 ≤ z ∧ z < 2 ^ 31 then some { w with fo := z, fo0 := h.1, fo1 := h.2 } else none
theorem putCt_ok : PutOk "count" putCt := ⟨fun lc z w w' e => by
  unfold putCt at e; split at e
  · cases e; exact ⟨rfl, rfl⟩
  · cases e⟩
theorem putAt_ok : PutOk "at" putAt := ⟨fun lc z w w' e => by
  unfold putAt at e; split at e
  · cases e; exact ⟨rfl, rfl⟩
  · cases e⟩
theorem putDg_ok : PutOk "digits" putDg := ⟨fun lc z w w' e => by
  unfold putDg at e; split at e
  · cases e; exact ⟨rfl, rfl⟩
  · cases e⟩
theorem putFo_ok : PutOk "fold" putFo := ⟨fun lc z w w' e => by
  unfold putFo at e; split at e
  · cases e; exact ⟨rfl, rfl⟩
  · cases e⟩
end DL

set_option Elab.async false
set_option linter.all false
set_option maxRecDepth 100000
set_option maxHeartbeats 2000000
namespace DL
open PySem PySem.SeqAt PySem.Spec PyProof.Rows L2

/-! ### methods of texts -/
def rmD (K : PySem.W.Frag) (mg : Str → Option Value) (R : RK) (g : D → D → Option D) : V → List V → Hp → VK → Prop := fun x xs H Q => ∃ y, xs = [y] ∧ r2D K mg R g x y H Q
abbrev MtD (X : Cx) (R : RK) (id : String) (g : D → D → Option D) : Prop := MtR X id (rmD X.K X.mg R g)
def dM (g : D → D → Option D) (fa fb : EM) : EM := fun r w => (fa r w).bind fun x w1 => match x with
  | .str s => (fb r w1).bind fun y w2 => Res.of (g (.str s) y) w2
  | _ => .bad
def D.str? : D → Option Str
  | .str s => some s
  | _ => none
def joinOk (a : Str) (ys : List Str) : Bool := decide ((ys.map (·.length)).sum + ys.length * a.length ≤ 16777216)
def joinD : D → D → Option D
  | .str a, y => match itemsD y with
    | some l => match allOf D.str? l with
      | some ys => if joinOk a ys = true then some (.str (Txt.join a ys)) else none
      | none => none
    | none => none
  | _, _ => none
def splitD : D → D → Option D
  | .str a, .str b => if (b.length == 0) = false ∧ a.length + 2 ≤ sizeLine then some (.lst ((Txt.split a b).map .str)) else none
  | _, _ => none
def rstripD : D → D → Option D
  | .str a, .str b => if a.length ≤ sizeLine then some (.str (Txt.rstripChars a b)) else none
  | _, _ => none
theorem strs_of {c : Cf} {A : Addr → Prop} {H : Hp} : ∀ {vs : List V} {ds : List D} {ns : List Str}, RepL c A H vs ds → allOf D.str? ds = some ns → vs = ns.map V.str
  | _, _, ns, .nil, e => by cases e; rfl
  | _, _, ns, .cons (d := d) (ds := ds) h r, e => by
    unfold allOf at e
    cases e1 : D.str? d with
    | none => rw [e1] at e; cases e
    | some i =>
      cases e2 : allOf D.str? ds with
      | none => rw [e1, e2] at e; cases e
      | some ns' =>
        rw [e1, e2] at e; cases e
        have hd : d = .str i := by cases d <;> first | (cases e1; done) | (cases e1; rfl)
        subst hd
        cases h
        rw [List.map_cons, strs_of r e2]
theorem RepL.strs {c : Cf} {A : Addr → Prop} {H : Hp} : ∀ (l : List Str), RepL c A H (l.map V.str) (l.map D.str)
  | [] => .nil
  | i :: l => .cons (.str i) (RepL.strs l)
section
variable {X : Cx} {W : WX} {R : RK} {a b e : Expr} {fa fb fe : EM} {pos apos : Pos} {tg : Expr}
theorem md_join : MtD X rE "str.join" joinD := fun pins s σ H x xs v us Q I rx rs ⟨y, ey, B, A, dx, dy, d, fr, h1, h2, e, q⟩ => by
  subst ey
  unfold joinD at e
  split at e
  · split at e
    · split at e
      · split at e
        · rename_i hj
          cases e
          obtain ⟨p, vs, rfl, h3, h4⟩ := h2.seq (by assumption)
          have ev := strs_of h4 (by assumption)
          subst ev
          exact mt_join pins s σ H x _ v us Q I rx rs ⟨_, p, _, h1.str, rfl, h3, of_decide_eq_true hj, q _ H (Same.refl H) (.str _)⟩
        · cases e
      · cases e
    · cases e
  · cases e
theorem md_split : MtD X rF "str.split" splitD := fun pins s σ H x xs v us Q I rx rs ⟨y, ey, B, A, dx, dy, d, fr, h1, h2, e, q⟩ => by
  subst ey
  unfold splitD at e
  split at e
  · split at e
    · rename_i hj
      cases e
      have := h2.str; subst this
      exact mt_split pins s σ H x _ v us Q I rx rs ⟨_, _, h1.str, rfl, hj.1, hj.2, fun t ht => q _ _ (same_new ht) (new_lst (RepL.strs _) ht)⟩
    · cases e
  · cases e
theorem md_rstrip : MtD X rE "str.rstrip" rstripD := fun pins s σ H x xs v us Q I rx rs ⟨y, ey, B, A, dx, dy, d, fr, h1, h2, e, q⟩ => by
  subst ey
  unfold rstripD at e
  split at e
  · split at e
    · rename_i hj
      cases e
      have := h2.str; subst this
      exact mt_rstripChars pins s σ H x _ v us Q I rx rs ⟨_, _, h1.str, rfl, hj, q _ H (Same.refl H) (.str _)⟩
    · cases e
  · cases e
theorem m1_of [RKm R] {g : D → D → Option D} {σ : L2.St} {H : Hp} {Q : VK} (h : tV X.K X.mg R W (dM g fa fb) σ H Q) : tM1 (rmD X.K X.mg R g) (tV X.K X.mg rO W fa) (tV X.K X.mg rO W fb) σ H Q := by
  obtain ⟨B, A, r, w, hs, hp, q⟩ := h
  refine ⟨B, A, r, w, hs, hp, q.bind fun x w1 v H1 k1 p1 r1 q1 => ?_⟩
  cases x <;> first | exact q1.elim | skip
  rename_i z
  refine ⟨⟨z, r1.str⟩, B, A, r, w1, hs.keep k1, p1, q1.bind fun y w2 v2 H2 k2 p2 r2 q2 => ?_⟩
  unfold Res.of at q2
  split at q2
  · rename_i d e
    exact ⟨v2, rfl, B, A, .str z, y, d, (hs.keep (k1.trans k2)).fre, rO.keep hs.np k2 r1, r2, e, fun v' H' sm rr => q2 v' H' (.of sm) (p2.keep sm) rr⟩
  · exact q2.elim
/-- a.m(b), a a text -/
theorem ve_m1 [RKm R] {id : String} {name : Str} {g : D → D → Option D} (slot : PySem.Slot "str" name id) (ty : typeOf (.builtin id) = pure (.type "method_descriptor")) (hm : MtD X R id g) (ha : VE X rO W a fa) (hb : VE X rO W b fb)
    (hs : starEach [b] X.env = [(false, eval b X.env)] := by rfl) (hbase : attributeBase a name X.env (eval a X.env) = eval a X.env := by rfl) (hline : (apos.endLine == pos.line) = true := by rfl) : VE X R W (.Call (.Attribute a name apos) [b] [] pos) (dM g fa fb) :=
  weak (pe_m1 slot ty hm ha hb hs hbase hline) fun σ H Q h => m1_of h
theorem ve_join (ha : VE X rO W a fa) (hb : VE X rO W b fb) (hs : starEach [b] X.env = [(false, eval b X.env)] := by rfl) (hbase : attributeBase a "join" X.env (eval a X.env) = eval a X.env := by rfl) (hline : (apos.endLine == pos.line) = true := by rfl) :
    VE X rE W (.Call (.Attribute a "join" apos) [b] [] pos) (dM joinD fa fb) := ve_m1 F.slot_str_join F.type_str_join md_join ha hb hs hbase hline
theorem vf_split (ha : VE X rO W a fa) (hb : VE X rO W b fb) (hs : starEach [b] X.env = [(false, eval b X.env)] := by rfl) (hbase : attributeBase a "split" X.env (eval a X.env) = eval a X.env := by rfl) (hline : (apos.endLine == pos.line) = true := by rfl) :
    VE X rF W (.Call (.Attribute a "split" apos) [b] [] pos) (dM splitD fa fb) := ve_m1 F.slot_str_split F.type_str_split md_split ha hb hs hbase hline
theorem ve_rstrip (ha : VE X rO W a fa) (hb : VE X rO W b fb) (hs : starEach [b] X.env = [(false, eval b X.env)] := by rfl) (hbase : attributeBase a "rstrip" X.env (eval a X.env) = eval a X.env := by rfl) (hline : (apos.endLine == pos.line) = true := by rfl) :
    VE X rE W (.Call (.Attribute a "rstrip" apos) [b] [] pos) (dM rstripD fa fb) := ve_m1 F.slot_str_rstrip F.type_str_rstrip md_rstrip ha hb hs hbase hline
/-- {} -/
theorem vf_dnew : VE X rF W (.Dict [] [] pos) (dC (.dic [])) := weak pe_dnewK fun σ H Q ⟨B, A, r, w, hs, hp, q⟩ => fun p n => q _ _ (.of (same_new n)) (hp.keep (same_new n)) ⟨p, rfl, n, [], upd_same, rfl, .nil⟩
/-! a text's signs -/
def signs (s : Str) : List D := s.cps.toList.map fun c => .str ⟨#[c]⟩
def signsD : D → Option (List D)
  | .str s => some (signs s)
  | _ => none
def iSigns (fe : EM) : IM := fun r w => (fe r w).toI signsD
theorem vi_str {s : Bool} (he : VE X rO W e fe) : VI X s W tg e (iSigns fe) := weakI (pi_str he) fun σ H R0 ⟨B, A, r, w, hs, hp, q⟩ => ⟨B, A, r, w, hs, hp, by
  have q : PostI s (B.cf X.K X.mg) A σ H W R0 ((fe r w).toI signsD) := q
  cases z : fe r w with
  | bad => rw [z] at q; exact q
  | exc n fs w1 => rw [z] at q; exact q
  | ok d w1 =>
    rw [z] at q
    unfold Res.toI signsD at q
    cases d <;> first | exact q.elim | skip
    rename_i x
    intro v H1 k p rv
    refine ⟨x, rv.str, q _ H1 k p ⟨(fun _ => True), _, (by unfold signs; rw [List.length_map, Array.length_toList]; exact walk_str), fun _ _ => True.intro, fun i H2 y H3 hi k2 yy => ?_⟩⟩
    obtain ⟨rfl, c, e1, rfl⟩ := yy
    refine ⟨Same.refl _, .str ⟨#[c]⟩, ?_, fun A' _ _ => .str _⟩
    unfold signs
    rw [List.getElem?_map, Array.getElem?_toList, e1]; rfl⟩
end
end DL

set_option Elab.async false
set_option linter.all false
set_option maxRecDepth 100000
set_option maxHeartbeats 2000000
namespace DL
open PySem PySem.SeqAt PySem.Spec PyProof.Rows L2

/-! ### a def of the text that keeps its promise -/
structure Callee (P : Program) (w : World) (K : PySem.W.Frag) (mg : Str → Option Value) (base : Heap) (x : Str) (k n : Nat) (F : List D → Wd → Res) : Prop where
  ex : ∃ (f : Addr) (fd : FuncData) (ps : List Str), FnOk P w K mg base (L2.CX P w) k f fd ps (spV K mg n F) ∧ mg x = some (.ref f) ∧ PySem.W.keepIn K (.ref f) = true ∧ Binds K fd ps []
theorem Callee.mono {P : Program} {w : World} {K : PySem.W.Frag} {mg : Str → Option Value} {base : Heap} {x : Str} {k k' n : Nat} {F : List D → Wd → Res} (h : Callee P w K mg base x k n F) (l : k ≤ k') : Callee P w K mg base x k' n F := by
  obtain ⟨f, fd, ps, h1, h2⟩ := h.ex
  exact ⟨f, fd, ps, h1.mono l, h2⟩
/-- an argument list of n -/
structure AL (fa : IM) (n : Nat) : Prop where
  l : ∀ r w l w', fa r w = .ok l w' → l.length = n
theorem al_nil : AL aNil 0 := ⟨fun r w l w' e => by cases e; rfl⟩
theorem al {fe : EM} {fa : IM} {n : Nat} (h : AL fa n) : AL (aCons fe fa) (n + 1) := ⟨fun r w l w' e => by
  unfold aCons at e
  split at e
  · rename_i d w1 _
    cases z : fa r w1 with
    | ok l1 w2 =>
      rw [z] at e
      have e : ResI.ok (d :: l1) w2 = ResI.ok l w' := e
      cases e
      rw [List.length_cons, h.l r w1 l1 w' z]
    | exc n fs w2 => rw [z] at e; cases e
    | bad => rw [z] at e; cases e
  · cases e
  · cases e⟩
section
variable {X : Cx} {W : WX} {e : Expr} {es : List Expr} {fa : IM} {p pos : Pos} {x : Str} {n k : Nat} {F : List D → Wd → Res}
theorem ve_fn (C : Callee X.prog X.w X.K X.mg X.base x k n F) (tk : Takes X W) (hr : Room k X.A) (ha : VA X rE W (e :: es) fa) (hl : AL fa n) (hg : Gl X x := by rfl) (hdb : (x == ("__debug__" : Str)) = false := by decide) (he : starEach (e :: es) X.env = (false, eval e X.env) :: starEach es X.env := by rfl) (hpl : (backTo pos (starEach es X.env)).any (·.1) = false := by rfl) :
    VE X rE W (.Call (.Name x p) (e :: es) [] pos) (dCall F fa) := by
  obtain ⟨f, fd, ps, G, hm, hk, hb⟩ := C.ex
  exact ve_call tk G hr hm hk hb ha hl.l hg hdb he hpl
theorem ve_fn0 (C : Callee X.prog X.w X.K X.mg X.base x k 0 F) (tk : Takes X W) (hr : Room k X.A) (hg : Gl X x := by rfl) (hdb : (x == ("__debug__" : Str)) = false := by decide) : VE X rE W (.Call (.Name x p) [] [] pos) (dCall F aNil) := by
  obtain ⟨f, fd, ps, G, hm, hk, hb⟩ := C.ex
  refine ⟨fun pins s σ H Q I ⟨B, A, r, w, hs, hp, q⟩ => ?_⟩
  refine wpAny_Call_Name_kw (ld_glob I hg hm ?_ hdb)
  exact PySem.W.callWith_K0 I.kIn hk (run_fnSD (us := []) (E := fun σ cls d H' => W cls d σ H') G hr hb .nil (passAt tk σ) I .nil (call_of hs hp .nil rfl q))
end
section
variable {X : Cx} {W : WX} {pos : Pos} {x : Str}
theorem ve_gstr {v : Str} (h : ∃ t, X.mg x = some (.str v t)) (hg : Gl X x := by rfl) (hdb : (x == ("__debug__" : Str)) = false := by decide) : VE X rE W (.Name x pos) (dC (.str v)) := by
  obtain ⟨t, h⟩ := h
  exact ve_glob (v := .str v) hg h ⟨t, rfl⟩ (fun _ _ _ => .str v) hdb
theorem ve_gint {v : Int} (h : ∃ t, X.mg x = some (.int v t)) (hg : Gl X x := by rfl) (hdb : (x == ("__debug__" : Str)) = false := by decide) : VE X rE W (.Name x pos) (dC (.int v)) := by
  obtain ⟨t, h⟩ := h
  exact ve_glob (v := .int v) hg h ⟨t, rfl⟩ (fun _ _ _ => .int v) hdb
/-- a tuple of texts of the module -/
theorem ve_gtup {l : List Str} {a : Addr} (h : X.mg x = some (.ref a)) (hq : ∀ H, SqT X.K H a (l.map V.str)) (hg : Gl X x := by rfl) (hdb : (x == ("__debug__" : Str)) = false := by decide) : VE X rE W (.Name x pos) (dC (.kup (l.map .str))) :=
  ve_glob (v := .ref a) hg h rfl (fun B A H => .tupK (hq noH) (RepL.strs l)) hdb
end
def tupS (K : PySem.W.Frag) (x : Str) (l : List Str) : Bool := He.tupB K x (l.map He.Dv.str)
theorem tupS_ok {K : PySem.W.Frag} {x : Str} {l : List Str} (h : tupS K x l = true) (H : Hp) : SqT K H (He.ga K x) (l.map V.str) := by
  have := He.tupB_ok h H
  rw [List.map_map] at this
  exact this
/-! which errors a clause takes -/
theorem hb_nil {K : PySem.W.Frag} {mg : Str → Option Value} {c : Value} : ∀ (n : Str) (b : Bool), (n, b) ∈ ([] : List (Str × Bool)) → ∀ C, mg n = some (.ref C) → PySem.W.exmOne K (.ref C) c = some b := fun _ _ h => by cases h
theorem hb_cons {K : PySem.W.Frag} {mg : Str → Option Value} {c : Value} {n0 : Str} {b0 : Bool} {C0 : Addr} {sb : List (Str × Bool)} (hm : mg n0 = some (.ref C0)) (hx : PySem.W.exmOne K (.ref C0) c = some b0) (r : ∀ (n : Str) (b : Bool), (n, b) ∈ sb → ∀ C, mg n = some (.ref C) → PySem.W.exmOne K (.ref C) c = some b) :
    ∀ (n : Str) (b : Bool), (n, b) ∈ (n0, b0) :: sb → ∀ C, mg n = some (.ref C) → PySem.W.exmOne K (.ref C) c = some b := fun n b h C hC => by
  rcases List.mem_cons.mp h with e | e
  · cases e
    rw [hm] at hC
    cases hC
    exact hx
  · exact r n b e C hC
/-! comparisons as tests -/
section
variable {X : Cx} {W : WX} {a b c : Expr} {fa fb fc : EM} {pos : Pos}
theorem test_of {R : RK} {t : TE} {σ : L2.St} {H : Hp} {Q : Bool → Hp → Prop} {f : EM} (h : tVT X.K X.mg W f σ H Q) (k : ∀ Q', tV X.K X.mg rE W f σ H Q' → t σ H Q') : t σ H fun v H' => ∃ d, v = .bl d ∧ Q d H' := by
  obtain ⟨B, A, r, w, hs, hp, q⟩ := h
  refine k _ ⟨B, A, r, w, hs, hp, ?_⟩
  cases z : f r w with
  | ok d w' =>
    rw [z] at q
    cases d <;> first | exact q.elim | skip
    exact fun v H' k p r => by cases r; exact ⟨_, rfl, q H' k p⟩
  | exc n fs w' => rw [z] at q; exact q
  | bad => rw [z] at q; exact q
theorem vt_cmp {op : CmpOp} {g : D → D → Option D} (ho : OpD X rE (compareOp op) g) (ha : VE X rO W a fa) (hb : VE X rO W b fb) (hm : behindInMarks op b = false := by rfl) : VT X W (.Compare a [op] [b] pos) (dBin g fa fb) :=
  weakT (pt_cmpR ho ha hb hm) fun σ H Q h => test_of (R := rE) h fun Q' ⟨B, A, r, w, hs, hp, q⟩ =>
  ⟨B, A, r, w, hs, hp, q.bind fun x w1 v H1 k1 p1 r1 q1 => ⟨B, A, r, w1, hs.keep k1, p1, q1.bind fun y w2 v2 H2 k2 p2 r2 q2 => by
    unfold Res.of at q2
    split at q2
    · rename_i d e
      exact ⟨B, A, x, y, d, (hs.keep (k1.trans k2)).fre, rO.keep hs.np k2 r1, r2, e, fun v' H' sm rr => q2 v' H' (.of sm) (p2.keep sm) rr⟩
    · exact q2.elim⟩⟩
theorem vt_chain {op op' : CmpOp} {g h : D → D → Option D} (ho : OpD X rE (compareOp op) g) (ho' : OpD X rE (compareOp op') h) (ha : VE X rO W a fa) (hb : VE X rO W b fb) (hc : VE X rO W c fc) (hm : lastMarks [op, op'] [b, c] = false := by rfl) :
    VT X W (.Compare a [op, op'] [b, c] pos) (dChain g h fa fb fc) := weakT (pt_chain ho ho' ha hb hc hm) fun σ H Q h0 => test_of (R := rE) h0 fun Q' ⟨B, A, r, w, hs, hp, q⟩ =>
  ⟨B, A, r, w, hs, hp, q.bind fun x w1 v H1 k1 p1 r1 q1 => ⟨B, A, r, w1, hs.keep k1, p1, q1.bind fun y w2 v2 H2 k2 p2 r2 q2 => by
    have hs2 := hs.keep (k1.trans k2)
    split at q2
    · rename_i e
      refine ⟨B, A, x, y, .bl true, hs2.fre, rO.keep hs.np k2 r1, r2, e, fun v' H' sm rr => ?_⟩
      cases rr
      refine ⟨true, rfl, ?_⟩
      rw [if_pos rfl]
      refine ⟨B, A, r, w2, hs2.keep (.of sm), p2.keep sm, Post.bind (Post.at (Kp.of sm) q2) fun z w3 v3 H3 k3 p3 r3 q3 => ?_⟩
      unfold Res.of at q3
      split at q3
      · rename_i d e
        exact ⟨B, A, y, z, d, (hs2.keep ((Kp.of sm).trans k3)).fre, rO.keep (H := H2) hs.np ((Kp.of sm).trans k3) r2, r3, e, fun v' H' sm rr => q3 v' H' (.of sm) (p3.keep sm) rr⟩
      · exact q3.elim
    · rename_i e
      refine ⟨B, A, x, y, .bl false, hs2.fre, rO.keep hs.np k2 r1, r2, e, fun v' H' sm rr => ?_⟩
      cases rr
      refine ⟨false, rfl, ?_⟩
      rw [if_neg Bool.false_ne_true]
      exact q2 _ H' (.of sm) (p2.keep sm) (.bl false)
    · exact q2.elim⟩⟩
end
theorem law_binds {K : PySem.W.Frag} {st : Stmt} {f : Addr} {fd : FuncData} (F : Fun K "law" "law" st f fd) (h : ∀ (kV doc pm : Value) (an : Option Addr) (cdv ct : Value) (s : Shared) (v : Value), BindsTo s (PySem.W.fnOf "law" "law" (defArgs st) (defBody st) (defScope st) .none kV doc pm an cdv ct) ⟨[v], []⟩ [("script", v)]) :
    ∀ (s : Shared) (v : Value), BindsTo s fd ⟨[v], []⟩ [("script", v)] := by
  obtain ⟨oc, od, kV, doc, pm, an, cdv, ct, osl, rfl, lk, hcd⟩ := F.ex
  exact h kV doc pm an cdv ct
/-- a def of the text is a callee -/
theorem callee_of {P : Program} {w : World} {K : PySem.W.Frag} {mg : Str → Option Value} {base : Heap} {x qual : Str} {st : Stmt} {f : Addr} {fd : FuncData} {N ps : List Str} {k n : Nat} {g : SM} (F : Fun K x qual st f fd) (S : FnScope N ps (defScope st)) (hm : mg x = some (.ref f)) (hn : ps.length = n)
    (hbi : Binds K fd ps [])
    (hb : ∀ (cdv : Value) (A : Around) (outer : List PySem.Env) (s : Shared) (H : Hp) (E : XK), InTF K cdv qual → Room k (A.deeper (envOfC qual (defScope st) s.heap.objs.size f cdv)) →
      VSs (cxOf (L2.CX P w) P w K mg base N qual (defScope st) f cdv A outer s H E) (fun cls d _ H => E cls d H) (defBody st) g) : Callee P w K mg base x (k + 1) n (runD N.length g) := by
  subst hn
  exact ⟨f, fd, ps, fun_v F S hb, hm, F.kp, hbi⟩

/-! ### the head: facts of the written part -/
abbrev FaB := PySem.W.Frag → Bool
abbrev AlQ : Type := Bool × List He.FnV
def dOk (K : PySem.W.Frag) (d : He.FnD) : Bool := (He.Fa.code d.at_ d.qual).ok K && PySem.W.keepIn K (.ref (He.fAd K d.at_))
/-- the defs' tables: told by their code objects, empty, each def its own -/
def tabsQ (g : Addr → Option Obj) (K : PySem.W.Frag) : Bool := ((TF K).all fun t => PySem.W.codeHdIn K t.1 t.2.1 && (match g t.2.1 with
  | some o => He.emptyTab o
  | none => false)) && (TK K).all fun a => (TK K).all fun b => !(a.1 == b.1) || a.2 == b.2
def obsQ (fa : List FaB) (fn : List He.FnD) (K : PySem.W.Frag) : AlQ := ((fa.all fun f => f K) && fn.all fun d => dOk K d, fn.map fun d => He.fnObs K d.at_)
def valQ (fn : List He.FnD) : AlQ := (true, fn.map He.FnD.val)
def SaysQ (fa : List FaB) (fn : List He.FnD) (K : PySem.W.Frag) : Prop := obsQ fa fn K = valQ fn
structure SaysW (fa : List FaB) (fn : List He.FnD) (h : Heap) (K : PySem.W.Frag) : Prop where
  q : SaysQ fa fn K
  hd : ∀ t ∈ TF K, PySem.W.codeHdIn K t.1 t.2.1 = true
  out : ∀ t ∈ TF K, K.lookup t.2.1 = none
  empty : ∀ t ∈ TF K, h.get? t.2.1 = some { cls := .none, data := .fields #[] }
  uq : ∀ a ∈ TK K, ∀ b ∈ TK K, a.1 = b.1 → a.2 = b.2
/-- what a def with a lambda is told of the tables -/
structure TB (K : PySem.W.Frag) (mg : Str → Option Value) (base : Heap) : Prop where
  uq : ∀ a ∈ TK K, ∀ b ∈ TK K, a.1 = b.1 → a.2 = b.2
  tb : ∀ t ∈ TF K, LamX.TabB base mg t.1 t.2.1
def obsQG (n : Nat) (fa : List FaB) (fn : List He.FnD) (g : Addr → Option Obj) : AlQ × Bool := (obsQ fa fn (He.frT g (He.asG g n)), tabsQ g (He.frT g (He.asG g n)))
theorem saysW_of {n : Nat} {fa : List FaB} {fn : List He.FnD} {h : Heap} (e : obsQG n fa fn h.get? = (valQ fn, true)) : SaysW fa fn h (He.frT h.get? (He.asG h.get? n)) := by
  have e1 : obsQ fa fn (He.frT h.get? (He.asG h.get? n)) = valQ fn := congrArg (fun z : AlQ × Bool => z.1) e
  have e2 : tabsQ h.get? (He.frT h.get? (He.asG h.get? n)) = true := congrArg (fun z : AlQ × Bool => z.2) e
  obtain ⟨h1, h2⟩ := He.ba e2
  have key : ∀ t ∈ TF (He.frT h.get? (He.asG h.get? n)), PySem.W.codeHdIn (He.frT h.get? (He.asG h.get? n)) t.1 t.2.1 = true ∧ ∃ o, h.get? t.2.1 = some o ∧ He.emptyTab o = true := fun t ht => by
    obtain ⟨h3, h4⟩ := He.ba (List.all_eq_true.mp h1 t ht)
    refine ⟨h3, ?_⟩
    cases q : h.get? t.2.1 with
    | none => rw [q] at h4; cases h4
    | some o => rw [q] at h4; exact ⟨o, rfl, h4⟩
  refine ⟨e1, fun t ht => (key t ht).1, fun t ht => ?_, fun t ht => ?_, fun a ha b hb e => ?_⟩
  · obtain ⟨_, o, q, z⟩ := key t ht; exact He.frT_none q z
  · obtain ⟨_, o, q, z⟩ := key t ht; rw [q, He.emptyTab_eq z]
  · have h3 := List.all_eq_true.mp (List.all_eq_true.mp h2 a ha) b hb
    have e' : (a.1 == b.1) = true := by rw [e]; exact beq_self_eq_true _
    rw [e'] at h3
    exact eq_of_beq (by simpa using h3)
def hookQ (n : Nat) (fa : List FaB) (fn : List He.FnD) : PySem.W.Hook where
  α := AlQ × Bool
  obs := fun s => obsQG n fa fn s.heap.get?
  val := fun _ => (valQ fn, true)
  says := fun _ h => ∃ K : PySem.W.Frag, K.In h ∧ SaysW fa fn h K
  of := fun _ _ e => ⟨_, He.frT_in, saysW_of e⟩
  keeps := fun _ _ _ ⟨K, hK, c⟩ k => ⟨K, PySem.W.Frag.In.keeps hK k, ⟨c.q, c.hd, c.out, fun t ht => k _ _ (c.empty t ht), c.uq⟩⟩
theorem obsQG_eq {n : Nat} {fa : List FaB} {fn : List He.FnD} {g : Addr → Option Obj} {s : Shared} (h : ∀ a, g a = s.heap.get? a) : obsQG n fa fn g = (hookQ n fa fn).obs s := by
  have e : g = s.heap.get? := funext h
  rw [e] <;> rfl
section
variable {fa : List FaB} {fn : List He.FnD} {K : PySem.W.Frag}
theorem SaysQ.fact (c : SaysQ fa fn K) (i : Nat) {f : FaB} (h : fa[i]? = some f := by rfl) : f K = true := by
  have c1 := (He.ba (show ((fa.all fun f => f K) && fn.all fun d => dOk K d) = true from congrArg (fun z : AlQ => z.1) c)).1
  exact List.all_eq_true.mp c1 f (List.mem_of_getElem? h)
theorem SaysQ.def_ (c : SaysQ fa fn K) (i : Nat) {d : He.FnD} (h : fn[i]? = some d := by rfl) : (∃ oc od osl kV doc pm an cdv ct, K.lookup (He.fAd K d.at_) = some ⟨oc, od, .func (PySem.W.fnOf d.name d.qual d.params d.body d.scope .none kV doc pm an cdv ct), osl⟩ ∧ PySem.W.codeIn K cdv d.qual = true) ∧ PySem.W.keepIn K (.ref (He.fAd K d.at_)) = true := by
  have c2 := (He.ba (show ((fa.all fun f => f K) && fn.all fun d => dOk K d) = true from congrArg (fun z : AlQ => z.1) c)).2
  have e : fn.map (fun d => He.fnObs K d.at_) = fn.map He.FnD.val := congrArg (fun z : AlQ => z.2) c
  have e2 : (fn.map fun d => He.fnObs K d.at_)[i]? = (fn.map He.FnD.val)[i]? := by rw [e]
  rw [List.getElem?_map, List.getElem?_map, h] at e2
  have c3 := He.ba (List.all_eq_true.mp c2 d (List.mem_of_getElem? h))
  exact ⟨He.fn_ok (Option.some.inj e2) c3.1, c3.2⟩
end
/-- a def of the top, by its datum -/
def dOf (x : Str) (st : Stmt) : He.FnD := ⟨(x, none), x, x, defArgs st, defBody st, defScope st⟩
/-- a class's __init__ -/
def dInit (C qual : Str) (st : Stmt) : He.FnD := ⟨(C, some "__init__"), "__init__", qual, defArgs st, defBody st, defScope st⟩
theorem fun_of {fa : List FaB} {fn : List He.FnD} {K : PySem.W.Frag} (c : SaysQ fa fn K) (i : Nat) {x : Str} {st : Stmt} (h : fn[i]? = some (dOf x st) := by rfl) : ∃ fd, Fun K x x st (He.ga K x) fd := by
  obtain ⟨⟨oc, od, osl, kV, doc, pm, an, cdv, ct, h1, h2⟩, h3⟩ := c.def_ i h
  exact ⟨_, fun_mk h1 h2 h3⟩
theorem fun_ofI {fa : List FaB} {fn : List He.FnD} {K : PySem.W.Frag} (c : SaysQ fa fn K) (i : Nat) {x q : Str} {st : Stmt} (h : fn[i]? = some (dInit x q st) := by rfl) : ∃ fd, Fun K "__init__" q st (He.ma K (He.ga K x) "__init__") fd := by
  obtain ⟨⟨oc, od, osl, kV, doc, pm, an, cdv, ct, h1, h2⟩, h3⟩ := c.def_ i h
  exact ⟨_, fun_mk h1 h2 h3⟩
/-! own errors -/
def oclB (K : PySem.W.Frag) (C : Addr) : Bool := match K.lookup C with
  | some ⟨.type "type", _, .cls cd, sl⟩ => (match cd.mro, sl.toList with
    | .ref C' :: bm, [_, _, _, _, some (.builtin n), _] => C' == C && (n == "ValueError.__new__" && (!cd.hasDel && (cd.hasDict && PySem.HandSPX.refsVE bm)))
    | _, _ => false)
  | _ => false
theorem oclB_ok {K : PySem.W.Frag} {C : Addr} (q : oclB K C = true) : ∃ nm q N bs bm sn sub ab col dd k0 k1 k2 k3 k5, K.lookup C = some (excClassObj nm q C N bs bm true sn sub ab col dd k0 k1 k2 k3 k5 "ValueError.__new__") ∧ PySem.HandSPX.refsVE bm = true := by
  unfold oclB at q
  split at q
  · rename_i dd cd sl ho
    split at q
    · rename_i C' bm k0 k1 k2 k3 n k5 hm hs
      simp only [Bool.and_eq_true, beq_iff_eq, Bool.not_eq_true'] at q
      obtain ⟨rfl, rfl, hdel, hd, hr⟩ := q
      obtain ⟨nm, bs, mro, ns, qn, hd', sn, sub, ab, col, del⟩ := cd
      dsimp only at hm hdel hd
      subst hm hdel hd
      have hsl : sl = #[k0, k1, k2, k3, some (.builtin "ValueError.__new__"), k5] := by
        obtain ⟨l⟩ := sl
        simp only at hs
        rw [hs]
      subst hsl
      exact ⟨_, _, _, _, bm, _, _, _, _, _, _, _, _, _, _, ho, hr⟩
    · cases q
  · cases q
/-- an own error's class with fields, all of it -/
def excB (n : Str) (fl : List Str) (K : PySem.W.Frag) : Bool := He.eqO (PySem.W.nsIn K mainGlobals n) (some (some (.ref (He.ga K n)))) && (oclB K (He.ga K n) && (He.eqO (PySem.W.findIn K (.ref (He.ga K n)) "__setattr__") (some (some (.builtin "object.__setattr__"))) &&
  (decide (PySem.W.subIn K (.ref (He.ga K n)) (.type "BaseException") = some true) && (decide (PySem.W.typeIn K (.ref (He.ga K n)) = some (.type "type")) && (PySem.W.keepIn K (.ref (He.ga K n)) &&
  (He.eqO (PySem.W.findIn K (.ref (He.ga K n)) "__init__") (some (some (.ref (He.ma K (He.ga K n) "__init__")))) && (decide (PySem.W.typeIn K (.ref (He.ma K (He.ga K n) "__init__")) = some (.type "function")) && (xfB K (He.ga K n) && fl.all fun f => He.eqO (PySem.W.findIn K (.ref (He.ga K n)) f) (some none)))))))))
structure ExcF (n : Str) (fl : List Str) (K : PySem.W.Frag) : Prop where
  glo : (He.Fa.glo n).ok K = true
  ox : OexC K (He.ga K n)
  iC : PySem.W.findIn K (.ref (He.ga K n)) "__init__" = some (some (.ref (He.ma K (He.ga K n) "__init__")))
  tI : PySem.W.typeIn K (.ref (He.ma K (He.ga K n) "__init__")) = some (.type "function")
  xf : XfC K (He.ga K n)
  no : ∀ f ∈ fl, PySem.W.findIn K (.ref (He.ga K n)) f = some none
theorem excB_ok {n : Str} {fl : List Str} {K : PySem.W.Frag} (h : excB n fl K = true) : ExcF n fl K := by
  obtain ⟨h1, h⟩ := He.ba h
  obtain ⟨h2, h⟩ := He.ba h
  obtain ⟨h3, h⟩ := He.ba h
  obtain ⟨h4, h⟩ := He.ba h
  obtain ⟨h5, h⟩ := He.ba h
  obtain ⟨h6, h⟩ := He.ba h
  obtain ⟨h7, h⟩ := He.ba h
  obtain ⟨h8, h⟩ := He.ba h
  obtain ⟨h9, h⟩ := He.ba h
  exact ⟨h1, ⟨oclB_ok h2, He.eqO_ok h3, of_decide_eq_true h4, of_decide_eq_true h5, h6⟩, He.eqO_ok h7, of_decide_eq_true h8, xfB_ok h9, fun f hf => He.eqO_ok (List.all_eq_true.mp h f hf)⟩
end DL

set_option Elab.async false
set_option linter.all false
set_option maxRecDepth 100000
set_option maxHeartbeats 2000000
namespace DL
open PySem PySem.SeqAt PySem.Spec PyProof.Rows L2

/-! ### raise C(), C without an own __init__ -/
section
variable {X : Cx} {W : WX} {p pos pos2 : Pos} {n : Str}
theorem pmk_err0 (T : XC0 X.K X.mg n) (hg : Gl X n := by rfl) (hdb : (n == ("__debug__" : Str)) = false := by decide) :
    PMk X (.Call (.Name n p) [] [] pos) (fun σ H Q => ∀ C, X.mg n = some (.ref C) → Q (.ref C) none H) := by
  obtain ⟨C, bmB, B, newId, initId, hm, F, q, kC, sC, tC⟩ := T.ex
  intro pins s σ H Q I h
  apply wpAny_Call_Name_kw
  refine ld_glob I hg hm ?_ hdb
  refine PySem.W.callWith_K0 I.kIn kC ?_
  obtain ⟨hp, g, d, t, os⟩ := s
  obtain ⟨_, _, _, _, _, _, _, _, _, _, _, _, _, _, _, _, _, hC, hN, hni, T⟩ := exc_obj I.kIn q
  exact wpAny_call_exc_subT F T hC hN hni (fun h' a hm' => mk_of I hm' (raises_own sC tC) (h C hm) (I.hok.gone hm'.new)) (Nat.zero_le _)
def sRaise0 (n : Str) : SM := fun r w => .exc n [] r w
theorem vs_raise0 (T : XC0 X.K X.mg n) (tk : Takes X W) (hc : X.calm = true := by rfl) (hg : Gl X n := by rfl) (hdb : (n == ("__debug__" : Str)) = false := by decide) : VS X W (.Raise (some (.Call (.Name n p) [] [] pos)) none pos2) (sRaise0 n) :=
  weakS (ps_raise hc tk (pmk_err0 T hg hdb)) fun Z σ H ⟨B, A, r, w, hs, hp, q⟩ C hm => q (.ref C) none σ H _ hs hp ⟨C, rfl, hm, rfl⟩
end
/-! ### raise C(..): only what it takes is let go -/
def sRaiseC (caps : List Nat) (n : Str) (fl : List Str) (fa : IM) : SM := fun r w => match fa (rel (these caps) r) w with
  | .ok ds w' => if ds.length = fl.length then .exc n (fl.zip ds).reverse (rel (these caps) r) w' else .bad
  | .exc m fs w' => .exc m fs (rel (these caps) r) w'
  | .bad => .bad
section
variable {X : Cx} {W : WX} {e : Expr} {es : List Expr} {fa : IM} {p pos pos2 : Pos} {n : Str} {fl : List Str}
theorem vs_raiseC (caps : List Nat) (T : XC X.prog X.w X.K X.mg X.base n fl) (tk : Takes X W) (hr : Room 2 X.A) (hsm : fl.length ≤ 900) (ha : VA X rE W (e :: es) fa) (hc : X.calm = true := by rfl) (hg : Gl X n := by rfl)
    (hdb : (n == ("__debug__" : Str)) = false := by decide) (he : starEach (e :: es) X.env = (false, eval e X.env) :: starEach es X.env := by rfl) (hpl : (backTo pos (starEach es X.env)).any (·.1) = false := by rfl) :
    VS X W (.Raise (some (.Call (.Name n p) (e :: es) [] pos)) none pos2) (sRaiseC caps n fl fa) := by
  obtain ⟨C, fI, fd, ps, Tmg, Tox, TiC, TtI, Tfo, Tbi⟩ := T.ex
  refine weakS (ps_raise hc tk (pmk_oex Tox TiC TtI Tfo hr Tbi .nil passL hg Tmg ha hdb he hpl)) fun Z σ H ⟨B, A, r, w, hs, hp, q⟩ => ?_
  have hs1 := hs.rel (these caps)
  have hp1 : PenAt B.p B.lc (fun a => A a ∧ ¬ OwnBy (these caps) σ r a) H w := hp.less fun a z => .inl z.1
  refine ⟨B, _, _, w, hs1, hp1, ?_⟩
  unfold sRaiseC at q
  cases z : fa (rel (these caps) r) w with
  | bad => rw [z] at q; exact q
  | exc m fs w1 => rw [z] at q; exact fun cls dd H' k p e => q cls dd σ H' _ (hs1.keep k) p e
  | ok ds w1 =>
    rw [z] at q
    simp only at q
    split at q
    · rename_i hl
      intro vs H1 k1 p1 r1
      have r2 := r1.e
      have hvl : vs.length = fl.length := by rw [r2.len, hl]
      refine ⟨by rw [hvl]; omega, fun a ha => ⟨a, vs, by rw [List.append_nil], hvl, upd_same, fun d H' hd ne h1 h2 h3 => ⟨rfl, d, _, h1, h2, ?_, ?_⟩⟩⟩
      · rw [upd_ne ne] at hd; exact hd
      · have hd1 : H1 d = none := by rw [upd_ne ne] at hd; exact hd
        have sm : Same H1 (upd (del H' a) d (.xd (fl.zip vs).reverse)) := fun b o eb => by
          have ba : b ≠ a := ne_of_none eb ha
          have bd : b ≠ d := ne_of_none eb hd1
          rw [upd_ne bd, del_ne ba, h3 b ba bd, upd_ne ba]; exact eb
        have hs2 := hs1.keep (k1.trans (.of sm))
        have hz := zip_map (l := fl) (m := vs) hvl
        have hz2 := zip_map (l := fl) (m := ds) hl
        have fr := (hs1.keep k1).fresh hd1
        refine q (.ref C) (some d) σ _ _ hs2 (p1.keep sm) ⟨C, rfl, Tmg, _, upd_same, fr.2, fr.1, ?_, ?_⟩
        · rw [List.map_reverse, List.map_reverse, hz.1, hz2.1]
        · rw [List.map_reverse, List.map_reverse, hz.2, hz2.2]
          exact (r2.keepA (Kp.a (.of sm))).rev
    · exact q.elim
end
/-! ### kept = [E1(.. x ..), .., E4(.. x ..)]; x.append(c): what is kept changes along -/
section
variable {X : Cx} {W : WX} {p pos : Pos} {i : Nat} {e e1 e2 : Expr}
abbrev tAs (i : Nat) (f : Addr → V) : TE := fun σ H Q => ∃ R, σ[i]? = some (some (.ref R)) ∧ Q (f R) H
theorem as_c {v : V} (h : PE X e (tC v)) : PE X e (tAs i fun _ => v) := weak h fun σ H Q ⟨R, _, q⟩ => q
theorem as_v (h : PE X e (tVar i)) : PE X e (tAs i fun R => .ref R) := weak h fun σ H Q ⟨R, e, q⟩ => ⟨_, e, q⟩
abbrev tItem (X : Cx) (i : Nat) (n f1 f2 : Str) (v1 v2 : Addr → V) : TE := fun σ H Q => ∃ R, σ[i]? = some (some (.ref R)) ∧
  ∀ C a d H', X.mg n = some (.ref C) → Same H H' → H a = none → H d = none → H' a = some (exo a C (some d)) → H' d = some (exd d [(f2, v2 R), (f1, v1 R)]) → Q (.ref a) H'
theorem pe_item {n f1 f2 : Str} {v1 v2 : Addr → V} (T : XC X.prog X.w X.K X.mg X.base n [f1, f2]) (hr : Room 2 X.A) (h1 : PE X e1 (tAs i v1)) (h2 : PE X e2 (tAs i v2)) (hg : Gl X n := by rfl)
    (hdb : (n == ("__debug__" : Str)) = false := by decide) (he : starEach [e1, e2] X.env = (false, eval e1 X.env) :: starEach [e2] X.env := by rfl) (he2 : starEach [e2] X.env = (false, eval e2 X.env) :: starEach [] X.env := by rfl) (hpl : (backTo pos (starEach [e2] X.env)).any (·.1) = false := by rfl) :
    PE X (.Call (.Name n p) [e1, e2] [] pos) (tItem X i n f1 f2 v1 v2) := by
  obtain ⟨C, fI, fd, ps, Tmg, Tox, TiC, TtI, Tfo, Tbi⟩ := T.ex
  refine weak (pe_errv Tox TiC TtI Tfo hr Tbi hg Tmg (pa_cons h1 (pa_cons h2 pa_nil he2) he) hdb he hpl) fun σ H Q ⟨R, eR, q⟩ => ⟨R, eR, R, eR, ?_⟩
  refine ⟨by show 2 ≤ 1000; decide, fun a ha => ⟨a, [v1 R, v2 R], rfl, rfl, upd_same, fun d H' hd ne g1 g2 g3 => ⟨rfl, ?_⟩⟩⟩
  have hd1 : H d = none := by rw [upd_ne ne] at hd; exact hd
  exact q C a d H' Tmg (fun b o eb => by
    have ba : b ≠ a := ne_of_none eb ha
    have bd : b ≠ d := ne_of_none eb hd1
    rw [g3 b ba bd, upd_ne ba]; exact eb) ha hd1 g1 g2
/-- a constant or the list itself -/
def asD (x : D) : Option D → D
  | some d => d
  | none => x
def itD (x : D) (n f1 f2 : Str) (y1 y2 : Option D) : D := .err n [(f2, asD x y2), (f1, asD x y1)]
/-- what v stands for -/
def AsOk (v : Addr → V) (y : Option D) : Prop := ∀ (c : Cf) (A : Addr → Prop) (H : Hp) (R : Addr) (x : D), Rep c A H (.ref R) x → Rep c A H (v R) (asD x y)
theorem asOk_v : AsOk (fun R => .ref R) none := fun _ _ _ _ _ h => h
theorem asOk_i (z : Int) : AsOk (fun _ => .int z) (some (.int z)) := fun _ _ _ _ _ _ => .int z
theorem asOk_s (z : Str) : AsOk (fun _ => .str z) (some (.str z)) := fun _ _ _ _ _ _ => .str z
theorem none_back {H H' : Hp} {a : Addr} (s : Same H H') (h : H' a = none) : H a = none := by
  cases e : H a with
  | none => rfl
  | some o => rw [s a o e] at h; cases h
theorem rel_self {r : Env} {i : Nat} {x : D} (h : i < r.length) : (rel (these [i]) (r.set i (some (x, true))))[i]? = some (some (x, false)) := by
  unfold rel
  rw [List.getElem?_mapIdx, List.getElem?_set_self h]
  simp [these]
theorem item_rep {c : Cf} {A : Addr → Prop} {H1 H' : Hp} {a d C R : Addr} {x : D} {n f1 f2 : Str} {u v : Addr → V} {y1 y2 : Option D} (hm : c.mg n = some (.ref C)) (k : Same H1 H') (fa : ¬ A a ∧ a ≠ c.p) (fd : ¬ A d ∧ d ≠ c.p) (na : a ≠ R) (nd : d ≠ R) (g1 : H1 a = some (exo a C (some d))) (g2 : H1 d = some (exd d [(f2, v R), (f1, u R)]))
    (o1 : AsOk u y1) (o2 : AsOk v y2) {ws : List V} (hr : Rep c A (upd H' R (.lst ws)) (.ref R) x) : Rep c A (upd H' R (.lst ws)) (.ref a) (itD x n f1 f2 y1 y2) :=
  .err (fvs := [(f2, v R), (f1, u R)]) hm ⟨fa.1, fa.2, .inl ⟨d, by rw [upd_ne na]; exact k _ _ g1, by rw [upd_ne nd]; exact k _ _ g2, fd.1, fd.2⟩⟩ rfl (.cons (o2 _ _ _ _ _ hr) (.cons (o1 _ _ _ _ _ hr) .nil))
def sAlias (i k : Nat) (c : Int) (its : D → List D) : SM := fun r w => match ownL i r with
  | some l => if l.length < sizeLine then .nx (((rel (these [i]) (r.set i (some (.lst (l ++ [.int c]), true))))).set k (some (.lst (its (.lst (l ++ [.int c]))), false))) w else .bad
  | none => .bad
theorem vs_alias4 {i k : Nat} {x y : Str} {c : Int} {E1 E2 E3 E4 : Expr} {n1 n2 n3 n4 f1 g1 f2 g2 f3 g3 f4 g4 : Str} {u1 v1 u2 v2 u3 v3 u4 v4 : Addr → V} {a1 b1 a2 b2 a3 b3 a4 b4 : Option D} {sts : List Stmt} {g : SM} {jc : Nat} {py pl pa px pm pcc pe2 : Pos}
    (hN : X.N.Nodup) (hik : k ≠ i) (h1 : PE X E1 (tItem X i n1 f1 g1 u1 v1)) (h2 : PE X E2 (tItem X i n2 f2 g2 u2 v2)) (h3 : PE X E3 (tItem X i n3 f3 g3 u3 v3)) (h4 : PE X E4 (tItem X i n4 f4 g4 u4 v4))
    (o1 : AsOk u1 a1) (o1' : AsOk v1 b1) (o2 : AsOk u2 a2) (o2' : AsOk v2 b2) (o3 : AsOk u3 a3) (o3' : AsOk v3 b3) (o4 : AsOk u4 a4) (o4' : AsOk v4 b4)
    (hrest : VSs X W sts g) (hi : X.N[i]? = some x := by rfl) (hk : X.N[k]? = some y := by rfl) (hy : Loc X.env.scope y := by first | exact Or.inl rfl | exact Or.inr rfl) (hf : X.fn y = true ∨ X.env.scope.names.lookup y = some .local := by first | exact .inl rfl | exact .inr rfl)
    (hx : Vis X.env.scope x := by first | exact Or.inl rfl | exact Or.inr (Or.inl rfl) | exact Or.inr (Or.inr rfl)) (hd : (x == ("__debug__" : Str)) = false := by decide) (hcd : (x == ("__classdict__" : Str)) = false := by decide)
    (hs1 : starEach [E1, E2, E3, E4] X.env = (false, eval E1 X.env) :: starEach [E2, E3, E4] X.env := by rfl) (hs2 : starEach [E2, E3, E4] X.env = (false, eval E2 X.env) :: starEach [E3, E4] X.env := by rfl) (hs3 : starEach [E3, E4] X.env = (false, eval E3 X.env) :: starEach [E4] X.env := by rfl) (hs4 : starEach [E4] X.env = (false, eval E4 X.env) :: starEach [] X.env := by rfl)
    (hsw : swapsWith (.List [E1, E2, E3, E4] pl) (some (.Name y py)) pa.line X.env = pure false := by rfl)
    (hbase : attributeBase (.Name x px) "append" X.env (eval (.Name x px) X.env) = eval (.Name x px) X.env := by rfl)
    (hfew : ((backTo pcc (starEach [.Constant (.int c) jc pe2] X.env)).all (fun x => !x.1) && (backToKw pcc (keywordEach [] X.env)).all (fun x => x.1.isSome)
      && decide (([.Constant (.int c) jc pe2] : List Expr).length + ([] : List Keyword).length + (if ([] : List Keyword).isEmpty then 0 else 1) < 30)) = true := by rfl)
    (hline : (pm.endLine == pcc.line) = true := by rfl) (hse : starEach [.Constant (.int c) jc pe2] X.env = (false, eval (.Constant (.int c) jc pe2) X.env) :: starEach [] X.env := by rfl) (hplain : (backTo pcc (starEach [] X.env)).any (·.1) = false := by rfl)
    (hsw2 : swapsWith (.Call (.Attribute (.Name x px) "append" pm) [.Constant (.int c) jc pe2] [] pcc) none pos.line X.env = pure false := by rfl) :
    VSs X W (.Assign [.Name y py] (.List [E1, E2, E3, E4] pl) pa :: .Expr (.Call (.Attribute (.Name x px) "append" pm) [.Constant (.int c) jc pe2] [] pcc) pos :: sts)
      (sSeq (sAlias i k c fun x => [itD x n1 f1 g1 a1 b1, itD x n2 f2 g2 a2 b2, itD x n3 f3 g3 a3 b3, itD x n4 f4 g4 a4 b4]) g) :=
  weakSs (pss_cons (ps_asg (pe_lst (pa_cons h1 (pa_cons h2 (pa_cons h3 (pa_cons h4 pa_nil hs4) hs3) hs2) hs1)) (pg_name hN hk hy hf) hsw) (pss_cons (ps_expr (pe_bm PySem.F.plainAttrs_list PySem.F.slot_list_append PySem.F.type_list_append mt_append (pe_var hi hx hd hcd) (pa_cons pe_int pa_nil hse) hbase hfew hline hse hplain) hsw2) hrest)) fun Z σ H ⟨B, A, r, w, hs, hp, q⟩ => by
  have q : PostS X.K X.mg B W Z ((sAlias i k c (fun x => [itD x n1 f1 g1 a1 b1, itD x n2 f2 g2 a2 b2, itD x n3 f3 g3 a3 b3, itD x n4 f4 g4 a4 b4]) r w).seq g) := q
  unfold sAlias at q
  split at q
  · rename_i l el
    split at q
    · rename_i hlen
      have e0 := ownL_at el
      obtain ⟨R, hR, hA, h0, vs, r1, r2⟩ := hs.ow i _ e0
      refine ⟨R, hR, fun C1 A1 D1 H1 m1 s1 na1 nd1 x1 y1 => ⟨R, hR, fun C2 A2 D2 H2 m2 s2 na2 nd2 x2 y2 => ⟨R, hR, fun C3 A3 D3 H3 m3 s3 na3 nd3 x3 y3 => ⟨R, hR, fun C4 A4 D4 H4 m4 s4 na4 nd4 x4 y4 => ⟨by show 4 ≤ sizeLine; decide, fun L hL => ?_⟩⟩⟩⟩⟩
      have sL : Same H4 (upd H4 L (.lst [.ref A1, .ref A2, .ref A3, .ref A4])) := same_new hL
      have t4 : Same H (upd H4 L (.lst [.ref A1, .ref A2, .ref A3, .ref A4])) := fun b o e => sL b o (s4 b o (s3 b o (s2 b o (s1 b o e))))
      have t3 : Same H H3 := fun b o e => s3 b o (s2 b o (s1 b o e))
      have t2 : Same H H2 := fun b o e => s2 b o (s1 b o e)
      have fA1 := hs.fresh na1
      have fD1 := hs.fresh nd1
      have fA2 := hs.fresh (none_back s1 na2)
      have fD2 := hs.fresh (none_back s1 nd2)
      have fA3 := hs.fresh (none_back t2 na3)
      have fD3 := hs.fresh (none_back t2 nd3)
      have fA4 := hs.fresh (none_back t3 na4)
      have fD4 := hs.fresh (none_back t3 nd4)
      have fL := hs.fresh (none_back (fun b o e => s4 b o (t3 b o e)) hL)
      have neR : ∀ {b : Addr}, ¬ A b → b ≠ R := fun n z => n (z ▸ hA)
      have hs5 := hs.keep (.of t4)
      have r3 := r2.keepA (Kp.a (.of t4))
      have hR5 := t4 _ _ r1
      have hlv : vs.length < sizeLine := by rw [r2.len]; exact hlen
      refine ⟨.ref R, by rw [List.getElem?_set_ne hik]; exact hR, .inl ⟨rfl, vs, SqL.of hR5⟩, R, vs, .int c, rfl, rfl, hR5, hlv, ?_⟩
      have hs6 := hs5.write (o := .lst (vs ++ [.int c])) (d' := .lst (l ++ [.int c])) e0 hR ⟨_, upd_same, (r3.snoc (.int c)).keepA (KpA.upd hA)⟩
      have hs7 := hs6.rel (these [i])
      have pn : PenAt B.p B.lc (fun a => A a ∧ ¬ OwnBy (these [i]) σ (r.set i (some (.lst (l ++ [.int c]), true))) a) (upd (upd H4 L (.lst [.ref A1, .ref A2, .ref A3, .ref A4])) R (.lst (vs ++ [.int c]))) w := ((hp.keep t4).write hA ⟨_, hR5, trivial⟩).less fun a z => .inl z.1
      have li : i < r.length := (List.getElem?_eq_some_iff.mp e0).1
      obtain ⟨v, hv, rv⟩ := hs7.pl i _ (rel_self li)
      rw [hR] at hv
      cases hv
      have no : ∀ {b : Addr}, ¬ A b ∧ b ≠ B.p → ¬ (A b ∧ ¬ OwnBy (these [i]) σ (r.set i (some (.lst (l ++ [.int c]), true))) b) ∧ b ≠ B.p := fun h => ⟨fun z => h.1 z.1, h.2⟩
      have k1 : Same H1 (upd H4 L (.lst [.ref A1, .ref A2, .ref A3, .ref A4])) := fun b o e => sL b o (s4 b o (s3 b o (s2 b o e)))
      have k2 : Same H2 (upd H4 L (.lst [.ref A1, .ref A2, .ref A3, .ref A4])) := fun b o e => sL b o (s4 b o (s3 b o e))
      have k3 : Same H3 (upd H4 L (.lst [.ref A1, .ref A2, .ref A3, .ref A4])) := fun b o e => sL b o (s4 b o e)
      refine ⟨B, _, _, w, hs7.set (i := k) (v := .ref L) (.lst (by rw [upd_ne (neR fL.1), upd_same]) (no fL).1 ⟨fL.2, hs.nlf (fr_none (none_back (fun b o e => s4 b o (t3 b o e)) hL))⟩ (.cons ?_ (.cons ?_ (.cons ?_ (.cons ?_ .nil))))), pn, q⟩
      · exact item_rep m1 k1 (no fA1) (no fD1) (neR fA1.1) (neR fD1.1) x1 y1 o1 o1' rv
      · exact item_rep m2 k2 (no fA2) (no fD2) (neR fA2.1) (neR fD2.1) x2 y2 o2 o2' rv
      · exact item_rep m3 k3 (no fA3) (no fD3) (neR fA3.1) (neR fD3.1) x3 y3 o3 o3' rv
      · exact item_rep m4 sL (no fA4) (no fD4) (neR fA4.1) (neR fD4.1) x4 y4 o4 o4' rv
    · exact q.elim
  · exact q.elim
end
end DL
namespace DL
open PySem PySem.SeqAt PySem.Spec PyProof.Rows L2
/-! ### facts of own errors, by the head -/
def efB (K : PySem.W.Frag) (C : Addr) : Bool := xfB K C && ((PySem.W.clsIn K C).isSome && (He.eqO (PySem.W.findIn K (.ref C) "__class__") (some (some (.builtin "object.__class__"))) && (He.eqO (PySem.W.specialIn K (.builtin "object.__class__") "__get__") (some (some (.builtin "getset_descriptor.__get__"))) &&
  (decide (PySem.W.takesIn K (.builtin "object.__class__") = some true) && decide (PySem.W.mroIn K C (.type "object") = some true)))))
theorem efB_ok {K : PySem.W.Frag} {C : Addr} (h : efB K C = true) : EFact K C := by
  obtain ⟨h1, h⟩ := He.ba h
  obtain ⟨h2, h⟩ := He.ba h
  obtain ⟨h3, h⟩ := He.ba h
  obtain ⟨h4, h⟩ := He.ba h
  obtain ⟨h5, h6⟩ := He.ba h
  exact ⟨xfB_ok h1, h2, He.eqO_ok h3, He.eqO_ok h4, of_decide_eq_true h5, of_decide_eq_true h6⟩
/-- of which of the classes an error of the class n is -/
def tabE (ns : List Str) (f : Str → Bool) (n : Str) : Option Bool := if n ∈ ns then some (f n) else none
def tabB (ns : List Str) (f : Str → Bool) (t : PySem.W.Frag → Value) (K : PySem.W.Frag) : Bool := ns.all fun n => efB K (He.ga K n) && decide (PySem.W.kitOne K (.ref (He.ga K n)) (t K) = some (f n))
theorem tabB_ok {ns : List Str} {f : Str → Bool} {t : PySem.W.Frag → Value} {K : PySem.W.Frag} {mg : Str → Option Value} (h : tabB ns f t K = true) (hm : ∀ n ∈ ns, mg n = some (.ref (He.ga K n))) :
    ∀ n b, tabE ns f n = some b → ∀ C, mg n = some (.ref C) → EFact K C ∧ PySem.W.kitOne K (.ref C) (t K) = some b := fun n b e C hC => by
  unfold tabE at e
  split at e
  · rename_i hn
    cases e
    rw [hm n hn] at hC
    cases hC
    obtain ⟨h1, h2⟩ := He.ba (List.all_eq_true.mp h n hn)
    exact ⟨efB_ok h1, of_decide_eq_true h2⟩
  · cases e
def xc0B (bmB : List Value) (newId : String) (n : Str) (K : PySem.W.Frag) : Bool := PySem.W.excIn K (He.ga K n) bmB newId && (PySem.W.keepIn K (.ref (He.ga K n)) && (decide (PySem.W.subIn K (.ref (He.ga K n)) (.type "BaseException") = some true) && decide (PySem.W.typeIn K (.ref (He.ga K n)) = some (.type "type"))))
theorem xc0B_ok {B initId : String} {bmB : List Value} {newId : String} {n : Str} {K : PySem.W.Frag} {mg : Str → Option Value} (F : ExcBaseFacts B newId initId bmB) (hm : mg n = some (.ref (He.ga K n))) (h : xc0B bmB newId n K = true) : XC0 K mg n := by
  obtain ⟨h1, h⟩ := He.ba h
  obtain ⟨h2, h⟩ := He.ba h
  obtain ⟨h3, h4⟩ := He.ba h
  exact ⟨_, bmB, B, newId, initId, hm, F, h1, h2, of_decide_eq_true h3, of_decide_eq_true h4⟩
end DL

set_option Elab.async false
set_option linter.all false
set_option maxRecDepth 100000
set_option maxHeartbeats 2000000
namespace DL
open PySem PySem.SeqAt PySem.Spec PyProof.Rows L2

/-! ### the pen is made -/
abbrev rIntC : List V → Hp → VK → Prop := fun xs H Q => (∃ i, xs = [.int i] ∧ Q (.int i) H) ∨ ∃ k, xs = [.bl k] ∧ Q (.int (if k then 1 else 0)) H
abbrev rLstC (K : PySem.W.Frag) : List V → Hp → VK → Prop := fun xs H Q => ∃ p ys, xs = [.ref p] ∧ (SqL K H p ys ∨ SqT K H p ys) ∧ ∀ l, H l = none → Q (.ref l) (upd H l (.lst ys))
abbrev tPen (K : PySem.W.Frag) (a m : Int) : TS := tSeq (tAsg (tC (.int 0)) (gName 1))
  (tSeq (tFor (iList K (tVar 0)) (gName 2) (tAsg (tOp (rI (fun _ j => 0 < j) fun i j => .int (i % j)) (tCB rIntC (tCons (tOp (rI0 fun i j => .int (i + j)) (tOp (rI CMul fun i j => .int (i * j)) (tVar 1) (tC (.int a))) (tVar 2)) tNil)) (tC (.int m))) (gName 1)))
  (tRet (tDisp [(tC (.str "cells"), tCB (rLstC K) (tCons (tVar 0) tNil)), (tC (.str "at"), tC (.int 0)), (tC (.str "digits"), tC (.int 0)), (tC (.str "count"), tC (.int 0)), (tC (.str "fold"), tVar 1)])))
def spPen (K : PySem.W.Frag) : Sp := fun vs H Q _ => ∃ (a : Addr) (ns : List Int), vs = [.ref a] ∧ SqL K H a (ns.map V.int) ∧ ns.length ≤ 63 ∧
  ∀ (p lc : Addr) (w : Wd) (H' : Hp), Same H H' → H' p = some (.dK (penKvs lc w)) → H' lc = some (.lst (w.cells.map V.int)) → lc ≠ p → Q (.ref p) H'
section
variable {P : Program} {w : World} {K : PySem.W.Frag} {mg : Str → Option Value} {base : Heap}
theorem pen_ok {st : Stmt} {f : Addr} {fd : FuncData} {N ps : List Str} {a m : Int} (F : Fun K "_law_pen" "_law_pen" st f fd) (S : FnScope N ps (defScope st)) (hN : N.length = 3) (hps : ps.length = 1) (ha : 0 ≤ a ∧ a < 2 ^ 64) (hm : 0 < m ∧ m < 2 ^ 31)
    (hb : ∀ (cdv : Value) (A : Around) (outer : List PySem.Env) (s : Shared) (H : Hp) (E : XK), PSs (cxOf (L2.CX P w) P w K mg base N "_law_pen" (defScope st) f cdv A outer s H E) (defBody st) (tPen K a m)) :
    FnOk P w K mg base (L2.CX P w) 1 f fd ps (spPen K) := by
  refine F.okX S (fun vs H Q E h => ?_) (fun cdv A outer s H vs Q E hr h => ⟨_, hb cdv A outer s H E, ?_⟩)
  · obtain ⟨_, _, rfl, _⟩ := h
    rw [hps]; rfl
  · obtain ⟨x, ns, rfl, hS, hl, q⟩ := h
    obtain ⟨n0, n1, n2, rfl⟩ : ∃ n0 n1 n2, N = [n0, n1, n2] := by
      match N, hN with
      | [n0, n1, n2], _ => exact ⟨n0, n1, n2, rfl⟩
    refine ⟨.ref x, rfl, x, rfl, ⟨_, hS⟩, for_list (K := K) (a := x) (xs := ns.map V.int) (fun i σ H' => ∃ (z : Int) (v : Option V), σ = [some (.ref x), some (.int z), v] ∧ H' = H ∧ 0 ≤ z ∧ z < 2 ^ 31) ⟨0, none, rfl, rfl, by omega, by omega⟩ (fun i σ H' _ ⟨_, _, _, e, _⟩ => by subst e; exact hS) ?_ ?_⟩
    · rintro i y σ H' hi ⟨z, v, rfl, rfl, h0, h1⟩
      obtain ⟨u, rfl⟩ : ∃ u, y = V.int u := by
        rw [List.getElem?_map] at hi
        cases e : ns[i]? with
        | none => rw [e] at hi; cases hi
        | some u => rw [e] at hi; exact ⟨u, (Option.some.inj hi).symm⟩
      refine ⟨.int z, rfl, z, a, rfl, rfl, .inl ⟨by omega, by omega⟩, .int u, rfl, z * a, u, rfl, rfl, .inl ⟨_, rfl, _, m, rfl, rfl, hm.1, ?_⟩⟩
      exact ⟨(z * a + u) % m, some (.int u), rfl, rfl, Int.emod_nonneg _ (by omega), by have := Int.emod_lt_of_pos (z * a + u) hm.1; omega⟩
    · rintro σ H' ⟨z, v, rfl, rfl, h0, h1⟩
      intro p hp
      have hS2 : SqL K (upd H' p (.dK [])) x (ns.map V.int) := (same_new hp).seq hS
      refine ⟨.ref x, rfl, x, _, rfl, .inl hS2, fun l hll => ?_⟩
      have hlp : l ≠ p := fun e => by rw [e, upd_same] at hll; cases hll
      refine ⟨.int z, rfl, by rw [upd_ne (Ne.symm hlp), upd_same], [(.inr "cells", .ref l), (.inr "at", .int 0), (.inr "digits", .int 0), (.inr "count", .int 0), (.inr "fold", .int z)], rfl, (by show 5 ≤ 15; decide), ?_⟩
      exact q p l ⟨ns, 0, 0, 0, z, by omega, by omega, by omega, h0, h1, hl⟩ _ (fun b o e => by rw [upd_ne (ne_of_none e hp), upd_ne (fun z => by rw [upd_ne hlp, ← z, e] at hll; cases hll), upd_ne (ne_of_none e hp)]; exact e) upd_same (by rw [upd_ne hlp, upd_same]) hlp
/-! ### the law -/
def spLaw (K : PySem.W.Frag) : Sp := fun vs H Q _ => ∃ (a : Addr) (ns : List Int), vs = [.ref a] ∧ (SqL K H a (ns.map V.int) ∧ LamX.Tabs (TK K) H) ∧ ns.length ≤ 63 ∧ ∀ H', Q (.bl true) H'
def lawE (n : Nat) : Env := none :: some (.pen, false) :: List.replicate (n - 2) none
theorem law_ok {st : Stmt} {f : Addr} {fd : FuncData} {N ps : List Str} {k : Nat} {g : SM} (F : Fun K "law" "law" st f fd) (S : FnScope N ps (defScope st)) (hN : 2 ≤ N.length) (hps : ps.length = 1)
    (hb : ∀ (cdv : Value) (A : Around) (outer : List PySem.Env) (s : Shared) (H : Hp) (E : XK), InTF K cdv "law" → Room k (A.deeper (envOfC "law" (defScope st) s.heap.objs.size f cdv)) → PSs (cxOf (L2.CX P w) P w K mg base N "law" (defScope st) f cdv A outer s H E) (defBody st)
      (tSeq (tAsg (tCall (spPen K) [] E0 (tCons (tVar 0) tNil)) (gName 1)) (tVS K mg (fun cls d _ H => E cls d H) g)))
    (plain : ∀ w : Wd, ∃ w', (g (lawE N.length) w).res = .ok (.bl true) w') : FnOk P w K mg base (L2.CX P w) (k + 1) f fd ps (spLaw K) := by
  obtain ⟨oc, od, kV, doc, pm, an, cdv, ct, osl, rfl, lk, hcd⟩ := F.ex
  refine fn_of lk hcd S (fun vs H Q E h => ?_) (fun A outer s H vs Q E hr h => ⟨_, hb cdv A outer s H E (show InTF K cdv "law" from inTF lk hcd) hr, ?_⟩)
  · obtain ⟨_, _, rfl, _⟩ := h
    rw [hps]; rfl
  · obtain ⟨x, ns, rfl, ⟨hS, hT⟩, hl, q⟩ := h
    obtain ⟨n0, n1, N2, rfl⟩ : ∃ n0 n1 N2, N = n0 :: n1 :: N2 := by
      match N, hN with
      | n0 :: n1 :: N2, _ => exact ⟨n0, n1, N2, rfl⟩
    refine ⟨.ref x, rfl, x, ns, rfl, hS, hl, fun p lc w0 H' sm hp hlc ne => ?_⟩
    have e1 : (L2.start (n0 :: n1 :: N2) [.ref x]).set 1 (some (.ref p)) = some (.ref x) :: some (.ref p) :: List.replicate N2.length none := by
      unfold L2.start
      rfl
    show tVS K mg _ g _ ((L2.start (n0 :: n1 :: N2) [.ref x]).set 1 (some (.ref p))) H'
    rw [e1]
    refine ⟨⟨p, ⟨lc, TK K, H', fun _ => False⟩, fun _ => False, H'⟩, fun _ => False, lawE (n0 :: n1 :: N2).length, w0, ⟨.refl, ⟨_, hp, trivial⟩, fun _ z => z.elim, fun _ z => z, fun _ z => z.elim, fun _ z => z.elim, fun z => z, fun i d e => ?_, fun i d e => ?_, fun i j d d' b e => ?_, ?_, ⟨⟨rfl, .refl, fun _ z => z.elim, fun vs e => by have e' : H' p = some (.tup vs) := e; rw [hp] at e'; cases e'⟩, ⟨_, hlc, trivial⟩, fun z => z⟩⟩, ⟨⟨w0.isOk, hT.ext sm⟩, w0.cl, hp, hlc, fun z => z, fun z => z, ne⟩, ?_⟩
    · cases i with
      | zero => cases e
      | succ i => cases i with
        | zero => cases e; exact ⟨_, rfl, .pen⟩
        | succ i =>
          have e : (List.replicate N2.length (none : Slot))[i]? = some (some (d, false)) := e
          rw [List.getElem?_replicate] at e
          split at e <;> cases e
    · cases i with
      | zero => cases e
      | succ i => cases i with
        | zero => cases e
        | succ i =>
          have e : (List.replicate N2.length (none : Slot))[i]? = some (some (d, true)) := e
          rw [List.getElem?_replicate] at e
          split at e <;> cases e
    · cases i with
      | zero => cases e
      | succ i => cases i with
        | zero => cases e
        | succ i =>
          have e : (List.replicate N2.length (none : Slot))[i]? = some (some (d, true)) := e
          rw [List.getElem?_replicate] at e
          split at e <;> cases e
    · show (List.replicate N2.length (none : Slot)).length + 1 + 1 = (List.replicate N2.length (none : Option V)).length + 1 + 1
      rw [List.length_replicate, List.length_replicate]
    · obtain ⟨w', hw⟩ := plain w0
      cases z : g (lawE (n0 :: n1 :: N2).length) w0 with
      | rt d w1 =>
        rw [z] at hw
        cases hw
        intro v H1 k1 p1 r1
        cases r1
        exact q H1
      | nx r w1 => rw [z] at hw; cases hw
      | bk r w1 => rw [z] at hw; cases hw
      | ct r w1 => rw [z] at hw; cases hw
      | exc n fs r w1 => rw [z] at hw; cases hw
      | bad => rw [z] at hw; cases hw
end
/-- the law's end over a head by facts -/
theorem walk_ofQ {l : PySem.W.OpenLaw} {k : Nat} {q : Program} {loose : List Str} {XP : (Str → Option Value) → Heap → Prop} {fa : List FaB} {fn : List He.FnD} {d : DefRec} {ev : Nat}
    (hn : l.most = some 63) (hdf : d.params.defaults = []) (hdn : d.name = "law") (hr : Room k callerA)
    (F : ∀ (w : World) (mg : Str → Option Value) (a : Addr) (h : Heap) (K : PySem.W.Frag), K.In h → h.Ns mainGlobals mg → mg ("law" : Str) = some (.ref a) → SaysQ fa fn K →
      ∃ fd : FuncData, (∀ (s : Shared) (v : Value), BindsTo s fd ⟨[v], []⟩ [("script", v)]) ∧ ∀ base : Heap, K.In base → base.Ns mainGlobals mg → TB K mg base → FnOk l.prog w K mg base (L2.CX l.prog w) k a fd ["script"] (spLaw K)) :
    PySem.W.WalkO q loose XP (hookQ ev fa fn).says l.row.toRowW d [] (fun f vs => PySem.call f vs) := by
  refine Att.attach_callB hn hdf fun w s₀ s₁ mg mb f o pm cd doc a vs ns G Y ho hd hcd hmg hobj hints hlen hbits hg => ?_
  obtain ⟨K, KX, c⟩ := Y
  rw [hdn] at hmg
  obtain ⟨fd, hb, hF⟩ := F w mg f _ K KX G.T.g hmg c.q
  have mem : ∀ p ∈ (TF K).map (fun t => (t.1, t.2.1)), ∃ q, (p.1, p.2, q) ∈ TF K := fun p hp => by
    obtain ⟨t, ht, e⟩ := List.mem_map.mp hp
    rw [← e]; exact ⟨t.2.2, ht⟩
  refine LamX.law_callTs (cs := (TF K).map fun t => (t.1, t.2.1)) KX G.T.g G.T.b G.T.builtins G.T.nolimit hg (fun p hp => ?_) (fun p hp => ?_) (fun p hp => ?_) G.T.bmain hobj hints (Nat.le_trans hlen (by decide)) hr (fun base hK hN hT => hF base hK hN ⟨c.uq, fun t ht => hT _ (List.mem_map.mpr ⟨t, ht, rfl⟩)⟩) hb (fun H hH hS => ⟨a, ns, rfl, ⟨hS, fun t ht => ?_⟩, hlen, fun _ => rfl⟩) fun H e s' => by
    intro h
    obtain ⟨_, _, _, _, _, _, _, _, _, _, _, _, z⟩ := h
    exact z.elim
  · obtain ⟨q, hq⟩ := mem p hp; exact c.empty _ hq
  · obtain ⟨q, hq⟩ := mem p hp; exact c.out _ hq
  · obtain ⟨q, hq⟩ := mem p hp; exact PySem.W.codeHd_of_K KX (c.hd _ hq)
  · obtain ⟨u, hu, e⟩ := List.mem_map.mp ht
    rw [← e]
    exact LamX.TabS.nil (hH _ (List.mem_map.mpr ⟨u, hu, rfl⟩))
end DL

set_option Elab.async false
set_option linter.all false
set_option maxRecDepth 100000
set_option maxHeartbeats 2000000
namespace DL
open PySem PySem.SeqAt PySem.Spec PyProof.Rows L2 LamX

/-- a def that calls what it gets, and what it makes of the outcome -/
structure WhyC (K : PySem.W.Frag) (mg : Str → Option Value) (x : Str) (F : (Wd → Res) → Wd → Res) : Prop where
  ex : ∃ (g : Addr) (a : Str) (Ng : List Str) (pg : Arguments) (bg : List Stmt) (sg : Scope) (dV kV doc pm cdv ct oc : Value) (an od : Option Addr) (osl : Array (Option Value)),
    mg x = some (.ref g) ∧ PySem.W.keepIn K (.ref g) = true ∧ K.lookup g = some ⟨oc, od, .func (PySem.W.fnOf x x pg bg sg dV kV doc pm an cdv ct), osl⟩ ∧ PySem.W.codeIn K cdv x = true ∧ Binds K (PySem.W.fnOf x x pg bg sg dV kV doc pm an cdv ct) [a] [] ∧
    FnScope Ng [a] sg ∧ Ng[0]? = some a ∧ Vis sg a ∧ (a == ("__debug__" : Str)) = false ∧ (a == ("__classdict__" : Str)) = false ∧ (x == ("__debug__" : Str)) = false ∧ ∀ X : Cx, X.K = K → X.mg = mg → ∀ q, GivesTo X Ng x sg g cdv bg a q (TTw K mg F)
theorem whyC_of {K : PySem.W.Frag} {mg : Str → Option Value} {x a : Str} {st : Stmt} {g : Addr} {fd : FuncData} {Ng : List Str} {F : (Wd → Res) → Wd → Res} {gw : D → (Wd → Res) → SM} (Fn : Fun K x x st g fd) (S : FnScope Ng [a] (defScope st)) (hm : mg x = some (.ref g)) (hbi : Binds K fd [a] [])
    (hN : Ng[0]? = some a) (hv : Vis (defScope st) a) (h1 : (a == ("__debug__" : Str)) = false) (h2 : (a == ("__classdict__" : Str)) = false) (h3 : (x == ("__debug__" : Str)) = false)
    (hF : ∀ f c' q vs ds cb w, (gw (.clo f c' q vs ds) cb (startE Ng.length [.clo f c' q vs ds]) w).res = F cb w)
    (hb : ∀ X : Cx, X.K = K → X.mg = mg → ∀ (cdv : Value) (s : Shared) (H : Hp) (c : D) (cb : Wd → Res), (∀ (W : WX) (pn : List (Addr × Obj)) (xe : Value → Shared → Prop) (p1 p2 : Pos), Takes ((cxOf C8.CX0 X.prog X.w X.K X.mg X.base Ng x (defScope st) g cdv X.A X.stack s H C8.E0).nox.tr pn xe) W →
      VE ((cxOf C8.CX0 X.prog X.w X.K X.mg X.base Ng x (defScope st) g cdv X.A X.stack s H C8.E0).nox.tr pn xe) rE (looseW Ng.length W) (.Call (.Name a p1) [] [] p2) (dCb c 0 cb)) →
      VSs (cxOf C8.CX0 X.prog X.w X.K X.mg X.base Ng x (defScope st) g cdv X.A X.stack s H C8.E0).nox W0 (defBody st) (gw c cb)) : WhyC K mg x F := by
  obtain ⟨oc, od, kV, doc, pm, an, cdv, ct, osl, rfl, lk, hcd⟩ := Fn.ex
  refine ⟨g, a, Ng, _, _, _, _, kV, doc, pm, cdv, ct, oc, an, od, osl, hm, Fn.kp, lk, hcd, hbi, S, hN, hv, h1, h2, h3, fun X e1 e2 q => ?_⟩
  subst e1 e2
  exact why_gives hF fun s H c cb h => hb X rfl rfl cdv s H c cb h
theorem ve_whyC {X : Cx} {W : WX} {F : (Wd → Res) → Wd → Res} {fe : EM} {x : Str} {k : Nat} {params : Arguments} {body : Expr} {scope : Scope} {p lpos pos : Pos} {qual : Str} {cdv : Value}
    (C : WhyC X.K X.mg x F) (tb : TB X.K X.mg X.base) (hc : InTF X.K cdv qual) (hr : Room (k + 2) X.A) (L : LamS X.env.scope scope)
    (hbody : ∀ (A : Around) (outer : List PySem.Env) (s : Shared) (H : Hp) (E : XK) (f c' : Addr), Room k (A.deeper (lamEnv X scope s.heap.objs.size f c')) → VE (lamCx X A outer s H E scope f c') rE (fun cls d _ H => E cls d H) body fe)
    (hcode : X.env.code = cdv := by rfl) (hq : X.env.qual = qual ++ ".<locals>." := by rfl) (hg : Gl X x := by rfl) (hdef : defaultsOf params X.env = ([], []) := by rfl)
    (hbind : ∀ (q : Str) (cl : List (Str × Addr)) (pm cv ctv : Value), bindArgs (PySem.W.kla_fn "<lambda>" q params body scope cl pm cv ctv) ⟨[], []⟩ = pure [] := by exact fun _ _ _ _ _ => rfl) :
    VE X rE W (.Call (.Name x p) [.Lambda params body scope lpos] [] pos) (dWhy F fe) := by
  obtain ⟨g, a, Ng, pg, bg, sg, dV, kV, doc, pm, cdg, ct, oc, an, od, osl, hm, hk, lk, hcg, hb, Sg, hN, hv, h1, h2, h3, hG⟩ := C.ex
  obtain ⟨c, e, hin⟩ := hc
  have mem : (tabK X.K c, X.env.qual ++ "<lambda>") ∈ TK X.K := List.mem_map.mpr ⟨_, hin, by rw [hq]⟩
  exact ve_why hg hm hk lk hcg hb Sg hN hv (hG X rfl rfl _) (tb.tb _ hin) (hcode.trans e) mem (fun p hp e => tb.uq p hp _ mem e) hr L hdef hbind hbody h3 h1 h2
/-! ### is True, is False -/
def isBlD : D → D → Option D
  | .bl a, .bl b => some (.bl (decide (a = b)))
  | _, _ => none
def notBlD : D → D → Option D
  | .bl a, .bl b => some (.bl (!decide (a = b)))
  | _, _ => none
section
variable {X : Cx}
theorem od_isBl : OpD X rE (compareOp .Is) isBlD := fun pins s σ H x y v u Q I rx ry ⟨B, A, dx, dy, d, fr, h1, h2, e, q⟩ => by
  unfold isBlD at e
  split at e
  · cases e
    exact op_is_bl pins s σ H x y v u Q I rx ry ⟨_, _, h1.bl, h2.bl, q _ H (Same.refl H) (.bl _)⟩
  · cases e
theorem od_notBl : OpD X rE (compareOp .IsNot) notBlD := fun pins s σ H x y v u Q I rx ry ⟨B, A, dx, dy, d, fr, h1, h2, e, q⟩ => by
  unfold notBlD at e
  split at e
  · cases e
    exact op_isnot_bl pins s σ H x y v u Q I rx ry ⟨_, _, h1.bl, h2.bl, q _ H (Same.refl H) (.bl _)⟩
  · cases e
end
/-! ### list(range(n)) -/
def rgD (n : Int) : List D := (List.range (n - 0).toNat).map fun i => .int (0 + (i : Nat))
def dLRg (fa : EM) : EM := fun r w => (fa r w).bind fun x w' => match x with
  | .int n => if -(2 ^ 62) ≤ n ∧ n ≤ 2 ^ 24 then .ok (.lst (rgD n)) w' else .bad
  | _ => .bad
theorem rep_ints {c : Cf} {A : Addr → Prop} {H : Hp} : ∀ (l : List Nat), RepL c A H (l.map fun i => V.int (0 + (i : Nat))) (l.map fun i => D.int (0 + (i : Nat)))
  | [] => .nil
  | i :: l => .cons (.int _) (rep_ints l)
theorem vf_lrg {X : Cx} {W : WX} {e : Expr} {fa : EM} {p p1 pos p3 : Pos} (hc : X.calm = true) (hmL : X.mg "list" = none) (hmR : X.mg "range" = none) (ha : VE X rO W e fa) (hgL : Gl X "list" := by rfl) (hgR : Gl X "range" := by rfl)
    (na : starEach [e] X.env = (false, eval e X.env) :: starEach [] X.env := by rfl) (na2 : starEach [.Call (.Name "range" p1) [e] [] p3] X.env = (false, eval (.Call (.Name "range" p1) [e] [] p3) X.env) :: starEach [] X.env := by rfl) :
    VE X rF W (.Call (.Name "list" p) [.Call (.Name "range" p1) [e] [] p3] [] pos) (dLRg fa) := weak (pe_listRg hc hgL hmL (prg_1 hgR hmR ha na) na2) fun σ H Q ⟨B, A, r, w, hs, hp, q⟩ => by
  refine ⟨B, A, r, w, hs, hp, q.bind fun x w1 v H1 k1 p1 r1 q1 => ?_⟩
  cases x <;> first | exact q1.elim | skip
  rename_i n
  have e := r1.int
  simp only at q1
  split at q1
  · rename_i hn
    refine ⟨n, e, ⟨by omega, by omega, by omega, by omega, by omega⟩, fun t ht => ?_⟩
    exact q1 _ _ (.of (same_new ht)) (p1.keep (same_new ht)) (new_lst (B := B) (rep_ints _) ht)
  · exact q1.elim
/-! ### x, y = a, b where the names are cells: a tuple stands between -/
section
variable {X : Cx} {W : WX} {a b : Expr} {fa fb : EM} {pos : Pos}
theorem par_core {i j : Nat} (caps : List Nat) (o1 o2 : Bool) (hij : i ≠ j) {D : Ends} {σ : L2.St} {H : Hp} {B : Bs} {A : Addr → Prop} {r : Env} {w : Wd} (hs : StOk X.K X.mg B A σ H r) (hp : PenAt B.p B.lc A H w) (q : PostS X.K X.mg B W D (sPar i j caps o1 o2 fa fb r w)) {Q : List V → Hp → Prop}
    (hQ : ∀ v1 v2 H2 A' r' w', StOk X.K X.mg B A' ((σ.set i (some v1)).set j (some v2)) H2 r' → PenAt B.p B.lc A' H2 w' → PostS X.K X.mg B W D (.nx r' w') → Q [v1, v2] H2) :
    tCons (tV X.K X.mg (RKind o1) W fa) (tCons (tV X.K X.mg (RKind o2) W fb) tNil) σ H Q := by
  have hs1 := hs.rel (these caps)
  have hp1 : PenAt B.p B.lc (fun a => A a ∧ ¬ OwnBy (these caps) σ r a) H w := hp.less fun a z => .inl z.1
  generalize hr0 : rel (these caps) r = r0 at hs1 q
  have q : PostS X.K X.mg B W D ((fa r0 w).en r0 fun d1 w1 => (fb r0 w1).en r0 fun d2 w2 => .nx ((r0.set i (some (d1, o1))).set j (some (d2, o2))) w2) := by
    have : PostS X.K X.mg B W D (sPar i j caps o1 o2 fa fb r w) := by assumption
    unfold sPar at this
    rw [hr0] at this
    exact this
  generalize (fun a => A a ∧ ¬ OwnBy (these caps) σ r a) = A1 at hs1 hp1
  refine ⟨B, A1, r0, w, hs1, hp1, PostS.en hs1 q fun d1 w1 v1 H1 k1 p1 r1 q => ?_⟩
  cases o1 with
  | false =>
    refine ⟨B, A1, r0, w1, hs1.keep k1, p1, PostS.en (hs1.keep k1) q fun d2 w2 v2 H2 kk2 p2 r2 q => ?_⟩
    obtain ⟨A', _, dn, st, pp, _⟩ := par_set (i := j) (hs1.keep k1) kk2 r2 p1 p2
    have r1' : Rep (B.cf X.K X.mg) A' H2 v1 d1 := (Rep.to dn r1).keepA (Kp.a kk2)
    refine hQ v1 v2 H2 A' _ _ ?_ pp q
    have := st.set (i := i) r1'
    rw [List.set_comm _ _ hij, List.set_comm _ _ hij]
    exact this
  | true =>
    obtain ⟨a1, rfl, hn1, ho1⟩ := r1
    have hsA := hs1.side hn1 k1 ho1.some
    have pA := p1.more hn1 k1 ⟨w, hp1⟩
    refine ⟨B, _, r0, w1, hsA, pA, PostS.en hsA q fun d2 w2 v2 H2 kk2 p2 r2 q => ?_⟩
    obtain ⟨A', ups, dn, st, pp, fr⟩ := par_set (i := j) hsA kk2 r2 pA p2
    obtain ⟨o1, t1⟩ := ho1.some
    have nap : a1 ≠ B.p := (hs1.freshF hn1).2
    have up : A' a1 := ups a1 (.inr rfl)
    have ho2 : OwnR (B.cf X.K X.mg) A' H2 a1 d1 := (ho1.to dn).keepA (Kp.a kk2) fun o m z => kk2.k a1 o nap m z
    refine hQ (.ref a1) v2 H2 A' _ _ ?_ pp q
    have := st.take (i := i) up (hs1.kp.free hn1) ho2 fun m e e1 e2 => ?_
    · rw [List.set_comm _ _ hij, List.set_comm _ _ hij]
      exact this
    · exfalso
      rcases set_at e1 with ⟨rfl, z⟩ | ⟨n, z⟩
      · have hl : m < σ.length := by rw [← hsA.ln]; have := (List.getElem?_eq_some_iff.mp e1).1; simpa using this
        rw [List.getElem?_set_self hl] at e2
        cases e2
        cases z
        obtain ⟨a2, e3, n2⟩ := fr rfl
        cases e3
        exact n2 _ t1.1 t1.2.nt
      · rw [List.getElem?_set_ne (Ne.symm n)] at e2
        exact hs1.notOwn (hs1.freshF hn1).1 m e z e2
theorem vs_parC {i j : Nat} {x y : Str} {px py pt : Pos} {kt k2 pt2} (caps : List Nat) (o1 o2 : Bool) (hc : X.calm = true) (hN : X.N.Nodup) (hij : i ≠ j)
    (ha : VE X (RKind o1) W a fa) (hb : VE X (RKind o2) W b fb) (hi : X.N[i]? = some x := by rfl) (hj : X.N[j]? = some y := by rfl) (hx : Loc X.env.scope x := by first | exact Or.inl rfl | exact Or.inr rfl) (hy : Loc X.env.scope y := by first | exact Or.inl rfl | exact Or.inr rfl) (hfx : X.fn x = true ∨ X.env.scope.names.lookup x = some .local := by first | exact .inl rfl | exact .inr rfl) (hfy : X.fn y = true ∨ X.env.scope.names.lookup y = some .local := by first | exact .inl rfl | exact .inr rfl)
    (hw : swappedStores [.Tuple [.Name x px, .Name y py] kt pt] (.Tuple [a, b] k2 pt2) X.env = pure none := by rfl) (hsw : swapsWithSole [.Tuple [.Name x px, .Name y py] kt pt] (.Tuple [a, b] k2 pt2) pos.line X.env = pure false := by rfl)
    (hs1 : starEach [a, b] X.env = (false, eval a X.env) :: starEach [b] X.env := by rfl) (hs2 : starEach [b] X.env = (false, eval b X.env) :: starEach [] X.env := by rfl)
    (h1 : (assignEach [.Tuple [.Name x px, .Name y py] kt pt] X.env).map (·.2) = [assign (.Tuple [.Name x px, .Name y py] kt pt) X.env] := by rfl)
    (hn : (assignEach [.Name x px, .Name y py] X.env).length = 2 := by rfl) (hst : (assignEach [.Name x px, .Name y py] X.env).findIdx? (·.1) = none := by rfl)
    (hg1 : (assignEach (.Name x px :: [.Name y py]) X.env).map (·.2) = assign (.Name x px) X.env :: (assignEach [.Name y py] X.env).map (·.2) := by rfl) (hg2 : (assignEach (.Name y py :: []) X.env).map (·.2) = assign (.Name y py) X.env :: (assignEach [] X.env).map (·.2) := by rfl) :
    VS X W (.Assign [.Tuple [.Name x px, .Name y py] kt pt] (.Tuple [a, b] k2 pt2) pos) (sPar i j caps o1 o2 fa fb) :=
  weakS (ps_asg (pe_tup (pa_cons ha (pa_cons hb pa_nil hs2) hs1)) (pg_tup hc (pgs_cons (pg_name hN hi hx hfx) (pgs_cons (pg_name hN hj hy hfy) pgs_nil hg2) hg1) hn hst) hsw hw h1) fun D σ H ⟨B, A, r, w, hs, hp, q⟩ => by
  refine par_core (Q := fun xs H1 => xs.length ≤ sizeLine ∧ ∀ p, H1 p = none → gTup X.K 2 (gCons (gName i) (gCons (gName j) gNil)) (.ref p) σ (upd H1 p (.tup xs)) D.nx) caps o1 o2 hij hs hp q fun v1 v2 H2 A' r' w' st pp q => ?_
  refine ⟨(by show 2 ≤ sizeLine; decide), fun t ht => ⟨t, [v1, v2], rfl, SqT.of upd_same, rfl, ?_⟩⟩
  have k : Same H2 (upd H2 t (.tup [v1, v2])) := same_new ht
  exact ⟨v1, _, rfl, v2, _, rfl, rfl, q _ _ A' (st.keep (.of k)) (pp.keep k)⟩
end
instance {o : Bool} : RKm (RKind o) := by cases o with
  | true => exact (inferInstance : RKm rF)
  | false => exact (inferInstance : RKm rE)
end DL

set_option Elab.async false
set_option linter.all false
set_option maxRecDepth 100000
set_option maxHeartbeats 2000000
namespace DL
open PySem PySem.SeqAt PySem.Spec PyProof.Rows L2

/-! ### the plain side: comprehensions, loops -/
theorem lcL_pure {vs : List Nat} {g : GM} {ft fe : EM} {r : Env} {w : Wd} {r1 : D → Env} {p : D → Bool} {h : D → D} : ∀ {l acc : List D}, (∀ d ∈ l, g d (wipeE vs r) = some (r1 d)) → (∀ d ∈ l, ft (r1 d) w = .ok (.bl (p d)) w) → (∀ d ∈ l, p d = true → fe (r1 d) w = .ok (h d) w) → acc.length + l.length ≤ sizeLine →
    lcL vs g ft fe r l w acc = .ok (.lst (acc ++ (l.filter p).map h)) w
  | [], acc, _, _, _, _ => by unfold lcL; simp
  | d :: l, acc, h1, h2, h3, hz => by
    have hz' : acc.length + (l.length + 1) ≤ sizeLine := by simpa using hz
    unfold lcL
    rw [h1 d List.mem_cons_self]
    simp only
    rw [h2 d List.mem_cons_self]
    cases e : p d with
    | true =>
      simp only
      rw [h3 d List.mem_cons_self e]
      simp only
      rw [if_pos (by omega), lcL_pure (fun x hx => h1 x (List.mem_cons_of_mem _ hx)) (fun x hx => h2 x (List.mem_cons_of_mem _ hx)) (fun x hx => h3 x (List.mem_cons_of_mem _ hx)) (by rw [List.length_append, List.length_singleton]; omega)]
      rw [List.filter_cons_of_pos e, List.map_cons, List.append_assoc]; rfl
    | false =>
      simp only
      rw [lcL_pure (fun x hx => h1 x (List.mem_cons_of_mem _ hx)) (fun x hx => h2 x (List.mem_cons_of_mem _ hx)) (fun x hx => h3 x (List.mem_cons_of_mem _ hx)) (by omega)]
      rw [List.filter_cons_of_neg (by rw [e]; decide)]
/-- [h d for d in l] -/
theorem lcL_map {vs : List Nat} {g : GM} {fe : EM} {r : Env} {w : Wd} {l : List D} (r1 : D → Env) (h : D → D) (h1 : ∀ d ∈ l, g d (wipeE vs r) = some (r1 d)) (h3 : ∀ d ∈ l, fe (r1 d) w = .ok (h d) w) (hz : l.length ≤ sizeLine) : lcL vs g dYes fe r l w [] = .ok (.lst (l.map h)) w := by
  have := lcL_pure (vs := vs) (g := g) (ft := dYes) (fe := fe) (r := r) (w := w) (r1 := r1) (p := fun _ => true) (h := h) (l := l) (acc := []) h1 (fun _ _ => rfl) (fun d hd _ => h3 d hd) (by simpa using hz)
  rw [this, List.nil_append, List.filter_eq_self.mpr (fun _ _ => rfl)]
/-- [d for d in l if p d] -/
theorem lcL_filter {vs : List Nat} {g : GM} {ft fe : EM} {r : Env} {w : Wd} {l : List D} (r1 : D → Env) (p : D → Bool) (h1 : ∀ d ∈ l, g d (wipeE vs r) = some (r1 d)) (h2 : ∀ d ∈ l, ft (r1 d) w = .ok (.bl (p d)) w) (h3 : ∀ d ∈ l, p d = true → fe (r1 d) w = .ok d w) (hz : l.length ≤ sizeLine) : lcL vs g ft fe r l w [] = .ok (.lst (l.filter p)) w := by
  have := lcL_pure (vs := vs) (g := g) (ft := ft) (fe := fe) (r := r) (w := w) (r1 := r1) (p := p) (h := fun d => d) (l := l) (acc := []) h1 h2 h3 (by simpa using hz)
  rw [this, List.nil_append, List.map_id']
/-- elements that are drawn -/
theorem lcL_draw {vs : List Nat} {g : GM} {fe : EM} {r : Env} {r1 : D → Env} {Q : D → D → Prop} : ∀ {l acc : List D} {w : Wd}, (∀ d ∈ l, g d (wipeE vs r) = some (r1 d)) → (∀ d ∈ l, ∀ w, ∃ y w', fe (r1 d) w = .ok y w' ∧ Q d y) → acc.length + l.length ≤ sizeLine →
    ∃ ys w', lcL vs g dYes fe r l w acc = .ok (.lst (acc ++ ys)) w' ∧ Paired Q l ys
  | [], acc, w, _, _, _ => ⟨[], w, by unfold lcL; simp, .nil⟩
  | d :: l, acc, w, h1, h2, hz => by
    have hz' : acc.length + (l.length + 1) ≤ sizeLine := by simpa using hz
    obtain ⟨y, w1, e1, q1⟩ := h2 d List.mem_cons_self w
    obtain ⟨ys, w2, e2, q2⟩ := lcL_draw (vs := vs) (g := g) (fe := fe) (r := r) (r1 := r1) (Q := Q) (l := l) (acc := acc ++ [y]) (w := w1) (fun x hx => h1 x (List.mem_cons_of_mem _ hx)) (fun x hx => h2 x (List.mem_cons_of_mem _ hx)) (by rw [List.length_append, List.length_singleton]; omega)
    refine ⟨y :: ys, w2, ?_, .cons q1 q2⟩
    unfold lcL
    rw [h1 d List.mem_cons_self]
    simp only [dYes]
    rw [e1]
    simp only
    rw [if_pos (by omega), e2, List.append_assoc]; rfl
/-- elements and tests that are drawn; Q of what is kept -/
theorem lcL_drawF {vs : List Nat} {g : GM} {ft fe : EM} {r : Env} {r1 : D → Env} {Q : D → Prop} : ∀ {l acc : List D} {w : Wd}, (∀ d ∈ l, g d (wipeE vs r) = some (r1 d)) → (∀ d ∈ l, ∀ w, ∃ b w', ft (r1 d) w = .ok (.bl b) w' ∧ (b = true → ∀ w, ∃ y w', fe (r1 d) w = .ok y w' ∧ Q y)) → acc.length + l.length ≤ sizeLine →
    ∃ ys w', lcL vs g ft fe r l w acc = .ok (.lst (acc ++ ys)) w' ∧ ys.length ≤ l.length ∧ ∀ y ∈ ys, Q y
  | [], acc, w, _, _, _ => ⟨[], w, by unfold lcL; simp, by simp, by simp⟩
  | d :: l, acc, w, h1, h2, hz => by
    have hz' : acc.length + (l.length + 1) ≤ sizeLine := by simpa using hz
    obtain ⟨b, w1, e1, q1⟩ := h2 d List.mem_cons_self w
    unfold lcL
    rw [h1 d List.mem_cons_self]
    simp only
    rw [e1]
    cases b with
    | true =>
      obtain ⟨y, w2, e2, q2⟩ := q1 rfl w1
      obtain ⟨ys, w3, e3, l3, q3⟩ := lcL_drawF (vs := vs) (g := g) (ft := ft) (fe := fe) (r := r) (r1 := r1) (Q := Q) (l := l) (acc := acc ++ [y]) (w := w2) (fun x hx => h1 x (List.mem_cons_of_mem _ hx)) (fun x hx => h2 x (List.mem_cons_of_mem _ hx)) (by rw [List.length_append, List.length_singleton]; omega)
      refine ⟨y :: ys, w3, ?_, by simpa using l3, fun z hz => ?_⟩
      · simp only
        rw [e2]
        simp only
        rw [if_pos (by omega), e3, List.append_assoc]; rfl
      · rcases List.mem_cons.mp hz with rfl | hz
        · exact q2
        · exact q3 z hz
    | false =>
      obtain ⟨ys, w3, e3, l3, q3⟩ := lcL_drawF (vs := vs) (g := g) (ft := ft) (fe := fe) (r := r) (r1 := r1) (Q := Q) (l := l) (acc := acc) (w := w1) (fun x hx => h1 x (List.mem_cons_of_mem _ hx)) (fun x hx => h2 x (List.mem_cons_of_mem _ hx)) (by omega)
      exact ⟨ys, w3, e3, by simp; omega, q3⟩
/-- a loop that never leaves: I i holds ahead of the i-th turn -/
theorem forL_inv {g : GM} {f : SM} (I : Nat → Env → Prop) : ∀ {l : List D} {i : Nat} {r : Env} {w : Wd}, I i r → (∀ (j : Nat) (d : D) (r : Env) (w : Wd), l[j]? = some d → I (i + j) r → ∃ r1, g d r = some r1 ∧ ∃ r2 w2, f r1 w = .nx r2 w2 ∧ I (i + j + 1) r2) →
    ∃ r2 w2, forL g f l r w = .nx r2 w2 ∧ I (i + l.length) r2
  | [], i, r, w, h, _ => ⟨r, w, rfl, h⟩
  | d :: l, i, r, w, h, hs => by
    obtain ⟨r1, e1, r2, w2, e2, q⟩ := hs 0 d r w rfl h
    obtain ⟨r3, w3, e3, q3⟩ := forL_inv (g := g) (f := f) I (l := l) (i := i + 1) (r := r2) (w := w2) q fun j d' r' w' e h' => by
      have := hs (j + 1) d' r' w' (by simpa using e) (by rw [show i + (j + 1) = i + 1 + j by omega]; exact h')
      rw [show i + (j + 1) + 1 = i + 1 + j + 1 by omega] at this
      exact this
    refine ⟨r3, w3, ?_, by rw [List.length_cons, show i + (l.length + 1) = i + 1 + l.length by omega]; exact q3⟩
    unfold forL
    rw [e1]
    simp only
    rw [e2]
    exact e3
theorem paired_len {α β : Type} {Q : α → β → Prop} {l : List α} {m : List β} (h : Paired Q l m) : l.length = m.length := by
  induction h with
  | nil => rfl
  | cons _ _ ih => rw [List.length_cons, List.length_cons, ih]
theorem paired_mem {α β : Type} {Q : α → β → Prop} {l : List α} {m : List β} (h : Paired Q l m) : ∀ y ∈ m, ∃ x ∈ l, Q x y := by
  induction h with
  | nil => intro y hy; cases hy
  | cons q _ ih =>
    intro y hy
    rcases List.mem_cons.mp hy with rfl | hy
    · exact ⟨_, List.mem_cons_self, q⟩
    · obtain ⟨x, hx, hq⟩ := ih y hy
      exact ⟨x, List.mem_cons_of_mem _ hx, hq⟩
/-! equality -/
mutual
theorem eqv_self : ∀ d : D, d.pl = true → PyData.eqv d.py d.py = true
  | .non, _ => rfl
  | .bl b, _ => by cases b <;> rfl
  | .int i, _ => by simp [D.py, PyData.eqv]
  | .str s, _ => by simp [D.py, PyData.eqv]
  | .tup l, h => by
    have h : D.pls l = true := h
    show PyData.eqv (.tuple (D.pys l)) (.tuple (D.pys l)) = true
    rw [PyData.eqv]; exact eqv_selfs l h
  | .kup l, h => by
    have h : D.pls l = true := h
    show PyData.eqv (.tuple (D.pys l)) (.tuple (D.pys l)) = true
    rw [PyData.eqv]; exact eqv_selfs l h
  | .lst l, h => by
    have h : D.pls l = true := h
    show PyData.eqv (.list (D.pys l)) (.list (D.pys l)) = true
    rw [PyData.eqv]; exact eqv_selfs l h
  | .dic _, h => by cases h
  | .dit _, h => by cases h
  | .obj _ _, h => by cases h
  | .pen, h => by cases h
  | .clo _ _ _ _ _, h => by cases h
  | .err _ _, h => by cases h
theorem eqv_selfs : ∀ l : List D, D.pls l = true → PyData.eqvAll (D.pys l) (D.pys l) = true
  | [], _ => rfl
  | d :: l, h => by
    have h : d.pl = true ∧ D.pls l = true := by simpa [D.pls] using h
    show PyData.eqvAll (d.py :: D.pys l) (d.py :: D.pys l) = true
    rw [PyData.eqvAll, eqv_self d h.1, eqv_selfs l h.2]; rfl
end
theorem eqD_self {d : D} (p : d.pl = true) (z : d.py.depth ≤ 64) : eqD d d = some (.bl true) := by
  unfold eqD
  rw [if_pos (by unfold eqOk; rw [p]; simpa using z), eqv_self d p]
theorem neD_self {d : D} (p : d.pl = true) (z : d.py.depth ≤ 64) : neD d d = some (.bl false) := by
  unfold neD
  rw [if_pos (by unfold eqOk; rw [p]; simpa using z), eqv_self d p]; rfl
theorem eqD_nil {l : List D} (p : D.pls l = true) : eqD (.lst l) (.lst []) = some (.bl l.isEmpty) := by
  unfold eqD
  rw [if_pos]
  · cases l with
    | nil => rfl
    | cons d l => 
      show some (D.bl (PyData.eqv (.list (d.py :: D.pys l)) (.list []))) = _
      rw [PyData.eqv]; rfl
  · unfold eqOk
    have p1 : (D.lst l).pl = true := p
    have p2 : (D.lst []).pl = true := rfl
    rw [p1, p2]
    have : (D.lst []).py.depth = 1 := rfl
    rw [this]
    simp
    omega
theorem neD_nil {l : List D} (p : D.pls l = true) : neD (.lst l) (.lst []) = some (.bl (!l.isEmpty)) := by
  have := eqD_nil p
  unfold eqD at this
  unfold neD
  split at this
  · rename_i h
    rw [if_pos h]
    simp only [Option.some.injEq, D.bl.injEq] at this
    rw [this]
  · cases this
theorem pls_of : ∀ {l : List D}, (∀ d ∈ l, d.pl = true) → D.pls l = true
  | [], _ => rfl
  | d :: l, h => by
    show (d.pl && D.pls l) = true
    rw [h d List.mem_cons_self, pls_of fun x hx => h x (List.mem_cons_of_mem _ hx)]; rfl
theorem eqD_str (a b : Str) : eqD (.str a) (.str b) = some (.bl (decide (a = b))) := by
  unfold eqD
  rw [if_pos (by rfl)]
  show some (D.bl (PyData.eqv (.str a) (.str b))) = _
  rw [PyData.eqv]
  congr 2
theorem neD_str (a b : Str) : neD (.str a) (.str b) = some (.bl (!decide (a = b))) := by
  unfold neD
  rw [if_pos (by rfl)]
  show some (D.bl (!PyData.eqv (.str a) (.str b))) = _
  rw [PyData.eqv]
  congr 3
theorem eqD_int (a b : Int) : eqD (.int a) (.int b) = some (.bl (decide (a = b))) := by
  unfold eqD
  rw [if_pos (by rfl)]
  show some (D.bl (PyData.eqv (.int a) (.int b))) = _
  simp [PyData.eqv]
  exact Bool.eq_iff_iff.mpr (by simp)
theorem neD_int (a b : Int) : neD (.int a) (.int b) = some (.bl (!decide (a = b))) := by
  unfold neD
  rw [if_pos (by rfl)]
  show some (D.bl (!PyData.eqv (.int a) (.int b))) = _
  simp [PyData.eqv]
  exact Bool.eq_iff_iff.mpr (by simp)
end DL

set_option Elab.async false
set_option linter.all false
set_option maxRecDepth 100000
set_option maxHeartbeats 2000000
namespace DL
open PySem PySem.SeqAt PySem.Spec PyProof.Rows L2
/-! ### the draw -/
def Ret (m : Int) (x : SR) : Prop := ∃ d w', x.res = .ok (.int d) w' ∧ 0 ≤ d ∧ d < m
theorem seq_ret {m : Int} {f g : SM} {r : DL.Env} {w : Wd} (P : DL.Env → Wd → Prop) (h : ∃ r1 w1, f r w = .nx r1 w1 ∧ P r1 w1) (k : ∀ r1 w1, P r1 w1 → Ret m (g r1 w1)) : Ret m (sSeq f g r w) := by
  obtain ⟨r1, w1, e, p⟩ := h
  have := k r1 w1 p
  unfold sSeq
  rw [e]
  exact this
theorem putCt_some {z : Int} {w : Wd} (h : 0 ≤ z) : ∃ w', putCt z w = some w' := by unfold putCt; rw [dif_pos h]; exact ⟨_, rfl⟩
theorem putAt_some {z : Int} {w : Wd} (h : 0 ≤ z) : ∃ w', DL.putAt z w = some w' := by unfold DL.putAt; rw [dif_pos h]; exact ⟨_, rfl⟩
theorem putDg_some {z : Int} {w : Wd} (h : 0 ≤ z) : ∃ w', putDg z w = some w' := by unfold putDg; rw [dif_pos h]; exact ⟨_, rfl⟩
theorem putFo_some {z : Int} {w : Wd} (h : 0 ≤ z) (h1 : z < 2 ^ 31) : ∃ w', putFo z w = some w' := by unfold putFo; rw [dif_pos ⟨h, h1⟩]; exact ⟨_, rfl⟩
theorem timesD_s {a b : Int} (h : a.natAbs < 2 ^ 63 ∨ b.natAbs < 2 ^ 63) : timesD (.int a) (.int b) = some (.int (a * b)) := by
  unfold timesD
  refine if_pos ?_
  rcases h with h | h
  · exact (CMul.ok (.inl ⟨by omega, by omega⟩))
  · exact (CMul.ok (.inr ⟨by omega, by omega⟩))
theorem modD_s {a b : Int} (h : b ≠ 0) : modD (.int a) (.int b) = some (.int (a.fmod b)) := by
  unfold modD
  exact if_pos h
theorem fdivD_s {a b : Int} (h : b ≠ 0) (h2 : b.natAbs.log2 < 9000) : fdivD (.int a) (.int b) = some (.int (a.fdiv b)) := by
  unfold fdivD
  exact if_pos ⟨h, h2⟩
theorem plusD_i {a b : Int} : plusD (.int a) (.int b) = some (.int (a + b)) := rfl
theorem subD_i {a b : Int} : subD (.int a) (.int b) = some (.int (a - b)) := rfl
theorem pow18 : powD (.int 10) (.int 18) = some (.int 1000000000000000000) := by
  show (if CPow 10 18 then some (D.int (10 ^ (18 : Int).toNat)) else none) = _
  rw [if_pos (by unfold CPow; decide)]
  rfl
theorem fm {m : Int} (a : Int) (h : 0 < m) : 0 ≤ a.fmod m ∧ a.fmod m < m := by
  rw [Int.fmod_eq_emod_of_nonneg a (by omega)]
  exact ⟨Int.emod_nonneg _ (by omega), Int.emod_lt_of_pos _ h⟩
theorem fd {a m : Int} (h : 0 < m) (h0 : 0 ≤ a) : 0 ≤ a.fdiv m := by
  rw [Int.fdiv_eq_ediv_of_nonneg a (by omega)]
  exact Int.ediv_nonneg h0 (by omega)
def drawG (a1 m1 a2 a3 a4 m2 a5 m3 a6 a7 m4 : Int) : SM := (sSeq (sPen 0 putCt (dBin plusD (dPen 0 Wd.ct) (dC (.int 1)))) (sSeq (sIf (dAnd (dBin eqD (dPen 0 Wd.dg) (dC (.int 0))) (dBin ltD (dPen 0 Wd.at_) (dPen 0 fun w => w.cells.length))) (sSeq (sSet 2 [] (dCell 0)) (sSeq (sPen 0 DL.putAt (dBin plusD (dPen 0 Wd.at_) (dC (.int 1)))) (sIf (dBin geD (dObs 2) (dBin powD (dC (.int 10)) (dC (.int 18)))) (sPen 0 putDg (dBin subD (dObs 2) (dBin powD (dC (.int 10)) (dC (.int 18))))) (sPen 0 putFo (dBin modD (dB intD (aCons (dBin plusD (dBin timesD (dPen 0 Wd.fo) (dC (.int a1))) (dObs 2)) aNil)) (dC (.int m1))))))) sNext) (sSeq (sIf (dBin gtD (dPen 0 Wd.dg) (dC (.int 0))) (sSeq (sSet 3 [] (dBin modD (dB intD (aCons (dPen 0 Wd.dg) aNil)) (dObs 1))) (sSeq (sPen 0 putDg (dBin fdivD (dPen 0 Wd.dg) (dObs 1))) (sRet (dVar 3)))) sNext) (sSeq (sSet 4 [] (dBin modD (dB intD (aCons (dBin plusD (dBin plusD (dBin timesD (dPen 0 Wd.fo) (dC (.int a2))) (dBin timesD (dPen 0 Wd.ct) (dC (.int a3)))) (dC (.int a4))) aNil)) (dC (.int m2)))) (sSeq (sSet 4 [] (dBin modD (dB intD (aCons (dBin plusD (dBin plusD (dBin timesD (dObs 4) (dObs 4)) (dBin timesD (dC (.int a5)) (dObs 4))) (dPen 0 Wd.ct)) aNil)) (dC (.int m3)))) (sSeq (sPen 0 putFo (dBin modD (dB intD (aCons (dBin plusD (dBin timesD (dObs 4) (dC (.int a6))) (dC (.int a7))) aNil)) (dC (.int m4)))) (sRet (dBin modD (dB intD (aCons (dBin fdivD (dObs 4) (dC (.int 64))) aNil)) (dObs 1)))))))))
theorem atI_some {l : List Int} {i : Int} (h0 : 0 ≤ i) (h1 : i < l.length) : ∃ c, L2.atI (l.map D.int) i = some (.int c) := by
  have h2 : i.toNat < l.length := by omega
  refine ⟨l[i.toNat], ?_⟩
  unfold L2.atI ixN
  rw [List.length_map, if_pos h0, if_pos h1]
  show (l.map D.int)[i.toNat]? = _
  rw [List.getElem?_map, List.getElem?_eq_getElem h2]; rfl
theorem draw_ok {a1 m1 a2 a3 a4 m2 a5 m3 a6 a7 m4 m : Int} (w : Wd) (h : 0 < m) (hz : m.natAbs.log2 < 9000) (hc : a1.natAbs < 2 ^ 63 ∧ a2.natAbs < 2 ^ 63 ∧ a3.natAbs < 2 ^ 63 ∧ a5.natAbs < 2 ^ 63 ∧ a6.natAbs < 2 ^ 63 ∧ 0 < m1 ∧ m1 < 2 ^ 31 ∧ 0 < m2 ∧ m2 < 2 ^ 31 ∧ 0 < m3 ∧ m3 < 2 ^ 31 ∧ 0 < m4 ∧ m4 < 2 ^ 31 := by decide) :
    ∃ d w', runD 5 (drawG a1 m1 a2 a3 a4 m2 a5 m3 a6 a7 m4) [.pen, .int m] w = .ok (.int d) w' ∧ 0 ≤ d ∧ d < m := by
  obtain ⟨c1, c2, c3, c4, c5, c6, c7, c8, c9, c10, c11, c12, c13⟩ := hc
  show Ret m (drawG a1 m1 a2 a3 a4 m2 a5 m3 a6 a7 m4 (startE 5 [.pen, .int m]) w)
  unfold drawG
  have hm0 : m ≠ 0 := by omega
  refine seq_ret (fun r _ => ∃ x, r = [some (.pen, false), some (.int m, false), x, none, none]) ?_ ?_
  · have := w.ct0
    obtain ⟨w1, e⟩ := putCt_some (z := w.ct + 1) (w := w) (by omega)
    exact ⟨_, w1, by simp only [sPen, dPen, penI, dCell, intD, geD, gtD, plusD_i, subD_i, pow18, runD, startE, SR.res, sSeq, SR.seq, sIf, Res.en, sRet, sSet, sSetO, sSetF, dVar, dObs, dC, dBin, dUn, Res.bind, Res.of, dNot, dAnd, dOr, dIf, dChain, dB, ResI.toR, aNil, aCons, ResI.mapA, dCall, dTup, dLst, sNext, rel, List.mapIdx_cons, List.mapIdx_nil, List.map_cons, List.map_nil, List.cons_append, List.nil_append, List.append_nil, List.length_cons, List.length_nil, List.replicate_succ, List.replicate_zero, List.getElem?_cons_zero, List.getElem?_cons_succ, all_, these, List.set_cons_zero, List.set_cons_succ, Bool.not_true, Bool.not_false, Bool.and_false, Bool.and_true, Bool.false_and, Bool.true_and, Nat.reduceAdd, Nat.reduceSub, dComp, iSigns, Res.toI, signsD, iSeq, itemsD, dM, leD, gtD, ltD, isiD, List.contains_nil, Int.reduceLE, Int.reduceLT, decide_true, decide_false, Option.map_some, if_true, if_false, Nat.zero_le, sizeLine_eq, Nat.reduceLeDiff, e], none, rfl⟩
  clear w
  rintro _ w ⟨x, rfl⟩
  refine seq_ret (fun r _ => ∃ x, r = [some (.pen, false), some (.int m, false), x, none, none]) ?_ ?_
  · cases b1 : decide (w.dg = 0) with
    | false => exact ⟨_, w, by simp only [sPen, dPen, penI, dCell, intD, geD, gtD, plusD_i, subD_i, pow18, runD, startE, SR.res, sSeq, SR.seq, sIf, Res.en, sRet, sSet, sSetO, sSetF, dVar, dObs, dC, dBin, dUn, Res.bind, Res.of, dNot, dAnd, dOr, dIf, dChain, dB, ResI.toR, aNil, aCons, ResI.mapA, dCall, dTup, dLst, sNext, rel, List.mapIdx_cons, List.mapIdx_nil, List.map_cons, List.map_nil, List.cons_append, List.nil_append, List.append_nil, List.length_cons, List.length_nil, List.replicate_succ, List.replicate_zero, List.getElem?_cons_zero, List.getElem?_cons_succ, all_, these, List.set_cons_zero, List.set_cons_succ, Bool.not_true, Bool.not_false, Bool.and_false, Bool.and_true, Bool.false_and, Bool.true_and, Nat.reduceAdd, Nat.reduceSub, dComp, iSigns, Res.toI, signsD, iSeq, itemsD, dM, leD, gtD, ltD, isiD, List.contains_nil, Int.reduceLE, Int.reduceLT, decide_true, decide_false, Option.map_some, if_true, if_false, Nat.zero_le, sizeLine_eq, Nat.reduceLeDiff, eqD_int, b1]; rfl, x, by cases x <;> rfl⟩
    | true =>
      by_cases b2 : w.at_ < w.cells.length
      · obtain ⟨c, ec⟩ := atI_some w.at0 b2
        have h0 := w.at0
        obtain ⟨w1, e1⟩ := putAt_some (z := w.at_ + 1) (w := w) (by omega)
        by_cases b3 : (1000000000000000000 : Int) ≤ c
        · obtain ⟨w2, e2⟩ := putDg_some (z := c - 1000000000000000000) (w := w1) (by omega)
          exact ⟨_, w2, by simp only [sPen, dPen, penI, dCell, intD, geD, gtD, plusD_i, subD_i, pow18, runD, startE, SR.res, sSeq, SR.seq, sIf, Res.en, sRet, sSet, sSetO, sSetF, dVar, dObs, dC, dBin, dUn, Res.bind, Res.of, dNot, dAnd, dOr, dIf, dChain, dB, ResI.toR, aNil, aCons, ResI.mapA, dCall, dTup, dLst, sNext, rel, List.mapIdx_cons, List.mapIdx_nil, List.map_cons, List.map_nil, List.cons_append, List.nil_append, List.append_nil, List.length_cons, List.length_nil, List.replicate_succ, List.replicate_zero, List.getElem?_cons_zero, List.getElem?_cons_succ, all_, these, List.set_cons_zero, List.set_cons_succ, Bool.not_true, Bool.not_false, Bool.and_false, Bool.and_true, Bool.false_and, Bool.true_and, Nat.reduceAdd, Nat.reduceSub, dComp, iSigns, Res.toI, signsD, iSeq, itemsD, dM, leD, gtD, ltD, isiD, List.contains_nil, Int.reduceLE, Int.reduceLT, decide_true, decide_false, Option.map_some, if_true, if_false, Nat.zero_le, sizeLine_eq, Nat.reduceLeDiff, eqD_int, b1, b2, ec, e1, b3, e2]; rfl, _, rfl⟩
        · have g := fm (m := m1) (w1.fo * a1 + c) c6
          obtain ⟨w2, e2⟩ := putFo_some (z := (w1.fo * a1 + c).fmod m1) (w := w1) g.1 (by omega)
          exact ⟨_, w2, by simp only [sPen, dPen, penI, dCell, intD, geD, gtD, plusD_i, subD_i, pow18, runD, startE, SR.res, sSeq, SR.seq, sIf, Res.en, sRet, sSet, sSetO, sSetF, dVar, dObs, dC, dBin, dUn, Res.bind, Res.of, dNot, dAnd, dOr, dIf, dChain, dB, ResI.toR, aNil, aCons, ResI.mapA, dCall, dTup, dLst, sNext, rel, List.mapIdx_cons, List.mapIdx_nil, List.map_cons, List.map_nil, List.cons_append, List.nil_append, List.append_nil, List.length_cons, List.length_nil, List.replicate_succ, List.replicate_zero, List.getElem?_cons_zero, List.getElem?_cons_succ, all_, these, List.set_cons_zero, List.set_cons_succ, Bool.not_true, Bool.not_false, Bool.and_false, Bool.and_true, Bool.false_and, Bool.true_and, Nat.reduceAdd, Nat.reduceSub, dComp, iSigns, Res.toI, signsD, iSeq, itemsD, dM, leD, gtD, ltD, isiD, List.contains_nil, Int.reduceLE, Int.reduceLT, decide_true, decide_false, Option.map_some, if_true, if_false, Nat.zero_le, sizeLine_eq, Nat.reduceLeDiff, eqD_int, b1, b2, ec, e1, b3, e2, timesD_s (.inr c1), modD_s (show m1 ≠ 0 by omega)]; rfl, _, rfl⟩
      · exact ⟨_, w, by simp only [sPen, dPen, penI, dCell, intD, geD, gtD, plusD_i, subD_i, pow18, runD, startE, SR.res, sSeq, SR.seq, sIf, Res.en, sRet, sSet, sSetO, sSetF, dVar, dObs, dC, dBin, dUn, Res.bind, Res.of, dNot, dAnd, dOr, dIf, dChain, dB, ResI.toR, aNil, aCons, ResI.mapA, dCall, dTup, dLst, sNext, rel, List.mapIdx_cons, List.mapIdx_nil, List.map_cons, List.map_nil, List.cons_append, List.nil_append, List.append_nil, List.length_cons, List.length_nil, List.replicate_succ, List.replicate_zero, List.getElem?_cons_zero, List.getElem?_cons_succ, all_, these, List.set_cons_zero, List.set_cons_succ, Bool.not_true, Bool.not_false, Bool.and_false, Bool.and_true, Bool.false_and, Bool.true_and, Nat.reduceAdd, Nat.reduceSub, dComp, iSigns, Res.toI, signsD, iSeq, itemsD, dM, leD, gtD, ltD, isiD, List.contains_nil, Int.reduceLE, Int.reduceLT, decide_true, decide_false, Option.map_some, if_true, if_false, Nat.zero_le, sizeLine_eq, Nat.reduceLeDiff, eqD_int, b1, b2]; rfl, x, by cases x <;> rfl⟩
  clear w x
  rintro _ w ⟨x, rfl⟩
  by_cases b1 : 0 < w.dg
  · have g := fm (m := m) w.dg h
    obtain ⟨w1, e1⟩ := putDg_some (z := w.dg.fdiv m) (w := w) (fd h w.dg0)
    exact ⟨_, w1, by cases x <;> simp only [sPen, dPen, penI, dCell, intD, geD, gtD, plusD_i, subD_i, pow18, runD, startE, SR.res, sSeq, SR.seq, sIf, Res.en, sRet, sSet, sSetO, sSetF, dVar, dObs, dC, dBin, dUn, Res.bind, Res.of, dNot, dAnd, dOr, dIf, dChain, dB, ResI.toR, aNil, aCons, ResI.mapA, dCall, dTup, dLst, sNext, rel, List.mapIdx_cons, List.mapIdx_nil, List.map_cons, List.map_nil, List.cons_append, List.nil_append, List.append_nil, List.length_cons, List.length_nil, List.replicate_succ, List.replicate_zero, List.getElem?_cons_zero, List.getElem?_cons_succ, all_, these, List.set_cons_zero, List.set_cons_succ, Bool.not_true, Bool.not_false, Bool.and_false, Bool.and_true, Bool.false_and, Bool.true_and, Nat.reduceAdd, Nat.reduceSub, dComp, iSigns, Res.toI, signsD, iSeq, itemsD, dM, leD, gtD, ltD, isiD, List.contains_nil, Int.reduceLE, Int.reduceLT, decide_true, decide_false, Option.map_some, if_true, if_false, Nat.zero_le, sizeLine_eq, Nat.reduceLeDiff, b1, modD_s hm0, fdivD_s hm0 hz, e1], g⟩
  · refine seq_ret (fun r _ => ∃ x, r = [some (.pen, false), some (.int m, false), x, none, none]) ⟨_, w, by simp only [sPen, dPen, penI, dCell, intD, geD, gtD, plusD_i, subD_i, pow18, runD, startE, SR.res, sSeq, SR.seq, sIf, Res.en, sRet, sSet, sSetO, sSetF, dVar, dObs, dC, dBin, dUn, Res.bind, Res.of, dNot, dAnd, dOr, dIf, dChain, dB, ResI.toR, aNil, aCons, ResI.mapA, dCall, dTup, dLst, sNext, rel, List.mapIdx_cons, List.mapIdx_nil, List.map_cons, List.map_nil, List.cons_append, List.nil_append, List.append_nil, List.length_cons, List.length_nil, List.replicate_succ, List.replicate_zero, List.getElem?_cons_zero, List.getElem?_cons_succ, all_, these, List.set_cons_zero, List.set_cons_succ, Bool.not_true, Bool.not_false, Bool.and_false, Bool.and_true, Bool.false_and, Bool.true_and, Nat.reduceAdd, Nat.reduceSub, dComp, iSigns, Res.toI, signsD, iSeq, itemsD, dM, leD, gtD, ltD, isiD, List.contains_nil, Int.reduceLE, Int.reduceLT, decide_true, decide_false, Option.map_some, if_true, if_false, Nat.zero_le, sizeLine_eq, Nat.reduceLeDiff, b1]; rfl, x, by cases x <;> rfl⟩ ?_
    clear w x b1
    rintro _ w ⟨x, rfl⟩
    refine seq_ret (fun r _ => ∃ x z, r = [some (.pen, false), some (.int m, false), x, none, some (.int z, false)] ∧ 0 ≤ z ∧ z < 2 ^ 31) ?_ ?_
    · have g := fm (m := m2) (w.fo * a2 + w.ct * a3 + a4) c8
      exact ⟨_, w, by simp only [sPen, dPen, penI, dCell, intD, geD, gtD, plusD_i, subD_i, pow18, runD, startE, SR.res, sSeq, SR.seq, sIf, Res.en, sRet, sSet, sSetO, sSetF, dVar, dObs, dC, dBin, dUn, Res.bind, Res.of, dNot, dAnd, dOr, dIf, dChain, dB, ResI.toR, aNil, aCons, ResI.mapA, dCall, dTup, dLst, sNext, rel, List.mapIdx_cons, List.mapIdx_nil, List.map_cons, List.map_nil, List.cons_append, List.nil_append, List.append_nil, List.length_cons, List.length_nil, List.replicate_succ, List.replicate_zero, List.getElem?_cons_zero, List.getElem?_cons_succ, all_, these, List.set_cons_zero, List.set_cons_succ, Bool.not_true, Bool.not_false, Bool.and_false, Bool.and_true, Bool.false_and, Bool.true_and, Nat.reduceAdd, Nat.reduceSub, dComp, iSigns, Res.toI, signsD, iSeq, itemsD, dM, leD, gtD, ltD, isiD, List.contains_nil, Int.reduceLE, Int.reduceLT, decide_true, decide_false, Option.map_some, if_true, if_false, Nat.zero_le, sizeLine_eq, Nat.reduceLeDiff, timesD_s (.inr c2), timesD_s (.inr c3), modD_s (show m2 ≠ 0 by omega)]; rfl, x, _, by cases x <;> rfl, g.1, by omega⟩
    clear w x
    rintro _ w ⟨x, z, rfl, z0, z1⟩
    refine seq_ret (fun r _ => ∃ x z, r = [some (.pen, false), some (.int m, false), x, none, some (.int z, false)] ∧ 0 ≤ z ∧ z < 2 ^ 31) ?_ ?_
    · have g := fm (m := m3) (z * z + a5 * z + w.ct) c10
      exact ⟨_, w, by simp only [sPen, dPen, penI, dCell, intD, geD, gtD, plusD_i, subD_i, pow18, runD, startE, SR.res, sSeq, SR.seq, sIf, Res.en, sRet, sSet, sSetO, sSetF, dVar, dObs, dC, dBin, dUn, Res.bind, Res.of, dNot, dAnd, dOr, dIf, dChain, dB, ResI.toR, aNil, aCons, ResI.mapA, dCall, dTup, dLst, sNext, rel, List.mapIdx_cons, List.mapIdx_nil, List.map_cons, List.map_nil, List.cons_append, List.nil_append, List.append_nil, List.length_cons, List.length_nil, List.replicate_succ, List.replicate_zero, List.getElem?_cons_zero, List.getElem?_cons_succ, all_, these, List.set_cons_zero, List.set_cons_succ, Bool.not_true, Bool.not_false, Bool.and_false, Bool.and_true, Bool.false_and, Bool.true_and, Nat.reduceAdd, Nat.reduceSub, dComp, iSigns, Res.toI, signsD, iSeq, itemsD, dM, leD, gtD, ltD, isiD, List.contains_nil, Int.reduceLE, Int.reduceLT, decide_true, decide_false, Option.map_some, if_true, if_false, Nat.zero_le, sizeLine_eq, Nat.reduceLeDiff, timesD_s (.inl (show z.natAbs < 2 ^ 63 by omega)), timesD_s (.inl c4), modD_s (show m3 ≠ 0 by omega)]; rfl, x, _, by cases x <;> rfl, g.1, by omega⟩
    clear w x z0 z1 z
    rintro _ w ⟨x, z, rfl, z0, z1⟩
    have g := fm (m := m4) (z * a6 + a7) c12
    obtain ⟨w1, e1⟩ := putFo_some (z := (z * a6 + a7).fmod m4) (w := w) g.1 (by omega)
    have g2 := fm (m := m) (z.fdiv 64) h
    exact ⟨_, w1, by cases x <;> simp only [sPen, dPen, penI, dCell, intD, geD, gtD, plusD_i, subD_i, pow18, runD, startE, SR.res, sSeq, SR.seq, sIf, Res.en, sRet, sSet, sSetO, sSetF, dVar, dObs, dC, dBin, dUn, Res.bind, Res.of, dNot, dAnd, dOr, dIf, dChain, dB, ResI.toR, aNil, aCons, ResI.mapA, dCall, dTup, dLst, sNext, rel, List.mapIdx_cons, List.mapIdx_nil, List.map_cons, List.map_nil, List.cons_append, List.nil_append, List.append_nil, List.length_cons, List.length_nil, List.replicate_succ, List.replicate_zero, List.getElem?_cons_zero, List.getElem?_cons_succ, all_, these, List.set_cons_zero, List.set_cons_succ, Bool.not_true, Bool.not_false, Bool.and_false, Bool.and_true, Bool.false_and, Bool.true_and, Nat.reduceAdd, Nat.reduceSub, dComp, iSigns, Res.toI, signsD, iSeq, itemsD, dM, leD, gtD, ltD, isiD, List.contains_nil, Int.reduceLE, Int.reduceLT, decide_true, decide_false, Option.map_some, if_true, if_false, Nat.zero_le, sizeLine_eq, Nat.reduceLeDiff, timesD_s (.inr c5), modD_s (show m4 ≠ 0 by omega), e1, fdivD_s (show (64 : Int) ≠ 0 by decide) (by decide), modD_s hm0], g2⟩
theorem log2_s {m : Int} (h0 : 0 < m) (h : m < 2 ^ 60) : m.natAbs.log2 < 9000 := by
  have h2 : m.natAbs ≠ 0 := by omega
  exact Nat.lt_of_lt_of_le ((Nat.log2_lt h2).mpr (show m.natAbs < 2 ^ 60 by omega)) (by decide)
/-- a draw below m -/
def DrawOk (Fd : List D → Wd → Res) : Prop := ∀ (m : Int) (w : Wd), 0 < m → m.natAbs.log2 < 9000 → ∃ d w', Fd [.pen, .int m] w = .ok (.int d) w' ∧ 0 ≤ d ∧ d < m
def pickG (Fd : List D → Wd → Res) : SM := (sRet (dBin ixD (dObs 1) (dCall Fd (aCons (dVar 0) (aCons (dB lenD (aCons (dObs 1) aNil)) aNil)))))
theorem atI_mem {α : Type} {l : List α} {i : Int} (h0 : 0 ≤ i) (h1 : i < l.length) : ∃ x, L2.atI l i = some x ∧ x ∈ l := by
  have h2 : i.toNat < l.length := by omega
  refine ⟨l[i.toNat], ?_, List.getElem_mem h2⟩
  unfold L2.atI ixN
  rw [if_pos h0, if_pos h1]
  show l[i.toNat]? = _
  rw [List.getElem?_eq_getElem h2]
theorem pick_l {Fd : List D → Wd → Res} (hd : DrawOk Fd) {l : List D} (w : Wd) (h : l ≠ []) (hz : l.length < 2 ^ 60) : ∃ x w', runD 2 (pickG Fd) [.pen, .lst l] w = .ok x w' ∧ x ∈ l := by
  have hl : 0 < l.length := List.length_pos_iff.mpr h
  obtain ⟨d, w', e, d0, d1⟩ := hd (l.length : Int) w (by omega) (log2_s (by omega) (by omega))
  obtain ⟨x, ex, hx⟩ := atI_mem (l := l) d0 d1
  refine ⟨x, w', ?_, hx⟩
  unfold pickG
  simp only [runD, startE, SR.res, sSeq, SR.seq, sIf, Res.en, sRet, sSet, sSetO, sSetF, dVar, dObs, dC, dBin, dUn, Res.bind, Res.of, dNot, dAnd, dOr, dIf, dChain, dB, ResI.toR, aNil, aCons, ResI.mapA, dCall, dTup, dLst, sNext, rel, List.mapIdx_cons, List.mapIdx_nil, List.map_cons, List.map_nil, List.cons_append, List.nil_append, List.append_nil, List.length_cons, List.length_nil, List.replicate_succ, List.replicate_zero, List.getElem?_cons_zero, List.getElem?_cons_succ, all_, these, List.set_cons_zero, List.set_cons_succ, Bool.not_true, Bool.not_false, Bool.and_false, Bool.and_true, Bool.false_and, Bool.true_and, Nat.reduceAdd, Nat.reduceSub, dComp, iSigns, Res.toI, signsD, iSeq, itemsD, dM, leD, gtD, ltD, isiD, List.contains_nil, Int.reduceLE, Int.reduceLT, decide_true, decide_false, Option.map_some, if_true, if_false, Nat.zero_le, sizeLine_eq, Nat.reduceLeDiff, lenD, e, ixD, ex]
theorem pick_s {Fd : List D → Wd → Res} (hd : DrawOk Fd) {s : Str} (w : Wd) (h : s.cps.toList ≠ []) (hz : s.length ≤ 16777216) : ∃ c w', runD 2 (pickG Fd) [.pen, .str s] w = .ok (.str ⟨#[c]⟩) w' ∧ c ∈ s.cps.toList := by
  have hl : 0 < s.cps.toList.length := List.length_pos_iff.mpr h
  have e0 : s.length = s.cps.toList.length := TL.len_tl s
  obtain ⟨d, w', e, d0, d1⟩ := hd (s.length : Int) w (by omega) (log2_s (by omega) (by omega))
  obtain ⟨c, ex, hx⟩ := atI_mem (l := s.cps.toList) d0 (by omega)
  refine ⟨c, w', ?_, hx⟩
  have e1 : lenD [.str s] = some (.int s.length) := if_pos hz
  have e2 : ixD (.str s) (.int d) = some (.str ⟨#[c]⟩) := by
    show (if s.length ≤ sizeLine then (L2.atI s.cps.toList d).map fun c => D.str ⟨#[c]⟩ else none) = _
    rw [if_pos (show s.length ≤ sizeLine from hz), ex]; rfl
  unfold pickG
  simp only [runD, startE, SR.res, sSeq, SR.seq, sIf, Res.en, sRet, sSet, sSetO, sSetF, dVar, dObs, dC, dBin, dUn, Res.bind, Res.of, dNot, dAnd, dOr, dIf, dChain, dB, ResI.toR, aNil, aCons, ResI.mapA, dCall, dTup, dLst, sNext, rel, List.mapIdx_cons, List.mapIdx_nil, List.map_cons, List.map_nil, List.cons_append, List.nil_append, List.append_nil, List.length_cons, List.length_nil, List.replicate_succ, List.replicate_zero, List.getElem?_cons_zero, List.getElem?_cons_succ, all_, these, List.set_cons_zero, List.set_cons_succ, Bool.not_true, Bool.not_false, Bool.and_false, Bool.and_true, Bool.false_and, Bool.true_and, Nat.reduceAdd, Nat.reduceSub, dComp, iSigns, Res.toI, signsD, iSeq, itemsD, dM, leD, gtD, ltD, isiD, List.contains_nil, Int.reduceLE, Int.reduceLT, decide_true, decide_false, Option.map_some, if_true, if_false, Nat.zero_le, sizeLine_eq, Nat.reduceLeDiff, e1, e, e2]
end DL

set_option Elab.async false
set_option linter.all false
set_option maxRecDepth 100000
set_option maxHeartbeats 2000000
namespace DL
open PySem PySem.SeqAt PySem.Spec PyProof.Rows L2

/-! ### what a data function comes to, whatever is drawn -/
def ROk (x : Res) (Q : D → Prop) : Prop := ∃ d w', x = .ok d w' ∧ Q d
def EOk (f : EM) (r : Env) (Q : D → Prop) : Prop := ∀ w, ∃ d w', f r w = .ok d w' ∧ Q d
def IOk (f : IM) (r : Env) (Q : List D → Prop) : Prop := ∀ w, ∃ l w', f r w = .ok l w' ∧ Q l
def FOk (F : List D → Wd → Res) (ds : List D) (Q : D → Prop) : Prop := ∀ w, ∃ d w', F ds w = .ok d w' ∧ Q d
def SOk (f : SM) (r : Env) (N : Env → Prop) (T : D → Prop) : Prop := ∀ w, (∃ r' w', f r w = .nx r' w' ∧ N r') ∨ ∃ d w', f r w = .rt d w' ∧ T d
section
variable {f fa fb fc fe ft fl fh fk : EM} {fi fs : IM} {r : Env} {Q : D → Prop} {QI : List D → Prop} {N : Env → Prop} {T : D → Prop} {g g1 g2 : SM} {F : List D → Wd → Res} {caps vs : List Nat} {gm : GM} {gs : GMs} {i j n : Nat}
theorem EOk.mono {Q' : D → Prop} (h : EOk f r Q) (k : ∀ d, Q d → Q' d) : EOk f r Q' := fun w => let ⟨d, w', e, q⟩ := h w; ⟨d, w', e, k d q⟩
theorem IOk.mono {QI' : List D → Prop} (h : IOk fi r QI) (k : ∀ l, QI l → QI' l) : IOk fi r QI' := fun w => let ⟨l, w', e, q⟩ := h w; ⟨l, w', e, k l q⟩
theorem FOk.mono {ds : List D} {Q' : D → Prop} (h : FOk F ds Q) (k : ∀ d, Q d → Q' d) : FOk F ds Q' := fun w => let ⟨d, w', e, q⟩ := h w; ⟨d, w', e, k d q⟩
theorem SOk.mono {N' : Env → Prop} {T' : D → Prop} (h : SOk g r N T) (k : ∀ r, N r → N' r) (k2 : ∀ d, T d → T' d) : SOk g r N' T' := fun w => (h w).elim (fun ⟨r', w', e, q⟩ => .inl ⟨r', w', e, k r' q⟩) fun ⟨d, w', e, q⟩ => .inr ⟨d, w', e, k2 d q⟩
theorem eok_c {d : D} (q : Q d) : EOk (dC d) r Q := fun w => ⟨d, w, rfl, q⟩
theorem eok_var {d : D} (e : r[i]? = some (some (d, false))) (q : Q d) : EOk (dVar i) r Q := fun w => ⟨d, w, by unfold dVar; rw [e], q⟩
theorem eok_obs {d : D} {o : Bool} (e : r[i]? = some (some (d, o))) (q : Q d) : EOk (dObs i) r Q := fun w => ⟨d, w, by unfold dObs; rw [e], q⟩
theorem eok_varX (h : ∃ d, r[i]? = some (some (d, false)) ∧ Q d) : EOk (dVar i) r Q := let ⟨_, e, q⟩ := h; eok_var e q
theorem eok_obsX (h : ∃ d o, r[i]? = some (some (d, o)) ∧ Q d) : EOk (dObs i) r Q := let ⟨_, _, e, q⟩ := h; eok_obs e q
theorem bind_ok {x : Res} {k : D → Wd → Res} {d : D} {w : Wd} (e : x = .ok d w) : x.bind k = k d w := by rw [e]; rfl
theorem eok_bin {o : D → D → Option D} (h : EOk fa r fun x => EOk fb r fun y => ∃ d, o x y = some d ∧ Q d) : EOk (dBin o fa fb) r Q := fun w => by
  obtain ⟨x, w1, e1, h⟩ := h w
  obtain ⟨y, w2, e2, d, e3, q⟩ := h w1
  exact ⟨d, w2, by unfold dBin; rw [bind_ok e1, bind_ok e2, e3]; rfl, q⟩
theorem eok_un {o : D → Option D} (h : EOk fa r fun x => ∃ d, o x = some d ∧ Q d) : EOk (dUn o fa) r Q := fun w => by
  obtain ⟨x, w1, e1, d, e3, q⟩ := h w
  exact ⟨d, w1, by unfold dUn; rw [bind_ok e1, e3]; rfl, q⟩
theorem eok_not (h : EOk fa r fun x => ∃ b, x = .bl b ∧ Q (.bl !b)) : EOk (dNot fa) r Q := fun w => by
  obtain ⟨x, w1, e1, b, rfl, q⟩ := h w
  exact ⟨_, w1, by unfold dNot; rw [bind_ok e1], q⟩
theorem eok_and (h : EOk fa r fun x => ∃ b, x = .bl b ∧ (b = true → EOk fb r Q) ∧ (b = false → Q (.bl false))) : EOk (dAnd fa fb) r Q := fun w => by
  obtain ⟨x, w1, e1, b, rfl, q1, q2⟩ := h w
  cases b with
  | true =>
    obtain ⟨d, w2, e2, q⟩ := q1 rfl w1
    exact ⟨d, w2, by unfold dAnd; rw [bind_ok e1]; exact e2, q⟩
  | false => exact ⟨_, w1, by unfold dAnd; rw [bind_ok e1], q2 rfl⟩
theorem eok_or (h : EOk fa r fun x => ∃ b, x = .bl b ∧ (b = true → Q (.bl true)) ∧ (b = false → EOk fb r Q)) : EOk (dOr fa fb) r Q := fun w => by
  obtain ⟨x, w1, e1, b, rfl, q1, q2⟩ := h w
  cases b with
  | false =>
    obtain ⟨d, w2, e2, q⟩ := q2 rfl w1
    exact ⟨d, w2, by unfold dOr; rw [bind_ok e1]; exact e2, q⟩
  | true => exact ⟨_, w1, by unfold dOr; rw [bind_ok e1], q1 rfl⟩
theorem eok_if (h : EOk fc r fun x => ∃ b, x = .bl b ∧ (b = true → EOk fa r Q) ∧ (b = false → EOk fb r Q)) : EOk (dIf fc fa fb) r Q := fun w => by
  obtain ⟨x, w1, e1, b, rfl, q1, q2⟩ := h w
  cases b with
  | true =>
    obtain ⟨d, w2, e2, q⟩ := q1 rfl w1
    exact ⟨d, w2, by unfold dIf; rw [bind_ok e1]; exact e2, q⟩
  | false =>
    obtain ⟨d, w2, e2, q⟩ := q2 rfl w1
    exact ⟨d, w2, by unfold dIf; rw [bind_ok e1]; exact e2, q⟩
theorem eok_chain {o o2 : D → D → Option D} (h : EOk fa r fun x => EOk fb r fun y => ∃ b, o x y = some (.bl b) ∧ (b = true → EOk fc r fun z => ∃ d, o2 y z = some d ∧ Q d) ∧ (b = false → Q (.bl false))) : EOk (dChain o o2 fa fb fc) r Q := fun w => by
  obtain ⟨x, w1, e1, h⟩ := h w
  obtain ⟨y, w2, e2, b, e3, q1, q2⟩ := h w1
  cases b with
  | true =>
    obtain ⟨z, w3, e4, d, e5, q⟩ := q1 rfl w2
    exact ⟨d, w3, by unfold dChain; rw [bind_ok e1, bind_ok e2, e3]; show Res.bind _ _ = _; rw [bind_ok e4, e5]; rfl, q⟩
  | false => exact ⟨_, w2, by unfold dChain; rw [bind_ok e1, bind_ok e2, e3], q2 rfl⟩
theorem iok_nil (q : QI []) : IOk aNil r QI := fun w => ⟨[], w, rfl, q⟩
theorem iok_cons (h : EOk fe r fun d => IOk fs r fun l => QI (d :: l)) : IOk (aCons fe fs) r QI := fun w => by
  obtain ⟨d, w1, e1, h⟩ := h w
  obtain ⟨l, w2, e2, q⟩ := h w1
  exact ⟨_, w2, by unfold aCons; rw [e1]; simp only; rw [e2]; rfl, q⟩
theorem toR_ok {x : ResI} {k : List D → Wd → Res} {l : List D} {w : Wd} (e : x = .ok l w) : x.toR k = k l w := by rw [e]; rfl
theorem eok_tup (h : IOk fs r fun l => l.length ≤ 16777216 ∧ Q (.tup l)) : EOk (dTup fs) r Q := fun w => by
  obtain ⟨l, w1, e1, hl, q⟩ := h w
  exact ⟨_, w1, by unfold dTup; rw [toR_ok e1]; exact if_pos hl, q⟩
theorem eok_lst (h : IOk fs r fun l => l.length ≤ 16777216 ∧ Q (.lst l)) : EOk (dLst fs) r Q := fun w => by
  obtain ⟨l, w1, e1, hl, q⟩ := h w
  exact ⟨_, w1, by unfold dLst; rw [toR_ok e1]; exact if_pos hl, q⟩
theorem eok_call (h : IOk fs r fun l => FOk F l Q) : EOk (dCall F fs) r Q := fun w => by
  obtain ⟨l, w1, e1, h⟩ := h w
  obtain ⟨d, w2, e2, q⟩ := h w1
  exact ⟨d, w2, by unfold dCall; rw [toR_ok e1]; exact e2, q⟩
theorem eok_B {o : List D → Option D} (h : IOk fs r fun l => ∃ d, o l = some d ∧ Q d) : EOk (dB o fs) r Q := fun w => by
  obtain ⟨l, w1, e1, d, e2, q⟩ := h w
  exact ⟨d, w1, by unfold dB; rw [toR_ok e1, e2]; rfl, q⟩
theorem eok_isi {ts : List String} (h : EOk fa r fun d => ∃ b, (d.ty?.bind (isiB ts)).map D.bl = some (.bl b) ∧ Q (.bl b)) : EOk (isiD ts fa) r Q := fun w => by
  obtain ⟨d, w1, e1, b, e2, q⟩ := h w
  exact ⟨_, w1, by unfold isiD; rw [bind_ok e1, e2]; rfl, q⟩
theorem eok_int (h : EOk fa r fun d => ∃ i, d = .int i ∧ Q (.int i)) : EOk (dIntOnly fa) r Q := fun w => by
  obtain ⟨d, w1, e1, i, rfl, q⟩ := h w
  exact ⟨_, w1, by unfold dIntOnly; rw [bind_ok e1], q⟩
theorem eok_sl {o : D → Option Int → Option Int → Option D} (h : EOk fe r fun d => EOk fl r fun lo => EOk fh r fun hi => ∃ x, o d lo.opt hi.opt = some x ∧ Q x) : EOk (dSl o fe fl fh) r Q := fun w => by
  obtain ⟨d, w1, e1, h⟩ := h w
  obtain ⟨lo, w2, e2, h⟩ := h w1
  obtain ⟨hi, w3, e3, x, e4, q⟩ := h w2
  exact ⟨x, w3, by unfold dSl; rw [bind_ok e1, bind_ok e2, bind_ok e3, e4]; rfl, q⟩
theorem eok_lrg (h : EOk fa r fun x => ∃ n : Int, x = .int n ∧ (-(2 ^ 62) ≤ n ∧ n ≤ 2 ^ 24) ∧ Q (.lst (rgD n))) : EOk (dLRg fa) r Q := fun w => by
  obtain ⟨x, w1, e1, n, rfl, hn, q⟩ := h w
  exact ⟨_, w1, by unfold dLRg; rw [bind_ok e1]; exact if_pos hn, q⟩
theorem eok_why {Fw : (Wd → Res) → Wd → Res} (h : ∀ w, ∃ d w', Fw (fe (plainE r)) w = .ok d w' ∧ Q d) : EOk (dWhy Fw fe) r Q := fun w => by
  obtain ⟨d, w', e, q⟩ := h w
  exact ⟨d, w', by unfold dWhy; rw [e], q⟩
theorem eok_err {n : Str} {fl : List Str} (h : IOk fs r fun ds => ds.length = fl.length ∧ Q (.err n (fl.zip ds).reverse)) : EOk (dErr n fl fs) r Q := fun w => by
  obtain ⟨l, w1, e1, hl, q⟩ := h w
  exact ⟨_, w1, by unfold dErr; rw [toR_ok e1]; exact if_pos hl, q⟩
theorem eok_fldE {n f : Str} (h : EOk fe r fun d => ∃ fs x, d = .err n fs ∧ fs.lookup f = some x ∧ Q x) : EOk (dFldE n f fe) r Q := fun w => by
  obtain ⟨d, w1, e1, fs, x, rfl, e2, q⟩ := h w
  exact ⟨_, w1, by unfold dFldE; rw [bind_ok e1]; simp only; rw [if_pos trivial, e2]; rfl, q⟩
theorem eok_isiE {tb : Str → Option Bool} (h : EOk fe r fun d => ∃ m fs b, d = .err m fs ∧ tb m = some b ∧ Q (.bl b)) : EOk (isiE tb fe) r Q := fun w => by
  obtain ⟨d, w1, e1, m, fs, b, rfl, e2, q⟩ := h w
  exact ⟨_, w1, by unfold isiE; rw [bind_ok e1]; simp only; rw [e2]; rfl, q⟩
/-! iterables -/
theorem iok_seq (h : EOk fe r fun d => ∃ l, itemsD d = some l ∧ QI l) : IOk (iSeq fe) r QI := fun w => by
  obtain ⟨d, w1, e1, l, e2, q⟩ := h w
  exact ⟨l, w1, by unfold iSeq Res.toI; rw [e1]; simp only; rw [e2], q⟩
theorem iok_zip (h : IOk fs r fun l => ∃ a b l1 l2, l = [a, b] ∧ itemsD a = some l1 ∧ itemsD b = some l2 ∧ QI (pairs l1 l2)) : IOk (iZip fs) r QI := fun w => by
  obtain ⟨_, w1, e1, a, b, l1, l2, rfl, e2, e3, q⟩ := h w
  exact ⟨_, w1, by unfold iZip; rw [e1]; simp only; rw [e2, e3], q⟩
theorem iok_enum (h : IOk fs r fun l => ∃ a l1, l = [a] ∧ itemsD a = some l1 ∧ QI (enumL 0 l1)) : IOk (iEnum fs) r QI := fun w => by
  obtain ⟨_, w1, e1, a, l1, rfl, e2, q⟩ := h w
  exact ⟨_, w1, by unfold iEnum; rw [e1]; simp only; rw [e2], q⟩
theorem iok_range1 (h : IOk fs r fun l => ∃ j : Int, l = [.int j] ∧ (-(2 ^ 62) ≤ j ∧ j < 2 ^ 62) ∧ QI (rangeL 0 j.toNat)) : IOk (iRange1 fs) r QI := fun w => by
  obtain ⟨_, w1, e1, j, rfl, hj, q⟩ := h w
  exact ⟨_, w1, by unfold iRange1; rw [e1]; exact if_pos hj, q⟩
/-! comprehensions -/
theorem lcl_ok {h : D → D → Prop} {p : D → Bool} : ∀ {l acc : List D} {w : Wd}, (∀ d ∈ l, ∃ r1, gm d (wipeE vs r) = some r1 ∧ EOk ft r1 (· = .bl (p d)) ∧ (p d = true → EOk fe r1 (h d))) → acc.length + l.length ≤ sizeLine →
    ∃ ys w', lcL vs gm ft fe r l w acc = .ok (.lst (acc ++ ys)) w' ∧ Paired h (l.filter p) ys
  | [], acc, w, _, _ => ⟨[], w, by unfold lcL; simp, .nil⟩
  | d :: l, acc, w, h1, hz => by
    have hz' : acc.length + (l.length + 1) ≤ sizeLine := by simpa using hz
    obtain ⟨r1, e0, h2, h3⟩ := h1 d List.mem_cons_self
    obtain ⟨_, w1, e1, rfl⟩ := h2 w
    unfold lcL
    rw [e0]
    simp only
    rw [e1]
    cases ep : p d with
    | true =>
      obtain ⟨y, w2, e2, q2⟩ := h3 ep w1
      obtain ⟨ys, w3, e3, q3⟩ := lcl_ok (h := h) (p := p) (l := l) (acc := acc ++ [y]) (w := w2) (fun x hx => h1 x (List.mem_cons_of_mem _ hx)) (by rw [List.length_append, List.length_singleton]; omega)
      refine ⟨y :: ys, w3, ?_, by rw [List.filter_cons_of_pos ep]; exact .cons q2 q3⟩
      simp only
      rw [e2]
      simp only
      rw [if_pos (by omega), e3, List.append_assoc]; rfl
    | false =>
      obtain ⟨ys, w3, e3, q3⟩ := lcl_ok (h := h) (p := p) (l := l) (acc := acc) (w := w1) (fun x hx => h1 x (List.mem_cons_of_mem _ hx)) (by omega)
      exact ⟨ys, w3, e3, by rw [List.filter_cons_of_neg (by rw [ep]; decide)]; exact q3⟩
theorem eok_compG (h : D → D → Prop) (p : D → Bool) (hi : IOk fi r fun l => l.length ≤ 16777216 ∧ (∀ d ∈ l, ∃ r1, gm d (wipeE vs r) = some r1 ∧ EOk ft r1 (· = .bl (p d)) ∧ (p d = true → EOk fe r1 (h d))) ∧ ∀ ys, Paired h (l.filter p) ys → Q (.lst ys)) : EOk (dComp vs fi gm ft fe) r Q := fun w => by
  obtain ⟨l, w1, e1, hl, h1, q⟩ := hi w
  obtain ⟨ys, w2, e2, pr⟩ := lcl_ok (h := h) (p := p) (l := l) (acc := []) (w := w1) h1 (by rw [List.length_nil, sizeLine_eq]; omega)
  exact ⟨_, w2, by unfold dComp; rw [toR_ok e1, e2]; rfl, q _ pr⟩
theorem paired_map {h : D → D} : ∀ {l ys : List D}, Paired (fun d y => y = h d) l ys → ys = l.map h
  | [], _, .nil => rfl
  | d :: l, _, .cons e r => by rw [e, paired_map r]; rfl
/-- [h d for d in ..] -/
theorem eok_map (h : D → D) (hi : IOk fi r fun l => l.length ≤ 16777216 ∧ (∀ d ∈ l, ∃ r1, gm d (wipeE vs r) = some r1 ∧ EOk fe r1 (· = h d)) ∧ Q (.lst (l.map h))) : EOk (dComp vs fi gm dYes fe) r Q :=
  eok_compG (fun d y => y = h d) (fun _ => true) fun w => by
    obtain ⟨l, w1, e1, hl, h1, q⟩ := hi w
    exact ⟨l, w1, e1, hl, fun d hd => let ⟨r1, a, b⟩ := h1 d hd; ⟨r1, a, fun w => ⟨_, w, rfl, rfl⟩, fun _ => b⟩, fun ys pr => by rw [List.filter_eq_self.mpr (fun _ _ => rfl)] at pr; rw [paired_map pr]; exact q⟩
/-- [d for d in .. if p d] -/
theorem eok_filter (p : D → Bool) (hi : IOk fi r fun l => l.length ≤ 16777216 ∧ (∀ d ∈ l, ∃ r1, gm d (wipeE vs r) = some r1 ∧ EOk ft r1 (· = .bl (p d)) ∧ (p d = true → EOk fe r1 (· = d))) ∧ Q (.lst (l.filter p))) : EOk (dComp vs fi gm ft fe) r Q :=
  eok_compG (fun d y => y = d) p fun w => by
    obtain ⟨l, w1, e1, hl, h1, q⟩ := hi w
    exact ⟨l, w1, e1, hl, h1, fun ys pr => by rw [paired_map (h := fun d => d) pr, List.map_id']; exact q⟩
/-- elements that are drawn -/
theorem eok_draws (P : D → Prop) (hi : IOk fi r fun l => l.length ≤ 16777216 ∧ (∀ d ∈ l, ∃ r1, gm d (wipeE vs r) = some r1 ∧ EOk fe r1 P) ∧ ∀ ys, ys.length = l.length → (∀ y ∈ ys, P y) → Q (.lst ys)) : EOk (dComp vs fi gm dYes fe) r Q :=
  eok_compG (fun _ => P) (fun _ => true) fun w => by
    obtain ⟨l, w1, e1, hl, h1, q⟩ := hi w
    exact ⟨l, w1, e1, hl, fun d hd => let ⟨r1, a, b⟩ := h1 d hd; ⟨r1, a, fun w => ⟨_, w, rfl, rfl⟩, fun _ => b⟩, fun ys pr => by
      rw [List.filter_eq_self.mpr (fun _ _ => rfl)] at pr
      exact q ys (paired_len pr).symm fun y hy => by obtain ⟨_, _, z⟩ := paired_mem pr y hy; exact z⟩
/-! statements -/
def relS (b : Bool) : Slot → Slot
  | some (d, o) => some (d, o && !b)
  | none => none
/-- rel, told slot by slot -/
def relF (S : Nat → Bool) : Nat → Env → Env
  | _, [] => []
  | i, x :: r => relS (S i) x :: relF S (i + 1) r
theorem relF_at (S : Nat → Bool) : ∀ (r : Env) (i j : Nat), (relF S i r)[j]? = r[j]?.map (relS (S (i + j)))
  | [], _, _ => by simp [relF]
  | x :: r, i, 0 => by simp [relF]
  | x :: r, i, j + 1 => by
    rw [relF, List.getElem?_cons_succ, List.getElem?_cons_succ, relF_at S r (i + 1) j, show i + 1 + j = i + (j + 1) by omega]
theorem rel_F (S : Nat → Bool) (r : Env) : rel S r = relF S 0 r := by
  apply List.ext_getElem?
  intro j
  rw [relF_at]
  unfold rel
  rw [List.getElem?_mapIdx, Nat.zero_add]
  cases r[j]? with
  | none => rfl
  | some x => cases x with
    | none => rfl
    | some y => obtain ⟨d, o⟩ := y; rfl
theorem en_ok {x : Res} {k : D → Wd → SR} {d : D} {w : Wd} (e : x = .ok d w) : x.en r k = k d w := by rw [e]; rfl
theorem sok_next (q : N r) : SOk sNext r N T := fun w => .inl ⟨r, w, rfl, q⟩
theorem sok_seq (h : SOk g1 r (fun r1 => SOk g2 r1 N T) T) : SOk (sSeq g1 g2) r N T := fun w => by
  rcases h w with ⟨r1, w1, e1, h⟩ | ⟨d, w1, e1, q⟩
  · rcases h w1 with ⟨r2, w2, e2, q⟩ | ⟨d, w2, e2, q⟩
    · exact .inl ⟨r2, w2, by unfold sSeq; rw [e1]; exact e2, q⟩
    · exact .inr ⟨d, w2, by unfold sSeq; rw [e1]; exact e2, q⟩
  · exact .inr ⟨d, w1, by unfold sSeq; rw [e1]; rfl, q⟩
theorem sok_eq {r1 : Env} (h : ∀ w, g1 r w = .nx r1 w) (q : N r1) : SOk g1 r N T := fun w => .inl ⟨r1, w, h w, q⟩
theorem sok_alias {c : Int} {its : D → List D} {l : List D} (e : ownL i r = some l) (hl : l.length < 16777216) (q : N ((relF (these [i]) 0 (r.set i (some (.lst (l ++ [.int c]), true)))).set j (some (.lst (its (.lst (l ++ [.int c]))), false)))) : SOk (sAlias i j c its) r N T := fun w => by
  refine .inl ⟨_, w, ?_, q⟩
  unfold sAlias
  rw [e]
  simp only
  rw [rel_F]
  exact if_pos hl
theorem sok_cut (M : Env → Prop) (h : SOk g1 r M T) (k : ∀ r1, M r1 → SOk g2 r1 N T) : SOk (sSeq g1 g2) r N T := sok_seq (h.mono k fun _ q => q)
theorem sok_set (h : EOk fe (relF (these caps) 0 r) fun d => N ((relF (these caps) 0 r).set i (some (d, false)))) : SOk (sSet i caps fe) r N T := by
  simp only [← rel_F] at *
  intro w
  obtain ⟨d, w1, e1, q⟩ := h w
  exact .inl ⟨_, w1, by unfold sSet; rw [en_ok e1], q⟩
theorem sok_setO (h : EOk fe (relF (these caps) 0 r) fun d => N ((relF (these caps) 0 r).set i (some (d, true)))) : SOk (sSetO i caps fe) r N T := by
  simp only [← rel_F] at *
  intro w
  obtain ⟨d, w1, e1, q⟩ := h w
  exact .inl ⟨_, w1, by unfold sSetO; rw [en_ok e1], q⟩
theorem sok_par {o1 o2 : Bool} (h : EOk fa (relF (these caps) 0 r) fun d1 => EOk fb (relF (these caps) 0 r) fun d2 => N (((relF (these caps) 0 r).set i (some (d1, o1))).set j (some (d2, o2)))) : SOk (sPar i j caps o1 o2 fa fb) r N T := by
  simp only [← rel_F] at *
  intro w
  obtain ⟨d, w1, e1, h⟩ := h w
  obtain ⟨d2, w2, e2, q⟩ := h w1
  exact .inl ⟨_, w2, by unfold sPar; rw [en_ok e1, en_ok e2], q⟩
theorem sok_to (h : EOk fe (relF (these caps) 0 r) fun d => ∃ r', gm d (relF (these caps) 0 r) = some r' ∧ N r') : SOk (sTo caps gm fe) r N T := by
  simp only [← rel_F] at *
  intro w
  obtain ⟨d, w1, e1, r', e2, q⟩ := h w
  exact .inl ⟨_, w1, by unfold sTo; rw [en_ok e1, e2], q⟩
theorem sok_drop (h : EOk fe (relF all_ 0 r) fun _ => N r) : SOk (sDrop fe) r N T := by
  simp only [← rel_F] at *
  intro w
  obtain ⟨d, w1, e1, q⟩ := h w
  exact .inl ⟨_, w1, by unfold sDrop; rw [en_ok e1], q⟩
theorem sok_ret (h : EOk fe (relF all_ 0 r) T) : SOk (sRet fe) r N T := by
  simp only [← rel_F] at *
  intro w
  obtain ⟨d, w1, e1, q⟩ := h w
  exact .inr ⟨_, w1, by unfold sRet; rw [en_ok e1], q⟩
theorem sok_if (h : EOk fc (relF all_ 0 r) fun x => ∃ b, x = .bl b ∧ (b = true → SOk g1 r N T) ∧ (b = false → SOk g2 r N T)) : SOk (sIf fc g1 g2) r N T := by
  simp only [← rel_F] at *
  intro w
  obtain ⟨x, w1, e1, b, rfl, q1, q2⟩ := h w
  have e : sIf fc g1 g2 r w = (match b with
    | true => g1 r w1
    | false => g2 r w1) := by unfold sIf; rw [en_ok e1]; cases b <;> rfl
  rw [e]
  cases b with
  | true => exact q1 rfl w1
  | false => exact q2 rfl w1
theorem sok_app {l : List D} (e : ownL i (relF (these caps) 0 r) = some l) (hl : l.length < 16777216) (h : EOk fe (relF (these caps) 0 r) fun d => N ((relF (these caps) 0 r).set i (some (.lst (l ++ [d]), true)))) : SOk (sApp i caps fe) r N T := by
  simp only [← rel_F] at *
  intro w
  obtain ⟨d, w1, e1, q⟩ := h w
  exact .inl ⟨_, w1, by unfold sApp; rw [e]; simp only; rw [en_ok e1]; exact if_pos hl, q⟩
theorem sok_sto {l : List D} (e : ownL i (relF (these caps) 0 r) = some l) (h : EOk fe (relF (these caps) 0 r) fun d => EOk fk (relF (these caps) 0 r) fun k => ∃ (z : Int) (m : Nat), k = .int z ∧ ixN l.length z = some m ∧ N ((relF (these caps) 0 r).set i (some (.lst (l.set m d), true)))) : SOk (sSto i caps fk fe) r N T := by
  simp only [← rel_F] at *
  intro w
  obtain ⟨d, w1, e1, h⟩ := h w
  obtain ⟨k, w2, e2, z, m, rfl, e3, q⟩ := h w1
  exact .inl ⟨_, w2, by unfold sSto; rw [e]; simp only; rw [en_ok e1, en_ok e2]; simp only; rw [e3], q⟩
theorem sok_dropPop {l : List D} (e : ownL i r = some l) (h : EOk fk r fun k => ∃ (z : Int) (d : D) (l' : List D), k = .int z ∧ popL l z = some (d, l') ∧ N (r.set i (some (.lst l', true)))) : SOk (sDropX (xPop i fk)) r N T := fun w => by
  obtain ⟨k, w1, e1, z, d, l', rfl, e2, q⟩ := h w
  exact .inl ⟨_, w1, by unfold sDropX xPop; rw [e]; simp only; rw [e1]; simp only; rw [e2]; rfl, q⟩
theorem sok_appPop {m : Nat} {l l2 : List D} (e : ownL i r = some l) (e0 : ownL m r = some l2) (hl : l2.length < 16777216) (hm : m ≠ i) (h : EOk fk r fun k => ∃ (z : Int) (d : D) (l' : List D), k = .int z ∧ popL l z = some (d, l') ∧ N ((r.set i (some (.lst l', true))).set m (some (.lst (l2 ++ [d]), true)))) : SOk (sAppX m (xPop i fk)) r N T := fun w => by
  obtain ⟨k, w1, e1, z, d, l', rfl, e2, q⟩ := h w
  have e3 : ownL m (r.set i (some (.lst l', true))) = some l2 := by
    unfold ownL at e0 ⊢
    rw [List.getElem?_set_ne (Ne.symm hm)]
    exact e0
  exact .inl ⟨_, w1, by
    unfold sAppX xPop
    rw [e]
    simp only
    rw [e1]
    simp only
    rw [e2]
    show (match ownL m r, ownL m (r.set i (some (.lst l', true))) with
      | some _, some l => if l.length < sizeLine then SR.nx ((r.set i (some (.lst l', true))).set m (some (.lst (l ++ [d]), true))) w1 else .bad
      | _, _ => .bad) = _
    rw [e0, e3]
    exact if_pos hl, q⟩
theorem forl_ok {I : Nat → Env → Prop} : ∀ {l : List D} {i : Nat} {r : Env}, I i r → (∀ (j : Nat) (d : D) (r : Env), l[j]? = some d → I (i + j) r → ∃ r1, gm d r = some r1 ∧ SOk g r1 (I (i + j + 1)) T) → SOk (forL gm g l) r (I (i + l.length)) T
  | [], i, r, h, _, w => .inl ⟨r, w, rfl, h⟩
  | d :: l, i, r, h, hs, w => by
    obtain ⟨r1, e1, s⟩ := hs 0 d r rfl h
    unfold forL
    rw [e1]
    simp only
    rcases s w with ⟨r2, w2, e2, q⟩ | ⟨d2, w2, e2, q⟩
    · rw [e2]
      have := forl_ok (I := I) (l := l) (i := i + 1) (r := r2) q (fun j d' r' e h' => by
        have := hs (j + 1) d' r' (by simpa using e) (by rw [show i + (j + 1) = i + 1 + j by omega]; exact h')
        rw [show i + (j + 1) + 1 = i + 1 + j + 1 by omega] at this
        exact this) w2
      rw [List.length_cons, show i + (l.length + 1) = i + 1 + l.length by omega]
      exact this
    · rw [e2]
      exact .inr ⟨d2, w2, rfl, q⟩
theorem sok_for (I : Nat → Env → Prop) (h : IOk fi (relF (these caps) 0 r) fun l => I 0 (relF (these caps) 0 r) ∧ (∀ (j : Nat) (d : D) (r : Env), l[j]? = some d → I j r → ∃ r1, gm d r = some r1 ∧ SOk g r1 (I (j + 1)) T) ∧ ∀ r, I l.length r → N r) : SOk (sFor caps fi gm g) r N T := by
  simp only [← rel_F] at *
  intro w
  obtain ⟨l, w1, e1, h0, h1, h2⟩ := h w
  have := (forl_ok (gm := gm) (g := g) (T := T) (I := I) (l := l) (i := 0) h0 (fun j d r e h => by rw [Nat.zero_add] at h ⊢; exact h1 j d r e h)).mono (N' := N) (fun r q => h2 r (by rw [Nat.zero_add] at q; exact q)) (fun _ q => q)
  have e : sFor caps fi gm g r w = forL gm g l (rel (these caps) r) w1 := by
    unfold sFor ResI.en; rw [e1]
  rw [e]
  exact this w1
theorem fok_run {ds : List D} (h : SOk g (startE n ds) (fun _ => Q .non) Q) : FOk (runD n g) ds Q := fun w => by
  rcases h w with ⟨r, w1, e, q⟩ | ⟨d, w1, e, q⟩
  · exact ⟨_, w1, by unfold runD; rw [e]; rfl, q⟩
  · exact ⟨_, w1, by unfold runD; rw [e]; rfl, q⟩
end
/-! draws and picks -/
theorem fok_draw {Fd : List D → Wd → Res} (h : DrawOk Fd) {m : Int} {Q : D → Prop} (h0 : 0 < m) (h1 : m < 2 ^ 60) (q : ∀ d : Int, 0 ≤ d → d < m → Q (.int d)) : FOk Fd [.pen, .int m] Q := fun w => by
  obtain ⟨d, w', e, d0, d1⟩ := h m w h0 (log2_s h0 h1)
  exact ⟨_, w', e, q d d0 d1⟩
theorem fok_pick {Fd : List D → Wd → Res} (h : DrawOk Fd) {l : List D} {Q : D → Prop} (h0 : l ≠ []) (h1 : l.length < 2 ^ 60) (q : ∀ d ∈ l, Q d) : FOk (runD 2 (pickG Fd)) [.pen, .lst l] Q := fun w => by
  obtain ⟨d, w', e, hd⟩ := pick_l h w h0 h1
  exact ⟨_, w', e, q d hd⟩
end DL

set_option Elab.async false
set_option linter.all false
set_option maxRecDepth 100000
set_option maxHeartbeats 2000000
namespace DL
open PySem PySem.SeqAt PySem.Spec PyProof.Rows L2

section
variable {X : Cx} {W : WX} {R : RK} {e c : Expr} {st : Stmt} {body : List Stmt} {pos : Pos} {ft fe : EM} {f : SM}
/-- what is never reached -/
def sBad : SM := fun _ _ => .bad
def dBad : EM := fun _ _ => .bad
theorem vs_bad : VS X W st sBad := ⟨fun pins s σ H D I ⟨_, _, _, _, _, _, q⟩ => q.elim⟩
theorem ve_bad : VE X R W e dBad := ⟨fun pins s σ H D I ⟨_, _, _, _, _, _, q⟩ => q.elim⟩

/-! ### while, of at most n laps -/
def whileL (ft : EM) (f : SM) : Nat → SM
  | 0 => fun _ _ => .bad
  | n + 1 => fun r w => (ft (rel all_ r) w).en (rel all_ r) fun d w' => match d with
    | .bl true => (match f r w' with
      | .nx r2 w2 => whileL ft f n r2 w2
      | .ct r2 w2 => whileL ft f n r2 w2
      | .bk r2 w2 => .nx r2 w2
      | .rt d w2 => .rt d w2
      | .exc m fs r2 w2 => .exc m fs r2 w2
      | .bad => .bad)
    | .bl false => .nx r w'
    | _ => .bad
def sWhile (n : Nat) (ft : EM) (f : SM) : SM := whileL ft f n
theorem vs_while (n : Nat) (hp : PassesOwn (model X.prog X.w) X.A X.env X.xe) (hc : VT X W c ft) (hb : VSs X W body f) : VS X W (.While c body [] pos) (sWhile n ft f) := weakS (ps_while hp hc hb) fun D σ H ⟨B, A, r, w, hs, hp, q⟩ => by
  refine ⟨fun m σ H => ∃ A r w, StOk X.K X.mg B A σ H r ∧ PenAt B.p B.lc A H w ∧ PostS X.K X.mg B W D (whileL ft f m r w), ⟨n, A, r, w, hs, hp, q⟩, ?_⟩
  rintro m σ H ⟨A, r, w, hs, hp, q⟩
  cases m with
  | zero => exact q.elim
  | succ m =>
    have hs1 := hs.rel all_
    refine ⟨B, _, _, w, hs1, hp.less fun a z => .inl z.1, ?_⟩
    unfold whileL at q
    cases z : ft (rel all_ r) w with
    | bad => rw [z] at q; exact q
    | exc n fs w' => rw [z] at q; exact fun cls dd H' k' p e => q cls dd σ H' _ (hs1.keep k') p e
    | ok d w' =>
      rw [z] at q
      simp only [Res.en] at q
      cases d <;> first | exact q.elim | skip
      rename_i b
      cases b with
      | false => exact fun H1 k p => iteF (q σ H1 A (hs.keep k) (hp.again p))
      | true =>
        refine fun H1 k p => iteT ⟨fun σ' H' => ∃ A r w, StOk X.K X.mg B A σ' H' r ∧ PenAt B.p B.lc A H' w ∧ PostS X.K X.mg B W D (whileL ft f m r w), fun σ' H' h => ⟨m, Nat.lt_succ_self m, h⟩, ?_⟩
        refine ⟨B, A, r, w', hs.keep k, hp.again p, ?_⟩
        simp only at q
        cases z2 : f r w' with
        | nx r2 w2 => rw [z2] at q; exact fun σ' H' A' h1 h2 => ⟨A', r2, w2, h1, h2, q⟩
        | ct r2 w2 => rw [z2] at q; exact fun σ' H' A' h1 h2 => ⟨A', r2, w2, h1, h2, q⟩
        | bk r2 w2 => rw [z2] at q; exact q
        | rt d w2 => rw [z2] at q; exact q
        | exc m' fs r2 w2 => rw [z2] at q; exact q
        | bad => rw [z2] at q; exact q.elim

/-! ### x += e, x -= e: numbers -/
def augD (g : Int → Int → Int) : D → D → Option D
  | .int i, .int j => some (.int (g i j))
  | _, _ => none
def sAug (i : Nat) (caps : List Nat) (g : Int → Int → Int) (fe : EM) : SM := fun r w => match (rel (these caps) r)[i]? with
  | some (some (d, false)) => (fe (rel (these caps) r) w).en (rel (these caps) r) fun y w' => match augD g d y with
    | some z => .nx ((rel (these caps) r).set i (some (z, false))) w'
    | none => .bad
  | _ => .bad
theorem vs_aug {i : Nat} {x : Str} {op : Operator} {g : Int → Int → Int} {pos' : Pos} (caps : List Nat) (hN : X.N.Nodup) (ho : PIp X op (ipI g)) (he : VE X rE W e fe) (hi : X.N[i]? = some x := by rfl) (hx : Loc X.env.scope x := by first | exact Or.inl rfl | exact Or.inr rfl)
    (hf : X.fn x = true ∨ X.env.scope.names.lookup x = some .local := by first | exact .inl rfl | exact .inr rfl) : VS X W (.AugAssign (.Name x pos') op e pos) (sAug i caps g fe) := weakS (ps_aug hN hi hx he ho hf) fun D σ H ⟨B, A, r, w, hs, hp, q⟩ => by
  have hs1 := hs.rel (these caps)
  have hp1 : PenAt B.p B.lc (fun a => A a ∧ ¬ OwnBy (these caps) σ r a) H w := hp.less fun a z => .inl z.1
  unfold sAug at q
  split at q
  · rename_i d hd
    obtain ⟨v, h1, h2⟩ := hs1.pl i d hd
    refine ⟨v, h1, B, _, _, w, hs1, hp1, PostS.en (R := rE) hs1 q fun y w' v' H1 k p rv q => ?_⟩
    unfold augD at q
    split at q
    · rename_i z ez
      split at ez
      · rename_i a b
        cases ez
        cases h2
        have rv : Rep (B.cf X.K X.mg) _ H1 v' (.int b) := rv
        cases rv
        exact ⟨a, b, rfl, rfl, q _ H1 _ ((hs1.keep k).set (.int _)) p⟩
      · cases ez
    · exact q.elim
  · exact q.elim
end
end DL

set_option Elab.async false
set_option linter.all false
set_option maxRecDepth 100000
set_option maxHeartbeats 2000000
namespace DL
open PySem PySem.SeqAt PySem.Spec PyProof.Rows L2

/-! ### own classes: calls of the kit's rules, what is raised wished for at the caller's slots -/
section
variable {X : Cx} {CX : CXT} {k : Nat} {f C : Addr} {fd : FuncData} {ps : List Str} {sp : Sp} {E : L2.St → XK} {x m : Str} {p pos apos : Pos} {e o : Expr} {es : List Expr} {ta : TE} {t : TA}
def tMakeSD (C : Addr) (sp : Sp) (E : L2.St → XK) (t : TA) : TE := fun σ H Q => t σ H fun vs H1 => ∀ x dx, H1 x = none → H1 dx = none → dx ≠ x →
  sp (.ref x :: vs) (upd (upd H1 dx (.own x)) x (.ins C dx [])) (fun v H2 => v = .non ∧ Q (.ref x) H2) (E σ)
/-- an exception of __init__ is taken where the heap already holds the new instance -/
theorem pe_makeSD (M : Mk X.K C f) (F : FnOk X.prog X.w X.K X.mg X.base CX k f fd ps sp) (hr : Room (k + 1) X.A) (hg : Gl X x) (hm : X.mg x = some (.ref C)) (hb : Binds X.K fd ps []) (hx : ∀ σ, PassesAt CX X σ (E σ))
    (ha : PA X (e :: es) t) (hdb : (x == ("__debug__" : Str)) = false := by decide) (he : starEach (e :: es) X.env = (false, eval e X.env) :: starEach es X.env := by rfl) (hpl : (backTo pos (starEach es X.env)).any (·.1) = false := by rfl) :
    PE X (.Call (.Name x p) (e :: es) [] pos) (tMakeSD C sp E t) := by
  constructor
  intro pins s σ H Q I h
  apply wpAny_Call_Name_kw
  refine ld_glob I hg hm ?_ hdb
  refine PySem.W.callWith_K (h₀ := X.base) I.ok.mod.kin M.kp (thn (ha.run pos pins s σ H _ I h) fun us s1 ⟨vs, H1, I1, r, q⟩ => ⟨I1.kIn, ?_⟩) he hpl
  generalize ez : s1.heap.objs.size = z
  have hz1 : H1 (z + 1) = none := I1.hok.fresh (by rw [ez]; exact Nat.le_succ _)
  have hz0 : H1 z = none := I1.hok.fresh (by rw [ez]; exact Nat.le_refl _)
  have hq := q (z + 1) z hz1 hz0 (Nat.ne_of_lt (Nat.lt_succ_self _))
  have I2 := Inv.made (C := C) I1
  rw [ez] at I2
  have r2 : Vals (V.ref (z + 1) :: vs) (Value.ref (z + 1) :: us) := .cons rfl r
  have hl : (Value.ref (z + 1) :: us).length = ps.length := by rw [← r2.length]; exact F.len _ _ _ _ hq
  have hb2 := hb _ (Value.ref (z + 1) :: us) I2.kIn (by rw [List.append_nil]; exact hl)
  rw [List.append_nil] at hb2
  have run := F.run _ X.stack _ _ ⟨Value.ref (z + 1) :: us, []⟩ (Value.ref (z + 1) :: us) _ _ (E σ) (hr.make C us []) (I2.env0.make C us []) hb2 r2 hq
  subst ez
  refine wpAny_call (make_map (f := f) I1.kIn M.makes M.init (beq_iff_eq.mp M.fn) (codeAny_mono run fun r s' hq' => ?_))
  match r, hq' with
  | .error er, hq' => exact hx σ pins _ _ er s' I2 hq'
  | .ok (.ret u), hq' =>
    obtain ⟨v, H', I3, rv, ev, q3⟩ := I2.after hq'
    subst ev
    exact ⟨rv, .ref (s1.heap.objs.size + 1), H', I3, rfl, q3⟩
  | .ok .next, hq' => exact hq'.elim
  | .ok .brk, hq' => exact hq'.elim
  | .ok .cont, hq' => exact hq'.elim
def tMethSD (C : Addr) (m : Str) (sp : Sp) (E : L2.St → XK) (ta : TE) (t : TA) : TE := fun σ H Q => ta σ H fun x H1 => ∃ a dx fs, x = .ref a ∧ H1 a = some (.ins C dx fs) ∧ fs.lookup m = none ∧
  t σ H1 fun vs H2 => sp (x :: vs) H2 Q (E σ)
theorem pe_methSD {pl : Sem Bool} (he : PE X o ta) (c : Cls X.K C) (hm : Meth X.K C m f) (F : FnOk X.prog X.w X.K X.mg X.base CX k f fd ps sp) (hr : Room k X.A) (hb : Binds X.K fd ps []) (hx : ∀ σ, PassesAt CX X σ (E σ)) (ha : PA X (e :: es) t)
    (hst : starEach (e :: es) X.env = (false, eval e X.env) :: starEach es X.env := by rfl) (hpl : (backTo pos (starEach es X.env)).any (·.1) = false := by rfl)
    (ht : eval (.Call (.Attribute o m apos) (e :: es) [] pos) X.env = (do
      let ov ← eval o X.env
      standAt apos.atName
      let (f, first) ← holding [ov] (getMethod ov m pl)
      callWith pos f first (backTo pos (starEach (e :: es) X.env)) (backToKw pos (keywordEach [] X.env))) := by rfl) :
    PE X (.Call (.Attribute o m apos) (e :: es) [] pos) (tMethSD C m sp E ta t) := by
  constructor
  intro pins s σ H Q I h
  refine PySem.W.methodCall_KW (pl := pl) (thn (he.run pins s σ H _ I h) fun u s1 hh => ?_) ht
  obtain ⟨x, H1, I1, rx, a, dx, fs, ex, ea, l, q⟩ := hh
  subst ex
  obtain rfl : u = Value.ref a := rx
  refine getmeth_ok I1 ea c hm l ?_
  refine PySem.W.callWith_K (first := [.ref a]) (h₀ := X.base) I.ok.mod.kin hm.kp (thn (ha.run pos pins s1 σ H1 _ I1 q) fun us s2 ⟨vs, H2, I2, r, q2⟩ => ⟨I2.kIn, ?_⟩) hst hpl
  exact run_fnSD (us := .ref a :: us) (vs := .ref a :: vs) F hr hb .nil (hx σ) I2 (.cons rfl r) (by simpa using q2)
end

/-! ### fields are read, methods are called -/
theorem RepL.look {c : Cf} {A : Addr → Prop} {H : Hp} {f : Str} {d : D} : ∀ {fvs : List (Str × V)} {fds : List (Str × D)}, fvs.map (·.1) = fds.map (·.1) → RepL c A H (fvs.map (·.2)) (fds.map (·.2)) → fds.lookup f = some d → ∃ v, fvs.lookup f = some v ∧ Rep c A H v d
  | [], [], _, _, h => by cases h
  | (k, v) :: fvs, (k', d') :: fds, e, r, h => by
    have e1 : k = k' := by injection e
    subst e1
    cases r with
    | cons r1 r2 =>
      rw [List.lookup_cons] at h
      by_cases z : (f == k) = true
      · rw [z] at h
        cases h
        exact ⟨v, by rw [List.lookup_cons, z], r1⟩
      · have z : (f == k) = false := by simpa using z
        rw [z] at h
        obtain ⟨u, h1, h2⟩ := RepL.look (by injection e) r2 h
        exact ⟨u, by rw [List.lookup_cons, z]; exact h1, h2⟩
theorem look_none {f : Str} : ∀ {fvs : List (Str × V)} {fds : List (Str × D)}, fvs.map (·.1) = fds.map (·.1) → fds.lookup f = none → fvs.lookup f = none
  | [], [], _, _ => rfl
  | (k, v) :: fvs, (k', d') :: fds, e, h => by
    have e1 : k = k' := by injection e
    subst e1
    rw [List.lookup_cons] at h ⊢
    by_cases z : (f == k) = true
    · rw [z] at h; cases h
    · have z : (f == k) = false := by simpa using z
      rw [z] at h
      rw [z]
      exact look_none (by injection e) h
def fldO (n f : Str) : D → Option D
  | .obj m fds => if m = n then fds.lookup f else none
  | _ => none
def dFldO (n f : Str) (fe : EM) : EM := fun r w => (fe r w).bind fun d w' => Res.of (fldO n f d) w'
/-- what is known of an own class -/
structure OwnC (K : PySem.W.Frag) (mg : Str → Option Value) (n : Str) (fl : List Str) : Prop where
  ex : mg n = some (.ref (He.ga K n))
  c : Cls K (He.ga K n)
  no : ∀ f ∈ fl, NoAttr K (He.ga K n) f
section
variable {X : Cx} {W : WX} {e o : Expr} {es : List Expr} {fe fo : EM} {fa : IM} {n f m x : Str} {fl : List Str} {p pos apos : Pos} {F : List D → Wd → Res} {k j : Nat}
theorem ve_fldO (T : OwnC X.K X.mg n fl) (hf : f ∈ fl) (he : VE X rO W e fe) (hb : attributeBase e f X.env (eval e X.env) = eval e X.env := by rfl) : VE X rE W (.Attribute e f pos) (dFldO n f fe) := weak (pe_fld he hb) fun σ H Q ⟨B, A, r, w, hs, hp, q⟩ =>
  ⟨B, A, r, w, hs, hp, q.bind fun d w1 v H1 k1 p1 r1 q1 => by
    unfold Res.of at q1
    split at q1
    · rename_i y ey
      unfold fldO at ey
      split at ey
      · rename_i n' fds
        split at ey
        · rename_i en
          subst en
          have key : ∃ a C dx fvs, v = .ref a ∧ X.mg n' = some (.ref C) ∧ H1 a = some (.ins C dx fvs) ∧ fvs.map (·.1) = fds.map (·.1) ∧ RepL (B.cf X.K X.mg) A H1 (fvs.map (·.2)) (fds.map (·.2)) := by
            rcases r1 with r1 | ⟨a, rfl, hA, C, dx, fvs, g1, g2, g3, g4⟩
            · cases r1 with
              | obj g1 g2 _ _ g3 g4 => exact ⟨_, _, _, _, rfl, g1, g2, g3, g4⟩
            · exact ⟨a, C, dx, fvs, rfl, g1, g2, g3, g4⟩
          obtain ⟨a, C, dx, fvs, rfl, g1, g2, g3, g4⟩ := key
          rw [T.ex] at g1
          cases g1
          obtain ⟨u, h1, h2⟩ := RepL.look g3 g4 ey
          exact ⟨a, _, dx, fvs, u, rfl, g2, T.c, T.no f hf, h1, q1 u H1 .refl p1 h2⟩
        · cases ey
      · cases ey
    · exact q1.elim⟩
/-- a def of a class that keeps its promise -/
structure CalleeM (P : Program) (w : World) (K : PySem.W.Frag) (mg : Str → Option Value) (base : Heap) (n m : Str) (k j : Nat) (F : List D → Wd → Res) : Prop where
  ex : ∃ (f : Addr) (fd : FuncData) (ps : List Str), FnOk P w K mg base (L2.CX P w) k f fd ps (spV K mg j F) ∧ Meth K (He.ga K n) m f ∧ Binds K fd ps []
def dMeth (n m : Str) (F : List D → Wd → Res) (fo : EM) (fa : IM) : EM := fun r w => (fo r w).bind fun o w1 => match o with
  | .obj n' fds => if n' = n ∧ (fds.lookup m).isNone then (fa r w1).toR fun ds w2 => F (o :: ds) w2 else .bad
  | _ => .bad
theorem ve_meth {pl : Sem Bool} (T : OwnC X.K X.mg n fl) (G : CalleeM X.prog X.w X.K X.mg X.base n m k (j + 1) F) (tk : Takes X W) (hr : Room k X.A) (ho : VE X rE W o fo) (ha : VA X rE W (e :: es) fa) (hl : AL fa j)
    (hst : starEach (e :: es) X.env = (false, eval e X.env) :: starEach es X.env := by rfl) (hpl : (backTo pos (starEach es X.env)).any (·.1) = false := by rfl)
    (ht : eval (.Call (.Attribute o m apos) (e :: es) [] pos) X.env = (do
      let ov ← eval o X.env
      standAt apos.atName
      let (f, first) ← holding [ov] (getMethod ov m pl)
      callWith pos f first (backTo pos (starEach (e :: es) X.env)) (backToKw pos (keywordEach [] X.env))) := by rfl) :
    VE X rE W (.Call (.Attribute o m apos) (e :: es) [] pos) (dMeth n m F fo fa) := by
  obtain ⟨f, fd, ps, FO, hm, hb⟩ := G.ex
  refine weak (pe_methSD (pl := pl) ho T.c hm FO hr hb (fun σ => passesAt tk) ha hst hpl ht) fun σ H Q ⟨B, A, r, w, hs, hp, q⟩ => ⟨B, A, r, w, hs, hp, q.bind fun d w1 v H1 k1 p1 r1 q1 => ?_⟩
  cases d <;> first | exact q1.elim | skip
  rename_i n' fds
  simp only at q1
  split at q1
  · rename_i hn
    obtain ⟨rfl, hn⟩ := hn
    have hn : fds.lookup m = none := by simpa using hn
    have r1' : Rep (B.cf X.K X.mg) A H1 v (.obj n' fds) := r1
    cases r1' with
    | obj g1 g2 g5 g6 g3 g4 =>
      have g1' : X.mg n' = some (.ref _) := g1
      rw [T.ex] at g1'
      cases g1'
      refine ⟨_, _, _, rfl, g2, look_none g3 hn, B, A, r, w1, hs.keep k1, p1, ?_⟩
      cases z : fa r w1 with
      | bad => rw [z] at q1; exact q1
      | exc m' fs w2 => rw [z] at q1; exact q1
      | ok ds w2 =>
        rw [z] at q1
        intro vs H2 k2 p2 r2
        exact call_of (hs.keep (k1.trans k2)) p2 (.cons (r1.keepA k2.a) r2.e) (by rw [List.length_cons, hl.l r w1 ds w2 z]) (Post.at k2 q1)
  · exact q1.elim
end
end DL

set_option Elab.async false
set_option linter.all false
set_option maxRecDepth 100000
set_option maxHeartbeats 2000000
namespace DL
open PySem PySem.SeqAt PySem.Spec PyProof.Rows L2

/-! ### C(..): __init__ -/
def PostNw (c : Cf) (A : Addr → Prop) (H1 : Hp) (n : Str) (C a dx : Addr) (Q : VK) (E : XK) : Res → Prop
  | .ok (.obj n' fds) w' => n' = n ∧ ∀ H' fvs, Kp c.p H1 H' → PenAt c.p c.lc A H' w' → H' a = some (.ins C dx fvs) → fvs.map (·.1) = fds.map (·.1) → RepL c A H' (fvs.map (·.2)) (fds.map (·.2)) → Q .non H'
  | .exc m fs w' => ∀ cls dd H', Kp c.p H1 H' → PenAt c.p c.lc A H' w' → ErrR c A m fs cls dd H' → E cls dd H'
  | _ => False
/-- the promise of an __init__: vs is the new instance and the arguments; F tells the instance -/
def spI (K : PySem.W.Frag) (mg : Str → Option Value) (n : Str) (m : Nat) (F : List D → Wd → Res) : Sp := fun vs H Q E => ∃ (p : Addr) (lc : Lx) (A : Addr → Prop) (w : Wd) (ds : List D) (a C dx : Addr) (ws : List V) (H1 : Hp),
  vs = .ref a :: ws ∧ mg n = some (.ref C) ∧ H = upd (upd H1 dx (.own a)) a (.ins C dx []) ∧ H1 a = none ∧ H1 dx = none ∧ dx ≠ a ∧
  (∀ a, A a → ∃ o, H1 a = some o ∧ WO o) ∧ (PenAt p lc A H1 w ∧ LcOk K mg p lc H1) ∧ RepL ⟨K, mg, p, lc⟩ A H1 ws ds ∧ ds.length = m ∧ PostNw ⟨K, mg, p, lc⟩ A H1 n C a dx Q E (F ds w)
structure CalleeI (P : Program) (w : World) (K : PySem.W.Frag) (mg : Str → Option Value) (base : Heap) (n : Str) (k m : Nat) (F : List D → Wd → Res) : Prop where
  ex : ∃ (C f : Addr) (fd : FuncData) (ps : List Str), FnOk P w K mg base (L2.CX P w) k f fd ps (spI K mg n m F) ∧ mg n = some (.ref C) ∧ Mk K C f ∧ Binds K fd ps []
/-- only what is an instance of the class counts -/
def asObj (n : Str) : Res → Res
  | .ok (.obj n' fds) w => if n' = n then .ok (.obj n' fds) w else .bad
  | .exc m fs w => .exc m fs w
  | _ => .bad
def dMake (n : Str) (F : List D → Wd → Res) (fa : IM) : EM := fun r w => (fa r w).toR fun ds w' => asObj n (F ds w')
section
variable {X : Cx} {W : WX} {e : Expr} {es : List Expr} {fa : IM} {n : Str} {p pos : Pos} {F : List D → Wd → Res} {k m : Nat}
theorem ve_make (G : CalleeI X.prog X.w X.K X.mg X.base n k m F) (tk : Takes X W) (hr : Room (k + 1) X.A) (ha : VA X rE W (e :: es) fa) (hl : AL fa m) (hg : Gl X n := by rfl)
    (hdb : (n == ("__debug__" : Str)) = false := by decide) (he : starEach (e :: es) X.env = (false, eval e X.env) :: starEach es X.env := by rfl) (hpl : (backTo pos (starEach es X.env)).any (·.1) = false := by rfl) :
    VE X rE W (.Call (.Name n p) (e :: es) [] pos) (dMake n F fa) := by
  obtain ⟨C, f, fd, ps, FO, hm, mk, hb⟩ := G.ex
  refine weak (pe_makeSD mk FO hr hg hm hb (fun σ => passesAt tk) ha hdb he hpl) fun σ H Q ⟨B, A, r, w, hs, hp, q⟩ => ⟨B, A, r, w, hs, hp, ?_⟩
  have q : Post (B.cf X.K X.mg) A σ H rE W Q ((fa r w).toR fun ds w' => asObj n (F ds w')) := q
  cases z : fa r w with
  | bad => rw [z] at q; exact q
  | exc m' fs w1 => rw [z] at q; exact q
  | ok ds w1 =>
    rw [z] at q
    intro vs H1 k1 p1 r1 a dx ha hd ne
    have hs1 := hs.keep k1
    refine ⟨B.p, B.lc, A, w1, ds, a, C, dx, vs, H1, rfl, hm, rfl, ha, hd, ne, hs1.tr, ⟨p1, hs1.lco⟩, r1.e, hl.l r w ds w1 z, ?_⟩
    have q2 : Post (B.cf X.K X.mg) A σ H rE W Q (asObj n (F ds w1)) := q
    clear q
    cases ez : F ds w1 with
    | bad => rw [ez] at q2; exact q2.elim
    | exc m' fs w2 => rw [ez] at q2; exact fun cls dd H' k2 p2 e => q2 cls dd H' (k1.trans k2) p2 e
    | ok d w2 =>
      rw [ez] at q2
      cases d <;> first | exact q2.elim | skip
      rename_i n' fds
      unfold asObj at q2
      simp only at q2
      split at q2
      · rename_i en
        refine ⟨en, fun H' fvs k2 p2 h2 h3 h4 => ⟨rfl, ?_⟩⟩
        have fr := hs1.fresh ha
        exact q2 _ H' (k1.trans k2) p2 (.obj (by rw [en]; exact hm) h2 fr.1 fr.2 h3 h4)
      · exact q2.elim
end

/-! #### the start: slot 0 is not known -/
section
variable {K : PySem.W.Frag} {mg : Str → Option Value} {B : Bs} {A : Addr → Prop} {σ : L2.St} {H : Hp} {r : Env}
theorem StOk.unset (h : StOk K mg B A σ H r) (i : Nat) (v : Option V) : StOk K mg B A (σ.set i v) H (r.set i none) := by
  have f : ∀ {j : Nat} {x}, (r.set i none)[j]? = some (some x) → r[j]? = some (some x) ∧ i ≠ j := fun {j x} e => by
    rcases set_at e with ⟨_, z⟩ | ⟨n, z⟩
    · cases z
    · exact ⟨z, Ne.symm n⟩
  refine ⟨h.kp, h.tp, h.tr, h.a0, h.t0, h.ax, h.np, fun j d e => ?_, fun j d e => ?_, fun j m d e a h1 h2 s1 s2 => ?_, by rw [List.length_set, List.length_set]; exact h.ln, h.tq⟩
  · obtain ⟨u, h1, h2⟩ := h.pl j d (f e).1
    exact ⟨u, by rw [List.getElem?_set_ne (f e).2]; exact h1, h2⟩
  · obtain ⟨u, h1, h2⟩ := h.ow j d (f e).1
    exact ⟨u, by rw [List.getElem?_set_ne (f e).2]; exact h1, h2⟩
  · rw [List.getElem?_set_ne (f h1).2] at s1
    rw [List.getElem?_set_ne (f h2).2] at s2
    exact h.ne j m d e a (f h1).1 (f h2).1 s1 s2
end
def startX (n : Nat) (ds : List D) : Env := (startE n (.non :: ds)).set 0 none
theorem startX_ok {K : PySem.W.Frag} {mg : Str → Option Value} {p : Addr} {lc : Lx} {A : Addr → Prop} {H1 : Hp} {w : Wd} {ws : List V} {ds : List D} {N : List Str} {a dx C : Addr} (tr : ∀ a, A a → ∃ o, H1 a = some o ∧ WO o) (pn : PenAt p lc A H1 w) (tq : LcOk K mg p lc H1) (r : RepL ⟨K, mg, p, lc⟩ A H1 ws ds) (ha : H1 a = none) (hd : H1 dx = none) (ne : dx ≠ a) :
    StOk K mg ⟨p, lc, A, H1⟩ A (L2.start N (.ref a :: ws)) (upd (upd H1 dx (.own a)) a (.ins C dx [])) (startX N.length ds) ∧ Same H1 (upd (upd H1 dx (.own a)) a (.ins C dx [])) := by
  have sm : Same H1 (upd (upd H1 dx (.own a)) a (.ins C dx [])) := fun b o e => by
    rw [upd_ne (ne_of_none e ha), upd_ne (ne_of_none e hd)]; exact e
  refine ⟨?_, sm⟩
  have h := ((start_ok (N := N) (vs := .non :: ws) (ds := .non :: ds) tr pn tq (.cons .non r)).keep (.of sm)).unset 0 (some (.ref a))
  have e : (L2.start N (.non :: ws)).set 0 (some (.ref a)) = L2.start N (.ref a :: ws) := by
    unfold L2.start
    rfl
  rw [e] at h
  exact h
def runX (n : Nat) (g : SM) : List D → Wd → Res := fun ds w => match g (startX n ds) w with
  | .exc m fs _ w' => .exc m fs w'
  | _ => .bad
/-- an __init__ of which only what it raises is told -/
theorem initX_ok {P : Program} {w : World} {K : PySem.W.Frag} {mg : Str → Option Value} {base : Heap} {n qual : Str} {st : Stmt} {f : Addr} {fd : FuncData} {N ps : List Str} {k m : Nat} {g : SM} (F : Fun K "__init__" qual st f fd) (S : FnScope N ps (defScope st)) (hps : ps.length = m + 1)
    (hb : ∀ (cdv : Value) (A : Around) (outer : List PySem.Env) (s : Shared) (H : Hp) (E : XK), InTF K cdv qual → Room k (A.deeper (envOfC qual (defScope st) s.heap.objs.size f cdv)) →
      VSs (cxOf (L2.CX P w) P w K mg base N qual (defScope st) f cdv A outer s H E) (fun cls d _ H => E cls d H) (defBody st) g) : FnOk P w K mg base (L2.CX P w) (k + 1) f fd ps (spI K mg n m (runX N.length g)) := by
  obtain ⟨oc, od, kV, doc, pm, an, cdv, ct, osl, rfl, lk, hcd⟩ := F.ex
  refine fn_of lk hcd S (fun vs H Q E h => ?_) (fun A outer s H vs Q E hr h => ⟨_, hb cdv A outer s H E (show InTF K cdv qual from inTF lk hcd) hr, ?_⟩)
  · obtain ⟨p, lc, A, w, ds, a, C, dx, ws, H1, rfl, _, _, _, _, _, _, _, r, e, _⟩ := h
    rw [List.length_cons, r.len, e, hps]
  · obtain ⟨p, lc, A, w, ds, a, C, dx, ws, H1, rfl, hm, rfl, ha, hd, ne, tr, ⟨pn, tq⟩, r, e, q⟩ := h
    obtain ⟨so, sm⟩ := startX_ok (N := N) (C := C) (mg := mg) tr pn tq r ha hd ne
    refine ⟨⟨p, lc, A, H1⟩, A, _, w, so, pn.keep sm, ?_⟩
    unfold runX at q
    split at q
    · rename_i m' fs r' w' z
      rw [z]
      exact fun cls dd σ' H' A' hs hp er => q cls dd H' hs.kp (hp.less fun a z => .inl (hs.a0 a z)) (by
        obtain ⟨C, e1, e2, e3⟩ := er
        refine ⟨C, e1, e2, ?_⟩
        cases dd with
        | none => exact e3
        | some x =>
          obtain ⟨fvs, f1, f2, f3, f4, f5⟩ := e3
          exact ⟨fvs, f1, f2, fun z => f3 (hs.a0 _ z), f4, f5.to fun a z => .inl (hs.a0 a z)⟩)
    · exact q.elim

/-! #### self.f = e, one behind the other -/
theorem putF_new {f : Str} {v : V} : ∀ {fs : List (Str × V)}, f ∉ fs.map (·.1) → putF f v fs = fs ++ [(f, v)]
  | [], _ => rfl
  | (g, x) :: r, h => by
    have h1 : g ≠ f := fun e => h (by rw [e]; exact List.mem_cons_self)
    show (if g = f then (g, v) :: r else (g, x) :: putF f v r) = _
    rw [if_neg h1, putF_new fun z => h (List.mem_cons_of_mem _ z)]
    rfl
section
variable {K : PySem.W.Frag} {mg : Str → Option Value} {B : Bs} {A : Addr → Prop} {σ : L2.St} {H : Hp} {r : Env}
theorem StOk.writeA (h : StOk K mg B A σ H r) {a : Addr} {o : HO} (hA : A a) (h0 : Fr B.H0 a) (wo : WO o) (no : ∀ (j : Nat) (e : D), r[j]? = some (some (e, true)) → σ[j]? ≠ some (some (.ref a))) : StOk K mg B A σ (upd H a o) r := by
  have k : KpA B.p A H (upd H a o) := KpA.upd hA
  have nap : a ≠ B.p := fun z => h.np (z ▸ hA)
  refine ⟨⟨fun b u nb mb e => ?_, fun b ⟨u, e, m⟩ => ?_⟩, ?_, fun b q => ?_, h.a0, h.t0, h.ax, h.np, fun j e q => ?_, fun j e q => ?_, h.ne, h.ln, h.tq⟩
  · rw [upd_ne (fun z => by rw [z] at e; exact h0 _ e mb)]
    exact h.kp.k b u nb mb e
  · by_cases z : b = a
    · rw [z]; exact ⟨o, upd_same, wo.nt⟩
    · rw [upd_ne z]; exact h.kp.t b ⟨u, e, m⟩
  · rw [upd_ne (Ne.symm nap)]; exact h.tp
  · by_cases z : b = a
    · rw [z]; exact ⟨o, upd_same, wo⟩
    · rw [upd_ne z]; exact h.tr b q
  · obtain ⟨u, h1, h2⟩ := h.pl j e q
    exact ⟨u, h1, h2.keepA k⟩
  · obtain ⟨b, h1, h2, h3, h4⟩ := h.ow j e q
    have hb : b ≠ a := fun z => no j e q (by rw [← z]; exact h1)
    exact ⟨b, h1, h2, h3, h4.keepA k fun o' m q => by rw [upd_ne hb]; exact q⟩
end
/-- what is told of the new instance at a, in the midst of its __init__ -/
structure Mid (K : PySem.W.Frag) (mg : Str → Option Value) (n : Str) (B : Bs) (A : Addr → Prop) (σ : L2.St) (H : Hp) (r : Env) (a dx : Addr) (fds : List (Str × D)) : Prop where
  ex : ∃ fvs, H a = some (.ins (He.ga K n) dx fvs) ∧ fvs.map (·.1) = fds.map (·.1) ∧ RepL (B.cf K mg) A H (fvs.map (·.2)) (fds.map (·.2))
  at0 : σ[0]? = some (some (.ref a))
  hA : A a
  h0 : Fr B.H0 a
  no : ∀ (j : Nat) (e : D), r[j]? = some (some (e, true)) → σ[j]? ≠ some (some (.ref a))
theorem Mid.keep {K : PySem.W.Frag} {mg : Str → Option Value} {n : Str} {B : Bs} {A : Addr → Prop} {σ : L2.St} {H H' : Hp} {r : Env} {a dx : Addr} {fds : List (Str × D)} (k : Kp B.p H H') (np : a ≠ B.p) (h : Mid K mg n B A σ H r a dx fds) : Mid K mg n B A σ H' r a dx fds := by
  obtain ⟨fvs, h1, h2, h3⟩ := h.ex
  exact ⟨⟨fvs, k.k a _ np trivial h1, h2, h3.keepA k.a⟩, h.at0, h.hA, h.h0, h.no⟩
def tIF (K : PySem.W.Frag) (mg : Str → Option Value) (W : WX) (n : Str) (fl : List Str) (fa : IM) : TS := fun Z σ H => ∃ (B : Bs) (A : Addr → Prop) (r : Env) (w : Wd) (a dx : Addr) (fds : List (Str × D)),
  Mid K mg n B A σ H r a dx fds ∧ (fds.map (·.1) ++ fl).Nodup ∧ fds.length + fl.length < 1000 ∧ StOk K mg B A σ H r ∧ PenAt B.p B.lc A H w ∧ (match fa r w with
    | .ok ds w' => ∀ H', StOk K mg B A σ H' r → PenAt B.p B.lc A H' w' → Mid K mg n B A σ H' r a dx (fds ++ fl.zip ds) → Z.nx σ H'
    | .exc m fs w' => ∀ cls dd H', StOk K mg B A σ H' r → PenAt B.p B.lc A H' w' → ErrR (B.cf K mg) A m fs cls dd H' → W cls dd σ H'
    | .bad => False)
abbrev VIF (X : Cx) (W : WX) (n : Str) (sts : List Stmt) (fl : List Str) (fa : IM) : Prop := PSs X sts (tIF X.K X.mg W n fl fa)
section
variable {X : Cx} {W : WX} {e : Expr} {sts : List Stmt} {fe : EM} {fa : IM} {n f x : Str} {fl gl : List Str} {p p' pos : Pos}
theorem vif_nil : VIF X W n [] [] aNil := weakSs pss_nil fun Z σ H ⟨B, A, r, w, a, dx, fds, mid, nd, len, hs, hp, q⟩ => q H hs hp (by simpa using mid)
theorem vif_cons (T : OwnC X.K X.mg n gl) (hf : f ∈ gl) (he : VE X rE W e fe) (hr : VIF X W n sts fl fa) (hN : X.N[0]? = some x := by rfl) (hv : Vis X.env.scope x := by first | exact Or.inl rfl | exact Or.inr (Or.inl rfl) | exact Or.inr (Or.inr rfl)) (hd : (x == ("__debug__" : Str)) = false := by decide) (hcd : (x == ("__classdict__" : Str)) = false := by decide)
    (hsw : swapsWith e (some (.Attribute (.Name x p) f p')) pos.line X.env = pure false := by rfl) : VIF X W n (.Assign [.Attribute (.Name x p) f p'] e pos :: sts) (f :: fl) (aCons fe fa) :=
  weakSs (pss_cons (ps_fld (pe_var (i := 0) hN hv hd hcd) he hsw) hr) fun Z σ H ⟨B, A, r, w, a, dx, fds, mid, nd, len, hs, hp, q⟩ => by
  refine ⟨B, A, r, w, hs, hp, ?_⟩
  have nap : a ≠ B.p := fun z => hs.np (z ▸ mid.hA)
  unfold aCons at q
  cases z : fe r w with
  | bad => rw [z] at q; exact q.elim
  | exc m fs w1 => rw [z] at q; exact fun cls dd H' k p er => q cls dd H' (hs.keep k) p er
  | ok d w1 =>
    rw [z] at q
    intro v H1 k1 p1 r1
    have mid1 := mid.keep k1 nap
    have hs1 := hs.keep k1
    obtain ⟨fvs, g1, g2, g3⟩ := mid1.ex
    have hlen : fvs.length = fds.length := by have := congrArg List.length g2; simpa using this
    have fnew : f ∉ fds.map (·.1) := fun hm => by
      have := List.nodup_append.mp nd
      exact this.2.2 f hm f List.mem_cons_self rfl
    have fnew' : f ∉ fvs.map (·.1) := by rw [g2]; exact fnew
    refine ⟨.ref a, mid.at0, a, _, dx, fvs, rfl, g1, T.c, T.no f hf, by rw [hlen]; rw [List.length_cons] at len; omega, ?_⟩
    rw [putF_new fnew']
    have r1 : Rep (B.cf X.K X.mg) A H1 v d := r1
    have kA : KpA B.p A H1 (upd H1 a (.ins (He.ga X.K n) dx (fvs ++ [(f, v)]))) := KpA.upd mid.hA
    have hs2 := hs1.writeA (o := .ins (He.ga X.K n) dx (fvs ++ [(f, v)])) mid.hA mid.h0 trivial mid.no
    have p2 : PenAt B.p B.lc A (upd H1 a (.ins (He.ga X.K n) dx (fvs ++ [(f, v)]))) w1 := p1.write mid.hA ⟨_, g1, trivial⟩
    refine ⟨B, A, r, w1, a, dx, fds ++ [(f, d)], ⟨⟨_, upd_same, ?_, ?_⟩, mid.at0, mid.hA, mid.h0, mid.no⟩, ?_, ?_, hs2, p2, ?_⟩
    · rw [List.map_append, List.map_append, g2]; rfl
    · rw [List.map_append, List.map_append]
      exact (g3.snoc r1).keepA kA
    · rw [List.map_append, List.append_assoc]; exact nd
    · rw [List.length_append, List.length_singleton]; rw [List.length_cons] at len; omega
    · simp only at q
      cases z2 : fa r w1 with
      | bad => rw [z2] at q; exact q.elim
      | exc m fs w2 => rw [z2] at q; exact q
      | ok ds w2 =>
        rw [z2] at q
        intro H' h1 h2 h3
        refine q H' h1 h2 ?_
        rw [List.append_assoc] at h3
        exact h3
end
def runF (n : Str) (N : Nat) (fl : List Str) (fa : IM) : List D → Wd → Res := fun ds w => (fa (startX N ds) w).toR fun l w' => .ok (.obj n (fl.zip l)) w'
/-- an __init__ that stores fields, one behind the other -/
theorem initF_ok {P : Program} {w : World} {K : PySem.W.Frag} {mg : Str → Option Value} {base : Heap} {n qual : Str} {st : Stmt} {f : Addr} {fd : FuncData} {N ps fl : List Str} {k m : Nat} {fa : IM} (F : Fun K "__init__" qual st f fd) (S : FnScope N ps (defScope st)) (hps : ps.length = m + 1) (hmg : mg n = some (.ref (He.ga K n)))
    (nd : fl.Nodup) (len : fl.length < 1000) (hl : AL fa fl.length) (hN : 0 < N.length)
    (hb : ∀ (cdv : Value) (A : Around) (outer : List PySem.Env) (s : Shared) (H : Hp) (E : XK), InTF K cdv qual → Room k (A.deeper (envOfC qual (defScope st) s.heap.objs.size f cdv)) →
      VIF (cxOf (L2.CX P w) P w K mg base N qual (defScope st) f cdv A outer s H E) (fun cls d _ H => E cls d H) n (defBody st) fl fa) : FnOk P w K mg base (L2.CX P w) (k + 1) f fd ps (spI K mg n m (runF n N.length fl fa)) := by
  obtain ⟨oc, od, kV, doc, pm, an, cdv, ct, osl, rfl, lk, hcd⟩ := F.ex
  refine fn_of lk hcd S (fun vs H Q E h => ?_) (fun A outer s H vs Q E hr h => ⟨_, hb cdv A outer s H E (show InTF K cdv qual from inTF lk hcd) hr, ?_⟩)
  · obtain ⟨p, lc, A, w, ds, a, C, dx, ws, H1, rfl, _, _, _, _, _, _, _, r, e, _⟩ := h
    rw [List.length_cons, r.len, e, hps]
  · obtain ⟨p, lc, A, w, ds, a, C, dx, ws, H1, rfl, hm, rfl, ha, hd, ne, tr, ⟨pn, tq⟩, r, e, q⟩ := h
    rw [hmg] at hm
    cases hm
    have sm : Same H1 (upd (upd H1 dx (.own a)) a (.ins (He.ga K n) dx [])) := fun b o e => by
      rw [upd_ne (ne_of_none e ha), upd_ne (ne_of_none e hd)]; exact e
    have so1 : StOk K mg ⟨p, lc, A, H1⟩ A (L2.start N (.ref a :: ws)) H1 (startX N.length ds) :=
      (start_ok (N := N) (vs := .non :: ws) (ds := .non :: ds) tr pn tq (.cons .non r)).unset 0 (some (.ref a))
    have so := so1.side (fr_none ha) (.of sm) ⟨_, upd_same, trivial⟩
    have pn2 := (pn.keep sm).more (fr_none ha) (.of sm) ⟨w, pn⟩
    have hno : ∀ (j : Nat) (e : D), (startX N.length ds)[j]? ≠ some (some (e, true)) := fun j e z => by
      unfold startX at z
      rcases set_at z with ⟨_, z⟩ | ⟨_, z⟩
      · cases z
      · unfold startE at z
        rw [List.getElem?_append] at z
        split at z
        · rw [List.getElem?_map] at z
          cases q : (D.non :: ds)[j]? with
          | none => rw [q] at z; cases z
          | some d => rw [q] at z; cases z
        · have := List.mem_of_getElem? z
          rw [List.mem_replicate] at this
          cases this.2
    refine ⟨⟨p, lc, A, H1⟩, _, _, w, a, dx, [], ⟨⟨[], upd_same, rfl, .nil⟩, rfl, .inr rfl, fr_none ha, fun j e z => (hno j e z).elim⟩, by simpa using nd, by simpa using len, so, pn2, ?_⟩
    unfold runF at q
    cases z : fa (startX N.length ds) w with
    | bad => rw [z] at q; exact q.elim
    | exc m' fs w' =>
      rw [z] at q
      exact fun cls dd H' hs hp er => q cls dd H' hs.kp (hp.less fun a z => .inl (.inl z)) (by
        obtain ⟨C, e1, e2, e3⟩ := er
        refine ⟨C, e1, e2, ?_⟩
        cases dd with
        | none => exact e3
        | some x =>
          obtain ⟨fvs, f1, f2, f3, f4, f5⟩ := e3
          exact ⟨fvs, f1, f2, fun z => f3 (.inl z), f4, f5.to fun a z => .inl (.inl z)⟩)
    | ok l w' =>
      rw [z] at q
      intro H' hs hp mid
      obtain ⟨fvs, g1, g2, g3⟩ := mid.ex
      exact q.2 H' fvs hs.kp (hp.less fun a z => .inl (.inl z)) g1 g2 (g3.to fun a z => .inl (.inl z))
end DL

set_option Elab.async false
set_option linter.all false
set_option maxRecDepth 100000
set_option maxHeartbeats 2000000
namespace DL
open PySem PySem.SeqAt PySem.Spec PyProof.Rows L2

/-! ### a dict of the module from texts to tuples of texts -/
structure DicF (K : PySem.W.Frag) (w : World) (x : Str) (tbl : List (Str × List Str)) : Prop where
  at_ : ∀ p ∈ tbl, ∃ a, KDct K w (He.ga K x) p.1 (.ref a) ∧ ∀ H, SqT K H a (p.2.map V.str)
def dKD (tbl : List (Str × List Str)) (fb : EM) : EM := fun r w => (fb r w).bind fun y w1 => match y with
  | .str s => (match tbl.lookup s with
    | some l => .ok (.kup (l.map .str)) w1
    | none => .bad)
  | _ => .bad
theorem lookup_mem {s : Str} {l : List Str} : ∀ {tbl : List (Str × List Str)}, tbl.lookup s = some l → (s, l) ∈ tbl
  | [], h => by cases h
  | (k, v) :: r, h => by
    rw [List.lookup_cons] at h
    by_cases z : (s == k) = true
    · rw [z] at h; cases h
      rw [eq_of_beq z]; exact List.mem_cons_self
    · have z : (s == k) = false := by simpa using z
      rw [z] at h
      exact List.mem_cons_of_mem _ (lookup_mem h)
section
variable {X : Cx} {W : WX} {b : Expr} {fb : EM} {x : Str} {p pos : Pos} {tbl : List (Str × List Str)}
theorem ve_kd (D : DicF X.K X.w x tbl) (hm : X.mg x = some (.ref (He.ga X.K x))) (hb : VE X rO W b fb) (hg : Gl X x := by rfl) (hdb : (x == ("__debug__" : Str)) = false := by decide) (hs : PlainIx b := by exact fun _ _ => rfl) : VE X rE W (.Subscript (.Name x p) b pos) (dKD tbl fb) :=
  weak (pe_ix ix_kdict (pe_glob (v := .ref (He.ga X.K x)) hg hm rfl hdb) hb hs) fun σ H Q ⟨B, A, r, w, hs, hp, q⟩ => by
  refine ⟨B, A, r, w, hs, hp, q.bind fun y w1 v H1 k1 p1 r1 q1 => ?_⟩
  cases y <;> first | exact q1.elim | skip
  rename_i s
  have := r1.str; subst this
  simp only at q1
  cases z : tbl.lookup s with
  | none => rw [z] at q1; exact q1.elim
  | some l =>
    rw [z] at q1
    obtain ⟨a, h1, h2⟩ := D.at_ _ (lookup_mem z)
    exact ⟨_, s, .ref a, rfl, rfl, h1, q1 _ H1 .refl p1 (.tupK (h2 noH) (RepL.strs l))⟩
end

/-! ### the head: facts, and the module's dicts -/
abbrev AlD : Type := (AlQ × Bool) × List (Option (List (Option (Str × Int))))
def obsDG (n : Nat) (fa : List FaB) (fn : List He.FnD) (ds : List (Str × List Str)) (g : Addr → Option Obj) : AlD := (obsQG n fa fn g, ds.map fun x => He.dicW (He.frT g (He.asG g n)) (He.ga (He.frT g (He.asG g n)) x.1))
def SaysDs (w : World) (ds : List (Str × List Str)) (K : PySem.W.Frag) : Prop := ∀ x ∈ ds, He.dicW K (He.ga K x.1) = some (He.keysIn w.params x.2)
theorem map_at {α β : Type} {f g : α → β} : ∀ {l : List α}, l.map f = l.map g → ∀ x ∈ l, f x = g x
  | [], _, x, h => by cases h
  | a :: l, e, x, h => by
    injection e with e1 e2
    rcases List.mem_cons.mp h with rfl | h
    · exact e1
    · exact map_at e2 x h
def hookD (n : Nat) (fa : List FaB) (fn : List He.FnD) (ds : List (Str × List Str)) : PySem.W.Hook where
  α := AlD
  obs := fun s => obsDG n fa fn ds s.heap.get?
  val := fun w => ((valQ fn, true), ds.map fun x => some (He.keysIn w.params x.2))
  says := fun w h => ∃ K : PySem.W.Frag, K.In h ∧ SaysW fa fn h K ∧ SaysDs w ds K
  of := fun w s e => by
    have e1 : obsQG n fa fn s.heap.get? = (valQ fn, true) := congrArg (fun z : AlD => z.1) e
    have e2 : ds.map (fun x => He.dicW (He.frT s.heap.get? (He.asG s.heap.get? n)) (He.ga (He.frT s.heap.get? (He.asG s.heap.get? n)) x.1)) = ds.map fun x => some (He.keysIn w.params x.2) := congrArg (fun z : AlD => z.2) e
    exact ⟨_, He.frT_in, saysW_of e1, map_at e2⟩
  keeps := fun _ _ _ ⟨K, hK, c, d⟩ k => ⟨K, PySem.W.Frag.In.keeps hK k, ⟨c.q, c.hd, c.out, fun t ht => k _ _ (c.empty t ht), c.uq⟩, d⟩
theorem obsDG_eq {n : Nat} {fa : List FaB} {fn : List He.FnD} {ds : List (Str × List Str)} {g : Addr → Option Obj} {s : Shared} (h : ∀ a, g a = s.heap.get? a) : obsDG n fa fn ds g = (hookD n fa fn ds).obs s := by
  have e : g = s.heap.get? := funext h
  rw [e] <;> rfl
def dTupB (K : PySem.W.Frag) (x k : Str) (l : List Str) : Bool := match PySem.W.nsIn K (He.ga K x) k with
  | some (some (.ref a)) => (match K.lookup a with
    | some ⟨.type c, _, .seq its _, _⟩ => decide (c = "tuple") && (decide (its.size ≤ sizeLine) && He.relAll (l.map V.str) its.toList)
    | _ => false)
  | _ => false
def dicB (x : Str) (tbl : List (Str × List Str)) (K : PySem.W.Frag) : Bool := tbl.all fun p => dTupB K x p.1 p.2
theorem dTupB_ok {K : PySem.W.Frag} {x k : Str} {l : List Str} (h : dTupB K x k l = true) : ∃ a, PySem.W.nsIn K (He.ga K x) k = some (some (.ref a)) ∧ ∀ H, SqT K H a (l.map V.str) := by
  unfold dTupB at h
  split at h
  · rename_i a e
    refine ⟨a, e, fun H => ?_⟩
    cases q : K.lookup a with
    | none => rw [q] at h; cases h
    | some o =>
      obtain ⟨oc, od, dt, osl⟩ := o
      rw [q] at h
      cases oc with
      | type c =>
        cases dt with
        | seq its n =>
          obtain ⟨h1, h2⟩ := He.ba (show (decide (c = "tuple") && (decide (its.size ≤ sizeLine) && He.relAll (l.map V.str) its.toList)) = true from h)
          obtain ⟨h3, h4⟩ := He.ba h2
          exact .inr ⟨_, its, n, q, congrArg Value.type (of_decide_eq_true h1), rfl, of_decide_eq_true h3, He.relAll_ok h4⟩
        | _ => cases h
      | _ => cases dt <;> cases h
  · cases h
theorem dicF_ok {K : PySem.W.Frag} {w : World} {x : Str} {tbl : List (Str × List Str)} (c : dicB x tbl K = true) {ks : List Str} (d : He.dicW K (He.ga K x) = some (He.keysIn w.params ks)) : DicF K w x tbl := ⟨fun p hp => by
  obtain ⟨a, h1, h2⟩ := dTupB_ok (List.all_eq_true.mp c p hp)
  obtain ⟨es, n, D⟩ := He.dicW_ok d
  exact ⟨a, ⟨es, n, _, D.at_, D.lit, h1, rfl⟩, h2⟩⟩

/-! ### own classes: what the head tells -/
theorem ownC_of {K : PySem.W.Frag} {mg : Str → Option Value} {n : Str} {fl : List Str} (m : mg n = some (.ref (He.ga K n))) (c : (He.Fa.cls n).ok K = true) (no : (fl.all fun f => (He.Fa.noat n f).ok K) = true) : OwnC K mg n fl :=
  ⟨m, He.cls_ok c, fun f hf => He.noat_ok (List.all_eq_true.mp no f hf)⟩
def dMth (C m qual : Str) (st : Stmt) : He.FnD := ⟨(C, some m), m, qual, defArgs st, defBody st, defScope st⟩
theorem fun_ofM {fa : List FaB} {fn : List He.FnD} {K : PySem.W.Frag} (c : SaysQ fa fn K) (i : Nat) {x m q : Str} {st : Stmt} (h : fn[i]? = some (dMth x m q st) := by rfl) : ∃ fd, Fun K m q st (He.ma K (He.ga K x) m) fd := by
  obtain ⟨⟨oc, od, osl, kV, doc, pm, an, cdv, ct, h1, h2⟩, h3⟩ := c.def_ i h
  exact ⟨_, fun_mk h1 h2 h3⟩
theorem calleeM_of {P : Program} {w : World} {K : PySem.W.Frag} {mg : Str → Option Value} {base : Heap} {n m qual : Str} {st : Stmt} {fd : FuncData} {N ps : List Str} {k j : Nat} {g : SM} (F : Fun K m qual st (He.ma K (He.ga K n) m) fd) (S : FnScope N ps (defScope st)) (hm : (He.Fa.meth n m).ok K = true) (hn : ps.length = j)
    (hbi : Binds K fd ps [])
    (hb : ∀ (cdv : Value) (A : Around) (outer : List PySem.Env) (s : Shared) (H : Hp) (E : XK), InTF K cdv qual → Room k (A.deeper (envOfC qual (defScope st) s.heap.objs.size (He.ma K (He.ga K n) m) cdv)) →
      VSs (cxOf (L2.CX P w) P w K mg base N qual (defScope st) (He.ma K (He.ga K n) m) cdv A outer s H E) (fun cls d _ H => E cls d H) (defBody st) g) : CalleeM P w K mg base n m (k + 1) j (runD N.length g) := by
  subst hn
  exact ⟨_, fd, ps, fun_v F S hb, He.meth_ok hm, hbi⟩
/-- the law's end over this head -/
theorem walk_ofD {l : PySem.W.OpenLaw} {k : Nat} {q : Program} {loose : List Str} {XP : (Str → Option Value) → Heap → Prop} {fa : List FaB} {fn : List He.FnD} {ds : List (Str × List Str)} {d : DefRec} {ev : Nat}
    (hn : l.most = some 63) (hdf : d.params.defaults = []) (hdn : d.name = "law") (hr : Room k callerA)
    (F : ∀ (w : World) (mg : Str → Option Value) (a : Addr) (h : Heap) (K : PySem.W.Frag), K.In h → h.Ns mainGlobals mg → mg ("law" : Str) = some (.ref a) → SaysQ fa fn K → SaysDs w ds K →
      ∃ fd : FuncData, (∀ (s : Shared) (v : Value), BindsTo s fd ⟨[v], []⟩ [("script", v)]) ∧ ∀ base : Heap, K.In base → base.Ns mainGlobals mg → TB K mg base → FnOk l.prog w K mg base (L2.CX l.prog w) k a fd ["script"] (spLaw K)) :
    PySem.W.WalkO q loose XP (hookD ev fa fn ds).says l.row.toRowW d [] (fun f vs => PySem.call f vs) := by
  refine Att.attach_callB hn hdf fun w s₀ s₁ mg mb f o pm cd doc a vs ns G Y ho hd hcd hmg hobj hints hlen hbits hg => ?_
  obtain ⟨K, KX, c, cd⟩ := Y
  rw [hdn] at hmg
  obtain ⟨fd, hb, hF⟩ := F w mg f _ K KX G.T.g hmg c.q cd
  have mem : ∀ p ∈ (TF K).map (fun t => (t.1, t.2.1)), ∃ q, (p.1, p.2, q) ∈ TF K := fun p hp => by
    obtain ⟨t, ht, e⟩ := List.mem_map.mp hp
    rw [← e]; exact ⟨t.2.2, ht⟩
  refine LamX.law_callTs (cs := (TF K).map fun t => (t.1, t.2.1)) KX G.T.g G.T.b G.T.builtins G.T.nolimit hg (fun p hp => ?_) (fun p hp => ?_) (fun p hp => ?_) G.T.bmain hobj hints (Nat.le_trans hlen (by decide)) hr (fun base hK hN hT => hF base hK hN ⟨c.uq, fun t ht => hT _ (List.mem_map.mpr ⟨t, ht, rfl⟩)⟩) hb (fun H hH hS => ⟨a, ns, rfl, ⟨hS, fun t ht => ?_⟩, hlen, fun _ => rfl⟩) fun H e s' => by
    intro h
    obtain ⟨_, _, _, _, _, _, _, _, _, _, _, _, z⟩ := h
    exact z.elim
  · obtain ⟨q, hq⟩ := mem p hp; exact c.empty _ hq
  · obtain ⟨q, hq⟩ := mem p hp; exact c.out _ hq
  · obtain ⟨q, hq⟩ := mem p hp; exact PySem.W.codeHd_of_K KX (c.hd _ hq)
  · obtain ⟨u, hu, e⟩ := List.mem_map.mp ht
    rw [← e]
    exact LamX.TabS.nil (hH _ (List.mem_map.mpr ⟨u, hu, rfl⟩))
end DL

set_option Elab.async false
set_option linter.all false
set_option maxRecDepth 100000
set_option maxHeartbeats 2000000
namespace DL
open PySem PySem.SeqAt PySem.Spec PyProof.Rows L2

/-! ### data without anything that can change -/
inductive Fl : D → Prop
  | non : Fl .non
  | bl (b : Bool) : Fl (.bl b)
  | int (i : Int) : Fl (.int i)
  | str (x : Str) : Fl (.str x)
  | tup {l : List D} : (∀ d ∈ l, Fl d) → Fl (.tup l)
/-- trees of lists and tuples -/
inductive Tr : D → Prop
  | non : Tr .non
  | bl (b : Bool) : Tr (.bl b)
  | int (i : Int) : Tr (.int i)
  | str (x : Str) : Tr (.str x)
  | tup {l : List D} : (∀ d ∈ l, Tr d) → Tr (.tup l)
  | lst {l : List D} : (∀ d ∈ l, Tr d) → Tr (.lst l)
/-- data with nothing borrowed in it -/
inductive Nb : D → Prop
  | non : Nb .non
  | bl (b : Bool) : Nb (.bl b)
  | int (i : Int) : Nb (.int i)
  | str (x : Str) : Nb (.str x)
  | pen : Nb .pen
  | tup {l : List D} : (∀ d ∈ l, Nb d) → Nb (.tup l)
  | lst {l : List D} : (∀ d ∈ l, Nb d) → Nb (.lst l)
  | obj {n : Str} {fs : List (Str × D)} : (∀ d ∈ fs.map (·.2), Nb d) → Nb (.obj n fs)
theorem Tr.nb {d : D} (h : Tr d) : Nb d := by
  induction h with
  | non => exact .non
  | bl b => exact .bl b
  | int i => exact .int i
  | str x => exact .str x
  | tup _ ih => exact .tup ih
  | lst _ ih => exact .lst ih
theorem Fl.nb {d : D} (h : Fl d) : Nb d := by
  induction h with
  | non => exact .non
  | bl b => exact .bl b
  | int i => exact .int i
  | str x => exact .str x
  | tup _ ih => exact .tup ih
theorem Fl.tr {d : D} (h : Fl d) : Tr d := by
  induction h with
  | non => exact .non
  | bl b => exact .bl b
  | int i => exact .int i
  | str x => exact .str x
  | tup _ ih => exact .tup ih
mutual
/-- what is flat stands under any owners -/
theorem Rep.flt {c c' : Cf} {A A' : Addr → Prop} {H : Hp} (ep : c'.p = c.p) (tr : ∀ a, A' a → ∃ o, H a = some o ∧ WO o) : ∀ {v : V} {d : D}, Rep c A H v d → Fl d → Rep c' A' H v d
  | _, _, .non, _ => .non
  | _, _, .bl b, _ => .bl b
  | _, _, .int i, _ => .int i
  | _, _, .str x, _ => .str x
  | _, _, .tup h n m r, f => .tup h (fun z => by obtain ⟨o, e, w⟩ := tr _ z; rw [h] at e; cases e; exact w) (by rw [ep]; exact m) (RepL.flt ep tr r (by cases f with | tup k => exact k))
  | _, _, .tupK h r, f => nomatch f
  | _, _, .lst h n m r, f => nomatch f
  | _, _, .dic h n m e r, f => nomatch f
  | _, _, .dit h n m e r, f => nomatch f
  | _, _, .obj g h n m e r, f => nomatch f
  | _, _, .pen, f => nomatch f
  | _, _, .clo h n m r, f => nomatch f
  | _, _, .err g h e r, f => nomatch f
  | _, _, .brw h n, f => nomatch f
theorem RepL.flt {c c' : Cf} {A A' : Addr → Prop} {H : Hp} (ep : c'.p = c.p) (tr : ∀ a, A' a → ∃ o, H a = some o ∧ WO o) : ∀ {vs : List V} {ds : List D}, RepL c A H vs ds → (∀ d ∈ ds, Fl d) → RepL c' A' H vs ds
  | _, _, .nil, _ => .nil
  | _, _, .cons h r, f => .cons (Rep.flt ep tr h (f _ List.mem_cons_self)) (RepL.flt ep tr r fun d z => f d (List.mem_cons_of_mem _ z))
end
mutual
/-- another layout: what was borrowed counts not -/
theorem Rep.re {c c' : Cf} {A : Addr → Prop} {H : Hp} (ep : c'.p = c.p) (em : c'.mg = c.mg) (ea : c'.lc.a = c.lc.a) : ∀ {v : V} {d : D}, Rep c A H v d → Nb d → Rep c' A H v d
  | _, _, .non, _ => .non
  | _, _, .bl b, _ => .bl b
  | _, _, .int i, _ => .int i
  | _, _, .str x, _ => .str x
  | _, _, .tup h n m r, f => .tup h n (by rw [ep]; exact m) (RepL.re ep em ea r (by cases f with | tup k => exact k))
  | _, _, .tupK h r, f => nomatch f
  | _, _, .lst h n m r, f => .lst h n (by rw [ep, ea]; exact m) (RepL.re ep em ea r (by cases f with | lst k => exact k))
  | _, _, .dic h n m e r, f => nomatch f
  | _, _, .dit h n m e r, f => nomatch f
  | _, _, .obj g h n m e r, f => .obj (by rw [em]; exact g) h n (by rw [ep]; exact m) e (RepL.re ep em ea r (by cases f with | obj k => exact k))
  | _, _, .pen, f => by rw [← ep]; exact .pen
  | _, _, .clo h n m r, f => nomatch f
  | _, _, .err g h e r, f => nomatch f
  | _, _, .brw h n, f => nomatch f
theorem RepL.re {c c' : Cf} {A : Addr → Prop} {H : Hp} (ep : c'.p = c.p) (em : c'.mg = c.mg) (ea : c'.lc.a = c.lc.a) : ∀ {vs : List V} {ds : List D}, RepL c A H vs ds → (∀ d ∈ ds, Nb d) → RepL c' A H vs ds
  | _, _, .nil, _ => .nil
  | _, _, .cons h r, f => .cons (Rep.re ep em ea h (f _ List.mem_cons_self)) (RepL.re ep em ea r fun d z => f d (List.mem_cons_of_mem _ z))
end
mutual
theorem TrR.rep {c : Cf} {H : Hp} (s : ∀ a, c.lc.S a → a ≠ c.p ∧ a ≠ c.lc.a) (n : ∀ vs, c.lc.G c.p ≠ some (.tup vs)) (g : Kp c.p c.lc.G H) : ∀ {v : V} {d : D}, TrR c.lc.S c.lc.G v d → Rep c (fun _ => False) H v d
  | _, _, .non => .non
  | _, _, .bl b => .bl b
  | _, _, .int i => .int i
  | _, _, .str x => .str x
  | _, _, .tup h r => .tup (g.k _ _ (fun e => n _ (e ▸ h)) trivial h) (fun z => z) (fun e => n _ (e ▸ h)) (TrRL.rep s n g r)
  | _, _, .lst h k r => .lst (g.k _ _ (s _ k).1 trivial h) (fun z => z) (s _ k) (TrRL.rep s n g r)
theorem TrRL.rep {c : Cf} {H : Hp} (s : ∀ a, c.lc.S a → a ≠ c.p ∧ a ≠ c.lc.a) (n : ∀ vs, c.lc.G c.p ≠ some (.tup vs)) (g : Kp c.p c.lc.G H) : ∀ {vs : List V} {ds : List D}, TrRL c.lc.S c.lc.G vs ds → RepL c (fun _ => False) H vs ds
  | _, _, .nil => .nil
  | _, _, .cons h r => .cons (TrR.rep s n g h) (TrRL.rep s n g r)
end
theorem LcOk.rep {K : PySem.W.Frag} {mg : Str → Option Value} {p : Addr} {lc : Lx} {H : Hp} (lo : LcOk K mg p lc H) {v : V} {d : D} (h : TrR lc.S lc.G v d) : Rep ⟨K, mg, p, lc⟩ (fun _ => False) H v d := TrR.rep (c := ⟨K, mg, p, lc⟩) lo.s lo.n lo.g h
/-! ### a def that is handed borrowed data and tells flat data -/
open Classical in
noncomputable def brwF (F : List D → Wd → Res) : List D → Wd → Res := fun ds w => match ds with
  | [.brw d] => (match F [d] w with
    | .ok e w' => if Fl e then .ok e w' else .bad
    | _ => .bad)
  | ds => F ds w
theorem brw_sp {K : PySem.W.Frag} {mg : Str → Option Value} {F : List D → Wd → Res} {vs : List V} {H : Hp} {Q : VK} {E : XK} (h : spV K mg 1 (brwF F) vs H Q E) : spV K mg 1 F vs H Q E := by
  obtain ⟨p, lc, A, w, ds, tr, ⟨pn, lo⟩, rl, hl, q⟩ := h
  obtain ⟨d, rfl⟩ : ∃ d, ds = [d] := by
    match ds, hl with
    | [d], _ => exact ⟨d, rfl⟩
  by_cases hb : ∃ d0, d = .brw d0
  · obtain ⟨d0, rfl⟩ := hb
    cases rl with
    | @cons v _ _ _ r1 r0 =>
      cases r0
      have hb : TrR lc.S lc.G v d0 := by
        generalize hx : D.brw d0 = x at r1
        cases r1 <;> cases hx
        assumption
      have r2 : Rep ⟨K, mg, p, lc⟩ (fun _ => False) H v d0 := lo.rep hb
      refine ⟨p, lc, fun _ => False, w, [d0], fun a z => z.elim, ⟨pn.less fun a z => z.elim, lo⟩, .cons r2 .nil, rfl, ?_⟩
      unfold brwF at q
      simp only at q
      cases z : F [d0] w with
      | bad => rw [z] at q; exact q
      | exc n fs w' => rw [z] at q; exact q.elim
      | ok e w' =>
        rw [z] at q
        simp only at q
        split at q
        · rename_i hf
          intro v' H' k pn' r'
          refine q v' H' k (pn.again pn') (Rep.flt rfl (fun a hA => ?_) r' hf)
          obtain ⟨o, e, wo⟩ := tr a hA
          exact ⟨o, k.k a o (fun z => pn.2.2.2.2.2.1 (by have z' : a = p := z; rw [← z']; exact hA)) wo.nt e, wo⟩
        · exact q.elim
  · refine ⟨p, lc, A, w, [d], tr, ⟨pn, lo⟩, rl, rfl, ?_⟩
    have : brwF F [d] w = F [d] w := by
      unfold brwF
      split
      · rename_i d0 e; exact absurd ⟨d0, by injection e⟩ hb
      · rfl
    rw [this] at q
    exact q
theorem Callee.brw {P : Program} {w : World} {K : PySem.W.Frag} {mg : Str → Option Value} {base : Heap} {x : Str} {k : Nat} {F : List D → Wd → Res} (h : Callee P w K mg base x k 1 F) : Callee P w K mg base x k 1 (brwF F) := by
  obtain ⟨f, fd, ps, h1, h2⟩ := h.ex
  exact ⟨f, fd, ps, h1.imp fun vs H Q E z => brw_sp z, h2⟩
end DL

set_option Elab.async false
set_option linter.all false
set_option maxRecDepth 100000
set_option maxHeartbeats 2000000
namespace DL
open PySem PySem.SeqAt PySem.Spec PyProof.Rows L2

/-! ### _law_spoil: all lists within a value get one more item -/
/-- v is, in G, a tree of at most n storeys, of at most L items each; its lists in S -/
inductive Rk (L : Nat) (S : Addr → Prop) (G : Hp) : Nat → V → Prop
  | non {n : Nat} : Rk L S G n .non
  | bl {n : Nat} (b : Bool) : Rk L S G n (.bl b)
  | int {n : Nat} (i : Int) : Rk L S G n (.int i)
  | str {n : Nat} (x : Str) : Rk L S G n (.str x)
  | tup {n : Nat} {a : Addr} {vs : List V} : G a = some (.tup vs) → vs.length ≤ L → (∀ v ∈ vs, Rk L S G n v) → Rk L S G (n + 1) (.ref a)
  | lst {n : Nat} {a : Addr} {vs : List V} : G a = some (.lst vs) → S a → vs.length ≤ L → (∀ v ∈ vs, Rk L S G n v) → Rk L S G (n + 1) (.ref a)
theorem Rk.up {L : Nat} {S : Addr → Prop} {G : Hp} {n : Nat} {v : V} (h : Rk L S G n v) : ∀ {m : Nat}, n ≤ m → Rk L S G m v := by
  induction h with
  | non => exact fun _ => .non
  | bl b => exact fun _ => .bl b
  | int i => exact fun _ => .int i
  | str x => exact fun _ => .str x
  | tup e l _ ih =>
    intro m hm
    obtain ⟨k, rfl⟩ : ∃ k, m = k + 1 := ⟨m - 1, by omega⟩
    exact .tup e l fun v z => ih v z (by omega)
  | lst e s l _ ih =>
    intro m hm
    obtain ⟨k, rfl⟩ : ∃ k, m = k + 1 := ⟨m - 1, by omega⟩
    exact .lst e s l fun v z => ih v z (by omega)
abbrev mores (j : Nat) : List V := List.replicate j (.str "more")
/-- H is G, but that the lists of S have got up to m more items -/
structure Gr (S : Addr → Prop) (G : Hp) (m : Nat) (H : Hp) : Prop where
  k : ∀ b o, G b = some o → ¬ S b → H b = some o
  s : ∀ b vs, S b → G b = some (.lst vs) → ∃ j, j ≤ m ∧ H b = some (.lst (vs ++ mores j))
theorem Gr.up {S : Addr → Prop} {G : Hp} {m m' : Nat} {H : Hp} (h : Gr S G m H) (l : m ≤ m') : Gr S G m' H := ⟨h.k, fun b vs s e => let ⟨j, h1, h2⟩ := h.s b vs s e; ⟨j, by omega, h2⟩⟩
def cost (L : Nat) (n : Nat) : V → Nat
  | .ref _ => (L + 1) ^ n
  | _ => 0
theorem cost_le (L n : Nat) (v : V) : cost L n v ≤ (L + 1) ^ n := by
  cases v <;> first | exact Nat.le_refl _ | exact Nat.zero_le _
def spSp (L N : Nat) : Sp := fun vs H Q _ => ∃ (n : Nat) (v : V) (S : Addr → Prop) (G : Hp) (m : Nat), n ≤ N ∧ vs = [v] ∧ (∀ b, S b → ∃ vs, G b = some (.lst vs)) ∧ Rk L S G n v ∧ Gr S G m H ∧ L + m + (L + 1) ^ n < sizeLine ∧
  ∀ H', Gr S G (m + cost L n v) H' → (∀ b, ¬ (S b ∧ Rk L S G n (.ref b)) → H' b = H b) → Q .non H'
/-- the reading of its body -/
abbrev tIsi (K : PySem.W.Frag) (T : String) : TE := tCB (rIsi K) (tCons (tVar 0) (tCons (tC (.ty T)) tNil))
abbrev tLoop (K : PySem.W.Frag) (sp : Sp) (i j : Nat) : TS := tFor (fun σ H R => iList K (tVar i) σ H R ∨ iTup K (tVar i) σ H R) (gName j) (tDrop (tCall sp [] E0 (tCons (tVar j) tNil)))
abbrev tSpoil (K : PySem.W.Frag) (sp : Sp) : TS := tSeq (tIfS (tOr (tB (tIsi K "list")) (tB (tIsi K "tuple"))) (tLoop K sp 0 1) tNext)
  (tIfS (tB (tIsi K "list")) (tDrop (tBM K "list" rAppend (tVar 0) (tCons (tC (.str "more")) tNil))) tNext)
theorem isi_of {K : PySem.W.Frag} {T t : String} {b : Bool} {x : V} {σ : L2.St} {H : Hp} {Q : Bool → Hp → Prop} (h0 : σ[0]? = some (some x)) (ty : TyX K H x (.type t)) (e : kitB t T = some b) (q : Q b H) : tB (tIsi K T) σ H Q :=
  ⟨x, h0, x, .ty T, _, _, b, rfl, .ty T, ty, kit_ty e, b, rfl, q⟩
theorem min_rank {L : Nat} {S : Addr → Prop} {G : Hp} {a : Addr} : ∀ {n : Nat}, Rk L S G n (.ref a) → ∃ k, k < n ∧ Rk L S G (k + 1) (.ref a) ∧ ¬ Rk L S G k (.ref a)
  | 0, h => by cases h
  | n + 1, h => by
    by_cases z : Rk L S G n (.ref a)
    · obtain ⟨k, h1, h2⟩ := min_rank z; exact ⟨k, by omega, h2⟩
    · exact ⟨n, by omega, h, z⟩
theorem pow_up {L a b : Nat} (h : a ≤ b) : (L + 1) ^ a ≤ (L + 1) ^ b := Nat.pow_le_pow_right (by omega) h
theorem pow_s (L k : Nat) : (L + 1) ^ (k + 1) = L * (L + 1) ^ k + (L + 1) ^ k := by
  rw [Nat.pow_succ, Nat.mul_comm, Nat.add_mul, Nat.one_mul]
/-- the loop over the items -/
theorem loop_ok {K : PySem.W.Frag} {L N i j : Nat} {S : Addr → Prop} {G H : Hp} {k m c : Nat} {xs : List V} {σ : L2.St} {D : Ends} {J : It → Prop}
    (hS : ∀ b, S b → ∃ vs, G b = some (.lst vs)) (hk : k ≤ N) (hij : i ≠ j) (hj : j < σ.length) (g : Gr S G m H) (hc : ∀ x (q : Nat), xs[q]? = some x → Rk L S G k x ∧ (q < c ∨ ∃ s, x = .str s)) (hb : L + m + c * (L + 1) ^ k + (L + 1) ^ k < sizeLine)
    (q : ∀ σ' H', Gr S G (m + c * (L + 1) ^ k) H' → (∀ b, ¬ (S b ∧ Rk L S G k (.ref b)) → H' b = H b) → σ'.length = σ.length → (∀ l, l ≠ j → σ'[l]? = σ[l]?) → D.nx σ' H') :
    let Pv : Nat → L2.St → Hp → Prop := fun t σ' H' => Gr S G (m + min t c * (L + 1) ^ k) H' ∧ (∀ b, ¬ (S b ∧ Rk L S G k (.ref b)) → H' b = H b) ∧ σ'.length = σ.length ∧ ∀ l, l ≠ j → σ'[l]? = σ[l]?
    Pv 0 σ H ∧ (∀ t x σ H, xs[t]? = some x → Pv t σ H → gName j x σ H fun σ2 H2 => tDrop (tCall (spSp L N) [] E0 (tCons (tVar j) tNil)) { D with nx := Pv (t + 1), ct := Pv (t + 1), bk := D.nx } σ2 H2) ∧ (∀ σ H, Pv xs.length σ H → D.nx σ H) := by
  intro Pv
  refine ⟨⟨by rw [Nat.zero_min, Nat.zero_mul]; exact g, fun _ _ => rfl, rfl, fun _ _ => rfl⟩, ?_, ?_⟩
  · rintro t x σ1 H1 hx ⟨g1, g2, g3, g4⟩
    obtain ⟨rx, hq⟩ := hc x t hx
    have hm : min t c * (L + 1) ^ k ≤ c * (L + 1) ^ k := Nat.mul_le_mul_right _ (Nat.min_le_right _ _)
    refine ⟨x, List.getElem?_set_self (by omega), k, x, S, G, _, hk, rfl, hS, rx, g1, by omega, fun H2 h1 h2 => ⟨h1.up ?_, fun b hb => (h2 b hb).trans (g2 b hb), by rw [List.length_set]; exact g3, fun l hl => by rw [List.getElem?_set_ne (Ne.symm hl)]; exact g4 l hl⟩⟩
    rcases hq with hq | ⟨s, rfl⟩
    · have e1 : min t c = t := Nat.min_eq_left (by omega)
      have e2 : min (t + 1) c = t + 1 := Nat.min_eq_left (by omega)
      rw [e1, e2, Nat.add_mul, Nat.one_mul, Nat.add_assoc]
      have := cost_le L k x
      omega
    · have : min t c ≤ min (t + 1) c := by omega
      have := Nat.mul_le_mul_right ((L + 1) ^ k) this
      show m + min t c * (L + 1) ^ k + 0 ≤ _
      omega
  · rintro σ1 H1 ⟨g1, g2, g3, g4⟩
    exact q σ1 H1 (g1.up (by
      have := Nat.mul_le_mul_right ((L + 1) ^ k) (Nat.min_le_right xs.length c)
      omega)) g2 g3 g4
theorem spoil_atom {K : PySem.W.Frag} {sp : Sp} {L n m : Nat} {S : Addr → Prop} {G H : Hp} {v : V} {Q : VK} (g : Gr S G m H) (q : ∀ H', Gr S G (m + cost L n v) H' → (∀ b, ¬ (S b ∧ Rk L S G n (.ref b)) → H' b = H b) → Q .non H')
    (t : String) (ty : ∀ H, TyX K H v (.type t)) (b1 : kitB t "list" = some false) (b2 : kitB t "tuple" = some false) (c0 : cost L n v = 0) : tSpoil K sp { nx := fun _ H' => Q .non H', rt := fun u H' => Q u H' } [some v, none] H := by
  refine isi_of rfl (ty H) b1 (iteF (isi_of rfl (ty H) b2 (iteF ?_)))
  refine isi_of rfl (ty H) b1 (iteF ?_)
  exact q H (g.up (by omega)) fun _ _ => rfl
theorem spoil_ok0 {P : Program} {w : World} {K : PySem.W.Frag} {mg : Str → Option Value} {base : Heap} {x qual : Str} {st : Stmt} {f : Addr} {fd : FuncData} {N0 ps : List Str} {kk L : Nat} {sp : Sp} (F : Fun K x qual st f fd) (Sc : FnScope N0 ps (defScope st)) (hN : N0.length = 2) (hps : ps.length = 1)
    (hb : ∀ (cdv : Value) (A : Around) (outer : List PySem.Env) (s : Shared) (H : Hp) (E : XK), Room kk (A.deeper (envOfC qual (defScope st) s.heap.objs.size f cdv)) → PSs (cxOf (L2.CX P w) P w K mg base N0 qual (defScope st) f cdv A outer s H E) (defBody st) (tSpoil K sp)) :
    FnOk P w K mg base (L2.CX P w) (kk + 1) f fd ps (spSp L 0) := by
  refine F.okX Sc (fun vs H Q E h => ?_) (fun cdv A outer s H vs Q E hr h => ⟨_, hb cdv A outer s H E hr, ?_⟩)
  · obtain ⟨_, _, _, _, _, _, rfl, _⟩ := h
    rw [hps]; rfl
  · obtain ⟨n, v, S, G, m, hn, rfl, hS, rk, g, hlen, q⟩ := h
    obtain ⟨n0, n1, rfl⟩ : ∃ n0 n1, N0 = [n0, n1] := by
      match N0, hN with
      | [n0, n1], _ => exact ⟨n0, n1, rfl⟩
    obtain rfl : n = 0 := by omega
    cases rk with
    | non => exact spoil_atom g q "NoneType" (fun H => .base .non) rfl rfl rfl
    | bl b => exact spoil_atom g q "bool" (fun H => .base (.bl b)) rfl rfl rfl
    | int i => exact spoil_atom g q "int" (fun H => .base (.int i)) rfl rfl rfl
    | str x => exact spoil_atom g q "str" (fun H => .base (.str x)) rfl rfl rfl
theorem spoil_ok {P : Program} {w : World} {K : PySem.W.Frag} {mg : Str → Option Value} {base : Heap} {x qual : Str} {st : Stmt} {f : Addr} {fd : FuncData} {N0 ps : List Str} {kk L N : Nat} (F : Fun K x qual st f fd) (Sc : FnScope N0 ps (defScope st)) (hN : N0.length = 2) (hps : ps.length = 1)
    (hb : ∀ (cdv : Value) (A : Around) (outer : List PySem.Env) (s : Shared) (H : Hp) (E : XK), Room kk (A.deeper (envOfC qual (defScope st) s.heap.objs.size f cdv)) → PSs (cxOf (L2.CX P w) P w K mg base N0 qual (defScope st) f cdv A outer s H E) (defBody st) (tSpoil K (spSp L N))) :
    FnOk P w K mg base (L2.CX P w) (kk + 1) f fd ps (spSp L (N + 1)) := by
  refine F.okX Sc (fun vs H Q E h => ?_) (fun cdv A outer s H vs Q E hr h => ⟨_, hb cdv A outer s H E hr, ?_⟩)
  · obtain ⟨_, _, _, _, _, _, rfl, _⟩ := h
    rw [hps]; rfl
  · obtain ⟨n, v, S, G, m, hn, rfl, hS, rk, g, hlen, q⟩ := h
    obtain ⟨n0, n1, rfl⟩ : ∃ n0 n1, N0 = [n0, n1] := by
      match N0, hN with
      | [n0, n1], _ => exact ⟨n0, n1, rfl⟩
    cases v with
    | non => exact spoil_atom g q "NoneType" (fun H => .base .non) rfl rfl rfl
    | bl b => exact spoil_atom g q "bool" (fun H => .base (.bl b)) rfl rfl rfl
    | int i => exact spoil_atom g q "int" (fun H => .base (.int i)) rfl rfl rfl
    | str x => exact spoil_atom g q "str" (fun H => .base (.str x)) rfl rfl rfl
    | ref a =>
      obtain ⟨k, hk, r1, r0⟩ := min_rank rk
      have hpow := pow_up (L := L) (show k + 1 ≤ n from hk)
      rw [pow_s] at hpow
      have up : ∀ b, ¬ (S b ∧ Rk L S G n (.ref b)) → ¬ (S b ∧ Rk L S G k (.ref b)) := fun b h z => h ⟨z.1, z.2.up (by omega)⟩
      have ha : ¬ (S a ∧ Rk L S G k (.ref a)) := fun z => r0 z.2
      cases r1 with
      | @tup _ _ ws e l hw =>
        have nS : ¬ S a := fun z => by obtain ⟨vs, z⟩ := hS a z; rw [e] at z; cases z
        have hH := g.k a _ e nS
        have hmul : ws.length * (L + 1) ^ k ≤ L * (L + 1) ^ k := Nat.mul_le_mul_right _ l
        refine isi_of rfl (.base (.tup hH)) (show kitB "tuple" "list" = some false from rfl) (iteF (isi_of rfl (.base (.tup hH)) (show kitB "tuple" "tuple" = some true from rfl) (iteT ?_)))
        refine .inr ⟨_, rfl, a, rfl, ⟨ws, SqT.of hH⟩, ?_⟩
        obtain ⟨p1, p2, p3⟩ := loop_ok (K := K) (L := L) (N := N) (i := 0) (j := 1) (S := S) (G := G) (H := H) (k := k) (m := m) (c := ws.length) (xs := ws) (σ := [some (.ref a), none])
          (D := { nx := fun σ H => tIfS (tB (tIsi K "list")) (tDrop (tBM K "list" rAppend (tVar 0) (tCons (tC (.str "more")) tNil))) tNext { nx := fun _ H' => Q .non H', rt := fun u H' => Q u H' } σ H, rt := fun u H' => Q u H' }) (J := fun _ => True) hS (by omega) (by decide) (by show 1 < 2; decide) g
          (fun x t hx => ⟨hw x (List.mem_of_getElem? hx), .inl (List.getElem?_eq_some_iff.mp hx).1⟩) (by omega) (fun σ' H' g' f' l' s' => by
            have hH' : H' a = some (.tup ws) := (f' a ha).trans hH
            refine isi_of ((s' 0 (by decide)).trans rfl) (.base (.tup hH')) (show kitB "tuple" "list" = some false from rfl) (iteF ?_)
            refine q H' (g'.up ?_) fun b hb => f' b (up b hb)
            show _ ≤ m + (L + 1) ^ n
            omega)
        exact for_tup (K := K) (a := a) (xs := ws) _ p1 (fun t σ' H' _ z => SqT.of ((z.2.1 a ha).trans hH)) p2 p3
      | @lst _ _ ws e sa l hw =>
        obtain ⟨j, hj, hH⟩ := g.s a ws sa e
        have hmul : ws.length * (L + 1) ^ k ≤ L * (L + 1) ^ k := Nat.mul_le_mul_right _ l
        have hp1 : 1 ≤ (L + 1) ^ k := Nat.one_le_pow _ _ (by omega)
        refine isi_of rfl (.base (.lst hH)) (show kitB "list" "list" = some true from rfl) (iteT (iteT ?_))
        refine .inl ⟨_, rfl, a, rfl, ⟨_, SqL.of hH⟩, ?_⟩
        obtain ⟨p1, p2, p3⟩ := loop_ok (K := K) (L := L) (N := N) (i := 0) (j := 1) (S := S) (G := G) (H := H) (k := k) (m := m) (c := ws.length) (xs := ws ++ mores j) (σ := [some (.ref a), none])
          (D := { nx := fun σ H => tIfS (tB (tIsi K "list")) (tDrop (tBM K "list" rAppend (tVar 0) (tCons (tC (.str "more")) tNil))) tNext { nx := fun _ H' => Q .non H', rt := fun u H' => Q u H' } σ H, rt := fun u H' => Q u H' }) (J := fun _ => True) hS (by omega) (by decide) (by show 1 < 2; decide) g
          (fun x t hx => by
            rw [List.getElem?_append] at hx
            split at hx
            · rename_i ht; exact ⟨hw x (List.mem_of_getElem? hx), .inl ht⟩
            · have := List.mem_of_getElem? hx
              rw [List.mem_replicate] at this
              rw [this.2]; exact ⟨.str _, .inr ⟨_, rfl⟩⟩) (by omega) (fun σ' H' g' f' l' s' => by
            have hH' : H' a = some (.lst (ws ++ mores j)) := (f' a ha).trans hH
            refine isi_of ((s' 0 (by decide)).trans rfl) (.base (.lst hH')) (show kitB "list" "list" = some true from rfl) (iteT ?_)
            refine ⟨_, (s' 0 (by decide)).trans rfl, .inl ⟨rfl, _, SqL.of hH'⟩, a, _, .str "more", rfl, rfl, hH', ?_, ?_⟩
            · rw [List.length_append, List.length_replicate]; omega
            · refine q _ ⟨fun b o eb sb => ?_, fun b vs sb eb => ?_⟩ fun b hb => ?_
              · rw [upd_ne (fun z => sb (by rw [z]; exact sa))]; exact g'.k b o eb sb
              · by_cases z : b = a
                · subst z
                  rw [e] at eb
                  cases eb
                  refine ⟨j + 1, ?_, ?_⟩
                  · show _ ≤ m + (L + 1) ^ n; omega
                  · rw [upd_same, List.append_assoc, ← List.replicate_succ']
                · obtain ⟨j', h1, h2⟩ := g'.s b vs sb eb
                  refine ⟨j', ?_, by rw [upd_ne z]; exact h2⟩
                  show _ ≤ m + (L + 1) ^ n; omega
              · rw [upd_ne (fun z => hb (by rw [z]; exact ⟨sa, rk⟩))]; exact f' b (up b hb))
        exact for_list (K := K) (a := a) (xs := ws ++ mores j) _ p1 (fun t σ' H' _ z => SqL.of ((z.2.1 a ha).trans hH)) p2 p3
    | _ => nomatch rk
/-- what the law's own spoil promises -/
structure SpoilC (P : Program) (w : World) (K : PySem.W.Frag) (mg : Str → Option Value) (base : Heap) (x : Str) (k L N : Nat) : Prop where
  ex : ∃ (f : Addr) (fd : FuncData) (ps : List Str), FnOk P w K mg base (L2.CX P w) k f fd ps (spSp L N) ∧ mg x = some (.ref f) ∧ PySem.W.keepIn K (.ref f) = true ∧ Binds K fd ps []
abbrev spF : Sp := fun _ _ _ _ => False
theorem fnOk_F {P : Program} {w : World} {K : PySem.W.Frag} {mg : Str → Option Value} {base : Heap} {CX : CXT} {k : Nat} {f : Addr} {fd : FuncData} {ps : List Str} : FnOk P w K mg base CX k f fd ps spF := ⟨fun _ _ _ _ h => h.elim, fun _ _ _ _ _ _ _ _ _ _ _ _ _ h => h.elim⟩
end DL

set_option Elab.async false
set_option linter.all false
set_option maxRecDepth 100000
set_option maxHeartbeats 2000000
namespace DL
open PySem PySem.SeqAt PySem.Spec PyProof.Rows L2

/-! ### a law's body: only that it ends with True -/
def tVSL (K : PySem.W.Frag) (mg : Str → Option Value) (f : SM) : TS := fun D σ H =>
  ∃ (B : Bs) (A : Addr → Prop) (r : Env) (w : Wd), StOk K mg B A σ H r ∧ PenAt B.p B.lc A H w ∧ (∃ w', f r w = .rt (.bl true) w') ∧ ∀ H', D.rt (.bl true) H'
abbrev VSsL (X : Cx) (sts : List Stmt) (f : SM) : Prop := PSs X sts (tVSL X.K X.mg f)
section
variable {X : Cx} {W : WX} {st : Stmt} {sts : List Stmt} {f g : SM}
theorem vsl_of (h : VSs X W sts f) : VSsL X sts f := weakSs h fun D σ H ⟨B, A, r, w, hs, hp, ⟨w', e⟩, q⟩ => ⟨B, A, r, w, hs, hp, by
  rw [e]
  intro v H' k p rv
  cases rv
  exact q H'⟩
theorem vsl_cons (h1 : VS X W st f) (h2 : VSsL X sts g) : VSsL X (st :: sts) (sSeq f g) := weakSs (pss_cons h1 h2) fun D σ H ⟨B, A, r, w, hs, hp, ⟨w', e⟩, q⟩ => ⟨B, A, r, w, hs, hp, by
  have e : (f r w).seq g = .rt (.bl true) w' := e
  cases z : f r w with
  | nx r' w1 => rw [z] at e; exact fun σ' H' A' hs' hp' => ⟨B, A', r', w1, hs', hp', ⟨w', e⟩, q⟩
  | bk r' w1 => rw [z] at e; cases e
  | ct r' w1 => rw [z] at e; cases e
  | rt d w1 =>
    rw [z] at e
    cases e
    intro v H' k p rv
    cases rv
    exact q H'
  | exc n fs r' w1 => rw [z] at e; cases e
  | bad => rw [z] at e; cases e⟩
end
/-! ### data of bounded height and width -/
inductive TrD (L : Nat) : Nat → D → Prop
  | non {n : Nat} : TrD L n .non
  | bl {n : Nat} (b : Bool) : TrD L n (.bl b)
  | int {n : Nat} (i : Int) : TrD L n (.int i)
  | str {n : Nat} (x : Str) : TrD L n (.str x)
  | tup {n : Nat} {l : List D} : l.length ≤ L → (∀ d ∈ l, TrD L n d) → TrD L (n + 1) (.tup l)
  | lst {n : Nat} {l : List D} : l.length ≤ L → (∀ d ∈ l, TrD L n d) → TrD L (n + 1) (.lst l)
theorem TrD.tr {L n : Nat} {d : D} (h : TrD L n d) : Tr d := by
  induction h with
  | non => exact .non
  | bl b => exact .bl b
  | int i => exact .int i
  | str x => exact .str x
  | tup _ _ ih => exact .tup ih
  | lst _ _ ih => exact .lst ih
mutual
theorem Rep.trr {c : Cf} {A S : Addr → Prop} {H : Hp} (k : ∀ a vs, H a = some (.lst vs) → ¬ A a → a ≠ c.p ∧ a ≠ c.lc.a → S a) : ∀ {v : V} {d : D}, Rep c A H v d → Tr d → TrR S H v d
  | _, _, .non, _ => .non
  | _, _, .bl b, _ => .bl b
  | _, _, .int i, _ => .int i
  | _, _, .str x, _ => .str x
  | _, _, .tup h n m r, f => .tup h (RepL.trr k r (by cases f with | tup k => exact k))
  | _, _, .tupK h r, f => nomatch f
  | _, _, .lst h n m r, f => .lst h (k _ _ h n m) (RepL.trr k r (by cases f with | lst k => exact k))
  | _, _, .dic h n m e r, f => nomatch f
  | _, _, .dit h n m e r, f => nomatch f
  | _, _, .obj g h n m e r, f => nomatch f
  | _, _, .pen, f => nomatch f
  | _, _, .clo h n m r, f => nomatch f
  | _, _, .err g h e r, f => nomatch f
  | _, _, .brw h n, f => nomatch f
theorem RepL.trr {c : Cf} {A S : Addr → Prop} {H : Hp} (k : ∀ a vs, H a = some (.lst vs) → ¬ A a → a ≠ c.p ∧ a ≠ c.lc.a → S a) : ∀ {vs : List V} {ds : List D}, RepL c A H vs ds → (∀ d ∈ ds, Tr d) → TrRL S H vs ds
  | _, _, .nil, _ => .nil
  | _, _, .cons h r, f => .cons (Rep.trr k h (f _ List.mem_cons_self)) (RepL.trr k r fun d z => f d (List.mem_cons_of_mem _ z))
end
theorem TrRL.at {S : Addr → Prop} {G : Hp} : ∀ {vs : List V} {ds : List D}, TrRL S G vs ds → vs.length = ds.length ∧ ∀ v ∈ vs, ∃ d ∈ ds, TrR S G v d
  | _, _, .nil => ⟨rfl, fun v h => by cases h⟩
  | _, _, .cons h r => by
    obtain ⟨h1, h2⟩ := TrRL.at r
    refine ⟨by rw [List.length_cons, List.length_cons, h1], fun u hu => ?_⟩
    cases hu with
    | head => exact ⟨_, List.mem_cons_self, h⟩
    | tail _ hu => obtain ⟨d, hd, q⟩ := h2 u hu; exact ⟨d, List.mem_cons_of_mem _ hd, q⟩
theorem TrR.rk {L : Nat} {S : Addr → Prop} {G G' : Hp} (kt : ∀ a vs, G a = some (.tup vs) → G' a = some (.tup vs)) (kl : ∀ a vs, S a → G a = some (.lst vs) → G' a = some (.lst vs)) : ∀ {n : Nat} {v : V} {d : D}, TrD L n d → TrR S G v d → Rk L S G' n v := by
  intro n v d h
  induction h generalizing v with
  | non => intro r; cases r; exact .non
  | bl b => intro r; cases r; exact .bl b
  | int i => intro r; cases r; exact .int i
  | str x => intro r; cases r; exact .str x
  | tup hl _ ih =>
    intro r
    cases r with
    | tup e rl =>
      obtain ⟨h1, h2⟩ := TrRL.at rl
      exact .tup (kt _ _ e) (by omega) fun u hu => let ⟨d, hd, q⟩ := h2 u hu; ih d hd q
  | lst hl _ ih =>
    intro r
    cases r with
    | lst e s rl =>
      obtain ⟨h1, h2⟩ := TrRL.at rl
      exact .lst (kl _ _ s e) s (by omega) fun u hu => let ⟨d, hd, q⟩ := h2 u hu; ih d hd q
/-! ### the seal: the list of a slot, with all that is in it, is lent -/
structure SealOk (i : Nat) (r : Env) : Prop where
  v : ∃ ds, r[i]? = some (some (.lst ds, true)) ∧ ∀ d ∈ ds, Tr d
  o : ∀ j d o, r[j]? = some (some (d, o)) → j ≠ i → (o = false ∧ (Fl d ∨ d = .pen)) ∨ (o = true ∧ ∃ l, d = .lst l ∧ ∀ e ∈ l, Fl e)
def sealE (i : Nat) (r : Env) : Env := r.mapIdx fun j x => match x with
  | some (d, _) => if j = i then some (.brw d, false) else some (d, false)
  | none => none
theorem seal_at {i j : Nat} {r : Env} {d : D} {o : Bool} (h : (sealE i r)[j]? = some (some (d, o))) : o = false ∧ ∃ d' o', r[j]? = some (some (d', o')) ∧ ((j = i ∧ d = .brw d') ∨ (j ≠ i ∧ d = d')) := by
  unfold sealE at h
  rw [List.getElem?_mapIdx] at h
  cases e : r[j]? with
  | none => rw [e] at h; cases h
  | some x =>
    rw [e] at h
    cases x with
    | none => cases h
    | some x =>
      obtain ⟨d', o'⟩ := x
      simp only [Option.map_some] at h
      split at h
      · rename_i hj; cases h; exact ⟨rfl, _, _, rfl, .inl ⟨hj, rfl⟩⟩
      · rename_i hj; cases h; exact ⟨rfl, _, _, rfl, .inr ⟨hj, rfl⟩⟩
section
variable {K : PySem.W.Frag} {mg : Str → Option Value} {B : Bs} {A : Addr → Prop} {σ : L2.St} {H : Hp} {r : Env} {w : Wd} {i : Nat}
def sealA (p la : Addr) (i : Nat) (σ : L2.St) (H : Hp) (r : Env) : Addr → Prop := fun a => (∃ o, H a = some o ∧ WO o) ∧ a ≠ p ∧ a ≠ la ∧ ¬ ∃ j d, j ≠ i ∧ r[j]? = some (some (d, true)) ∧ σ[j]? = some (some (.ref a))
def sealS (p la : Addr) (i : Nat) (σ : L2.St) (H : Hp) (r : Env) : Addr → Prop := fun a => sealA p la i σ H r a ∧ ∃ vs, H a = some (.lst vs)
def Bs.seal (B : Bs) (i : Nat) (σ : L2.St) (H : Hp) (r : Env) : Bs := ⟨B.p, ⟨B.lc.a, B.lc.T, H, sealS B.p B.lc.a i σ H r⟩, sealA B.p B.lc.a i σ H r, H⟩
theorem StOk.seal (hs : StOk K mg B A σ H r) (hp : PenAt B.p B.lc A H w) (ok : SealOk i r) : StOk K mg (B.seal i σ H r) (sealA B.p B.lc.a i σ H r) σ H (sealE i r) ∧ PenAt B.p (B.seal i σ H r).lc (sealA B.p B.lc.a i σ H r) H w := by
  obtain ⟨⟨wo, tb⟩, l, h1, h2, h3, h4, h5⟩ := hp
  have nb : ∀ {a : Addr}, A a → a ≠ B.p := fun hA z => hs.np (z ▸ hA)
  refine ⟨⟨.refl, hs.tp, fun a z => z.1, fun a z => z, fun a z => let ⟨o, e, n⟩ := z.1; ⟨o, e, n.nt⟩, fun a z => .inl z, fun z => z.2.1 rfl, fun j d e => ?_, fun j d e => ?_, fun j m d d2 a e => ?_, ?_, ⟨⟨hs.tq.l.t, .refl, fun a z => ⟨z.1.2.1, z.1.2.2.1⟩, fun vs e => ?_⟩, ⟨_, h2, trivial⟩, fun z => z.2.2.1 rfl⟩⟩, ⟨⟨wo, tb⟩, l, h1, h2, fun z => z.2.2.1 rfl, fun z => z.2.1 rfl, h5⟩⟩
  · obtain ⟨_, d', o', e1, e2⟩ := seal_at e
    rcases e2 with ⟨rfl, rfl⟩ | ⟨hj, rfl⟩
    · obtain ⟨ds, g1, g2⟩ := ok.v
      rw [g1] at e1
      cases e1
      obtain ⟨a, s1, hA, f0, vs, r1, r2⟩ := hs.ow _ _ g1
      refine ⟨.ref a, s1, .brw ?_ (fun z => by cases z)⟩
      have Sa : sealS B.p B.lc.a j σ H r a := by
        refine ⟨⟨⟨_, r1, trivial⟩, nb hA, hs.nl hA, ?_⟩, vs, r1⟩
        rintro ⟨j2, d2, hj2, q1, q2⟩
        exact hj2 (hs.ne _ _ _ _ _ q1 g1 q2 s1)
      refine .lst r1 Sa (RepL.trr (fun b us hb nA m => ⟨⟨⟨_, hb, trivial⟩, m.1, m.2, ?_⟩, us, hb⟩) r2 g2)
      rintro ⟨j2, d2, hj2, q1, q2⟩
      obtain ⟨b2, t1, t2, _⟩ := hs.ow _ _ q1
      rw [q2] at t1
      cases t1
      exact nA t2
    · rcases ok.o j d o' e1 hj with ⟨rfl, hd⟩ | ⟨rfl, l0, rfl, hl⟩
      · obtain ⟨v, s1, rv⟩ := hs.pl j d e1
        refine ⟨v, s1, ?_⟩
        rcases hd with hd | rfl
        · exact Rep.flt (c := B.cf K mg) (c' := (B.seal i σ H r).cf K mg) (A' := sealA B.p B.lc.a i σ H r) rfl (fun a z => z.1) rv hd
        · cases rv; exact .pen
      · obtain ⟨a, s1, hA, f0, vs, r1, r2⟩ := hs.ow _ _ e1
        exact ⟨.ref a, s1, .lst r1 (fun z => z.2.2.2 ⟨j, _, hj, e1, s1⟩) ⟨nb hA, hs.nl hA⟩ (RepL.flt (c := B.cf K mg) (c' := (B.seal i σ H r).cf K mg) (A' := sealA B.p B.lc.a i σ H r) rfl (fun a z => z.1) r2 hl)⟩
  · have := (seal_at e).1; cases this
  · have := (seal_at e).1; cases this
  · show (sealE i r).length = _
    unfold sealE
    rw [List.length_mapIdx]; exact hs.ln
  · have e : H B.p = some (.tup vs) := e
    rw [h1] at e; cases e
/-! ### behind the spoil -/
structure SpOk (L N i iv : Nat) (r : Env) : Prop where
  v : ∃ ds, r[i]? = some (some (.brw (.lst ds), false)) ∧ ds.length ≤ L ∧ ∀ d ∈ ds, TrD L N d
  o : ∀ j d o, r[j]? = some (some (d, o)) → j ≠ i → j ≠ iv → o = false ∧ Nb d
  l : iv < r.length
def spE (i iv : Nat) (r : Env) : Env := (r.set i none).set iv none
theorem sp_at {i iv j : Nat} {r : Env} {x : D × Bool} (h : (spE i iv r)[j]? = some (some x)) : j ≠ i ∧ j ≠ iv ∧ r[j]? = some (some x) := by
  unfold spE at h
  rcases set_at h with ⟨_, z⟩ | ⟨n, z⟩
  · cases z
  · rcases set_at z with ⟨_, z⟩ | ⟨n2, z⟩
    · cases z
    · exact ⟨n2, n, z⟩
theorem tabs_gr {T : List (Addr × Str)} {S : Addr → Prop} {m : Nat} {H H' : Hp} (hS : ∀ b, S b → ∃ vs, H b = some (.lst vs)) (g : Gr S H m H') (h : LamX.Tabs T H) : LamX.Tabs T H' := fun x hx => by
  obtain ⟨ps, h1, h2, h3⟩ := h x hx
  have nS : ∀ {b : Addr} {o : HO}, H b = some o → (∀ vs, o ≠ .lst vs) → ¬ S b := fun e n z => by
    obtain ⟨vs, q⟩ := hS _ z
    rw [e] at q; cases q; exact n _ rfl
  refine ⟨ps, g.k _ _ h1 (nS h1 fun vs z => by cases z), h2, fun pos cv e => ?_⟩
  obtain ⟨c, e1, e2⟩ := h3 pos cv e
  exact ⟨c, e1, g.k _ _ e2 (nS e2 fun vs z => by cases z)⟩
theorem StOk.unseal {S : Addr → Prop} {L N iv m : Nat} {H' : Hp} {σ' : L2.St} (hs : StOk K mg B A σ H r) (hp : PenAt B.p B.lc A H w) (ok : SpOk L N i iv r) (hSA : ∀ a, S a → A a) (hS : ∀ b, S b → ∃ vs, H b = some (.lst vs)) (g : Gr S H m H') (hl : σ'.length = σ.length) (hσ : ∀ j, j ≠ iv → σ'[j]? = σ[j]?) :
    StOk K mg ⟨B.p, ⟨B.lc.a, B.lc.T, H', fun _ => False⟩, A, H'⟩ A σ' H' (spE i iv r) ∧ PenAt B.p ⟨B.lc.a, B.lc.T, H', fun _ => False⟩ A H' w := by
  obtain ⟨⟨wo, tb⟩, l, h1, h2, h3, h4, h5⟩ := hp
  have p1 : H' B.p = _ := g.k _ _ h1 fun z => h4 (hSA _ z)
  have p2 : H' B.lc.a = _ := g.k _ _ h2 fun z => h3 (hSA _ z)
  have tr : ∀ a, A a → ∃ o, H' a = some o ∧ WO o := fun a z => by
    obtain ⟨o, e, n⟩ := hs.tr a z
    by_cases hz : S a
    · obtain ⟨vs, e2⟩ := hS a hz
      obtain ⟨j, _, e3⟩ := g.s a vs hz e2
      exact ⟨_, e3, trivial⟩
    · exact ⟨o, g.k _ _ e hz, n⟩
  refine ⟨⟨.refl, ⟨_, p1, trivial⟩, tr, fun a z => z, fun a z => let ⟨o, e, n⟩ := tr a z; ⟨o, e, n.nt⟩, fun a z => .inl z, hs.np, fun j d e => ?_, fun j d e => ?_, fun j m d d2 a e => ?_, ?_, ⟨⟨hs.tq.l.t, .refl, fun a z => z.elim, fun vs e => ?_⟩, ⟨_, p2, trivial⟩, h3⟩⟩, ⟨⟨wo, tabs_gr hS g tb⟩, l, p1, p2, h3, h4, h5⟩⟩
  · obtain ⟨n1, n2, e⟩ := sp_at e
    obtain ⟨_, nb⟩ := ok.o j d false e n1 n2
    obtain ⟨v, s1, rv⟩ := hs.pl j d e
    exact ⟨v, (hσ j n2).trans s1, (Rep.re (c := B.cf K mg) (c' := Bs.cf ⟨B.p, ⟨B.lc.a, B.lc.T, H', fun _ => False⟩, A, H'⟩ K mg) rfl rfl rfl rv nb).keepA fun b o nA _ _ eb => g.k b o eb fun z => nA (hSA b z)⟩
  · obtain ⟨n1, n2, e⟩ := sp_at e
    obtain ⟨z, _⟩ := ok.o j d true e n1 n2
    cases z
  · obtain ⟨n1, n2, e⟩ := sp_at e
    obtain ⟨z, _⟩ := ok.o j d true e n1 n2
    cases z
  · unfold spE
    rw [List.length_set, List.length_set, hl]; exact hs.ln
  · have e : H' B.p = some (.tup vs) := e
    rw [p1] at e; cases e
end
open Classical in
noncomputable def sDeep (L N i iv : Nat) (fm fr : SM) : SM := fun r w => if SealOk i r then (match fm (sealE i r) w with
  | .nx r2 w2 => if SpOk L N i iv r2 then fr (spE i iv r2) w2 else .bad
  | _ => .bad) else .bad
theorem vs_deep {X : Cx} {W : WX} {L N i iv : Nat} {mid sfor : Stmt} {rest : List Stmt} {fm fr : SM} (hN : L + L * (L + 1) ^ N + (L + 1) ^ N < sizeLine) (hi : i ≠ iv) (hm : VS X W mid fm) (hf : PS X sfor (tLoop X.K (spSp L N) i iv)) (hr : VSsL X rest fr) : VSsL X (mid :: sfor :: rest) (sDeep L N i iv fm fr) :=
  weakSs (pss_cons hm (pss_cons hf hr)) fun D σ H ⟨B, A, r, w, hs, hp, ⟨w', e⟩, q⟩ => by
  unfold sDeep at e
  split at e
  · rename_i so
    obtain ⟨hs1, hp1⟩ := hs.seal hp so
    refine ⟨_, _, _, w, hs1, hp1, ?_⟩
    split at e
    · rename_i r2 w2 e2
      rw [e2]
      intro σ2 H2 A2 hs2 hp2
      split at e
      · rename_i sp
        obtain ⟨ds, g1, g2, g3⟩ := sp.v
        obtain ⟨v, s1, rv⟩ := hs2.pl i _ g1
        obtain ⟨a, vs, rfl, ea, Sa, rl⟩ : ∃ a vs, v = .ref a ∧ (B.seal i σ H r).lc.G a = some (.lst vs) ∧ (B.seal i σ H r).lc.S a ∧ TrRL (B.seal i σ H r).lc.S (B.seal i σ H r).lc.G vs ds := by
          generalize hx : DL.D.brw (.lst ds) = x at rv
          cases rv <;> cases hx
          rename_i n h
          cases h with | lst e s rl => exact ⟨_, _, rfl, e, s, rl⟩
        have kp : Kp B.p H H2 := hs2.kp
        have SA : ∀ b, sealS B.p B.lc.a i σ H r b → A2 b := fun b z => hs2.a0 b z.1
        have kl : ∀ b us, sealS B.p B.lc.a i σ H r b → H b = some (.lst us) → H2 b = some (.lst us) := fun b us s e => kp.k b _ s.1.2.1 trivial e
        have kt : ∀ b us, H b = some (.tup us) → H2 b = some (.tup us) := fun b us e => kp.k b _ (fun z => by have := hp.2.2.1; rw [← z, e] at this; cases this) trivial e
        have hS : ∀ b, sealS B.p B.lc.a i σ H r b → ∃ us, H2 b = some (.lst us) := fun b s => by obtain ⟨us, e⟩ := s.2; exact ⟨us, kl b us s e⟩
        obtain ⟨h1, h2⟩ := TrRL.at rl
        have hel : ∀ u ∈ vs, Rk L (sealS B.p B.lc.a i σ H r) H2 N u := fun u hu => by
          obtain ⟨d, hd, t⟩ := h2 u hu
          exact TrR.rk kt kl (g3 d hd) t
        have ea2 : H2 a = some (.lst vs) := kl a vs Sa ea
        obtain ⟨k, hk, r1, r0⟩ := min_rank (Rk.lst ea2 Sa (by omega) hel)
        have hel2 : ∀ u ∈ vs, Rk L (sealS B.p B.lc.a i σ H r) H2 k u := by
          cases r1 with
          | tup e _ _ => rw [ea2] at e; cases e
          | lst e _ _ h => rw [ea2] at e; cases e; exact h
        have hpow := pow_up (L := L) (show k ≤ N by omega)
        have hmul := Nat.mul_le_mul (show vs.length ≤ L by omega) hpow
        have gr0 : Gr (sealS B.p B.lc.a i σ H r) H2 0 H2 := ⟨fun b o e _ => e, fun b us _ e => ⟨0, Nat.le_refl _, by rw [e]; show _ = some (HO.lst (us ++ [])); rw [List.append_nil]⟩⟩
        obtain ⟨p1, p2, p3⟩ := loop_ok (K := X.K) (L := L) (N := N) (i := i) (j := iv) (S := sealS B.p B.lc.a i σ H r) (G := H2) (H := H2) (k := k) (m := 0) (c := vs.length) (xs := vs) (σ := σ2)
          (D := { D with nx := tVSL X.K X.mg fr D }) (J := fun _ => True) hS (by omega) hi (by rw [← hs2.ln]; exact sp.l) gr0
          (fun x t hx => ⟨hel2 x (List.mem_of_getElem? hx), .inl (List.getElem?_eq_some_iff.mp hx).1⟩) (by omega) (fun σ' H' g' f' l' s' => by
            obtain ⟨hs3, hp3⟩ := hs2.unseal hp2 sp SA hS g' l' s'
            exact ⟨_, _, _, w2, hs3, hp3, ⟨w', e⟩, q⟩)
        refine .inl ⟨_, s1, a, rfl, ⟨vs, SqL.of ea2⟩, ?_⟩
        exact for_list (K := X.K) (a := a) (xs := vs) _ p1 (fun t σ' H' _ z => SqL.of ((z.2.1 a fun y => r0 y.2).trans ea2)) p2 p3
      · cases e
    · cases e
  · cases e
section
variable {P : Program} {w : World} {K : PySem.W.Frag} {mg : Str → Option Value} {base : Heap}
theorem law_okL {st : Stmt} {f : Addr} {fd : FuncData} {N ps : List Str} {k : Nat} {g : SM} (F : Fun K "law" "law" st f fd) (S : FnScope N ps (defScope st)) (hN : 2 ≤ N.length) (hps : ps.length = 1)
    (hb : ∀ (cdv : Value) (A : Around) (outer : List PySem.Env) (s : Shared) (H : Hp) (E : XK), InTF K cdv "law" → Room k (A.deeper (envOfC "law" (defScope st) s.heap.objs.size f cdv)) → PSs (cxOf (L2.CX P w) P w K mg base N "law" (defScope st) f cdv A outer s H E) (defBody st)
      (tSeq (tAsg (tCall (spPen K) [] E0 (tCons (tVar 0) tNil)) (gName 1)) (tVSL K mg g)))
    (plain : ∀ w : Wd, ∃ w', (g (lawE N.length) w).res = .ok (.bl true) w') : FnOk P w K mg base (L2.CX P w) (k + 1) f fd ps (spLaw K) := by
  obtain ⟨oc, od, kV, doc, pm, an, cdv, ct, osl, rfl, lk, hcd⟩ := F.ex
  refine fn_of lk hcd S (fun vs H Q E h => ?_) (fun A outer s H vs Q E hr h => ⟨_, hb cdv A outer s H E (show InTF K cdv "law" from inTF lk hcd) hr, ?_⟩)
  · obtain ⟨_, _, rfl, _⟩ := h
    rw [hps]; rfl
  · obtain ⟨x, ns, rfl, ⟨hS, hT⟩, hl, q⟩ := h
    obtain ⟨n0, n1, N2, rfl⟩ : ∃ n0 n1 N2, N = n0 :: n1 :: N2 := by
      match N, hN with
      | n0 :: n1 :: N2, _ => exact ⟨n0, n1, N2, rfl⟩
    refine ⟨.ref x, rfl, x, ns, rfl, hS, hl, fun p lc w0 H' sm hp hlc ne => ?_⟩
    have e1 : (L2.start (n0 :: n1 :: N2) [.ref x]).set 1 (some (.ref p)) = some (.ref x) :: some (.ref p) :: List.replicate N2.length none := by
      unfold L2.start
      rfl
    show tVSL K mg g _ ((L2.start (n0 :: n1 :: N2) [.ref x]).set 1 (some (.ref p))) H'
    rw [e1]
    refine ⟨⟨p, ⟨lc, TK K, H', fun _ => False⟩, fun _ => False, H'⟩, fun _ => False, lawE (n0 :: n1 :: N2).length, w0, ⟨.refl, ⟨_, hp, trivial⟩, fun _ z => z.elim, fun _ z => z, fun _ z => z.elim, fun _ z => z.elim, fun z => z, fun i d e => ?_, fun i d e => ?_, fun i j d d' b e => ?_, ?_, ⟨⟨rfl, .refl, fun _ z => z.elim, fun vs e => by have e' : H' p = some (.tup vs) := e; rw [hp] at e'; cases e'⟩, ⟨_, hlc, trivial⟩, fun z => z⟩⟩, ⟨⟨w0.isOk, hT.ext sm⟩, w0.cl, hp, hlc, fun z => z, fun z => z, ne⟩, ?_⟩
    · cases i with
      | zero => cases e
      | succ i => cases i with
        | zero => cases e; exact ⟨_, rfl, .pen⟩
        | succ i =>
          have e : (List.replicate N2.length (none : Slot))[i]? = some (some (d, false)) := e
          rw [List.getElem?_replicate] at e
          split at e <;> cases e
    · cases i with
      | zero => cases e
      | succ i => cases i with
        | zero => cases e
        | succ i =>
          have e : (List.replicate N2.length (none : Slot))[i]? = some (some (d, true)) := e
          rw [List.getElem?_replicate] at e
          split at e <;> cases e
    · cases i with
      | zero => cases e
      | succ i => cases i with
        | zero => cases e
        | succ i =>
          have e : (List.replicate N2.length (none : Slot))[i]? = some (some (d, true)) := e
          rw [List.getElem?_replicate] at e
          split at e <;> cases e
    · show (List.replicate N2.length (none : Slot)).length + 1 + 1 = (List.replicate N2.length (none : Option V)).length + 1 + 1
      rw [List.length_replicate, List.length_replicate]
    · obtain ⟨w', hw⟩ := plain w0
      refine ⟨?_, fun H1 => q H1⟩
      cases z : g (lawE (n0 :: n1 :: N2).length) w0 with
      | rt d w1 => rw [z] at hw; cases hw; exact ⟨_, rfl⟩
      | nx r w1 => rw [z] at hw; cases hw
      | bk r w1 => rw [z] at hw; cases hw
      | ct r w1 => rw [z] at hw; cases hw
      | exc n fs r w1 => rw [z] at hw; cases hw
      | bad => rw [z] at hw; cases hw
end
/-! ### an item of a borrowed list -/
def lent : D → D
  | .tup l => .brw (.tup l)
  | .lst l => .brw (.lst l)
  | d => d
def ixB (a b : D) : Option D := match a, b with
  | .brw (.lst l), .int k => (L2.atI l k).map lent
  | _, _ => none
theorem TrRL.atI {S : Addr → Prop} {G : Hp} {vs : List V} {ds : List D} {i : Int} {d : D} (r : TrRL S G vs ds) (e : L2.atI ds i = some d) : ∃ v, L2.atI vs i = some v ∧ TrR S G v d := by
  have hl := (TrRL.at r).1
  have key : ∀ {vs : List V} {ds : List D}, TrRL S G vs ds → ∀ (j : Nat) (d : D), ds[j]? = some d → ∃ v, vs[j]? = some v ∧ TrR S G v d := by
    intro vs ds
    induction ds generalizing vs with
    | nil => intro r j d h; simp at h
    | cons a ds ih =>
      intro r j d h
      cases r with
      | cons h1 r1 =>
        cases j with
        | zero => simp at h; subst h; exact ⟨_, rfl, h1⟩
        | succ j => simp at h; obtain ⟨v, q1, q2⟩ := ih r1 j d h; exact ⟨v, by simpa using q1, q2⟩
  unfold L2.atI at e ⊢
  rw [hl]
  cases z : ixN ds.length i with
  | none => rw [z] at e; cases e
  | some j =>
    rw [z] at e
    exact key r j d e
theorem TrR.lent {c : Cf} {A : Addr → Prop} {H : Hp} {v : V} {d : D} (h : TrR c.lc.S c.lc.G v d) : Rep c A H v (lent d) := by
  cases h with
  | non => exact .non
  | bl b => exact .bl b
  | int i => exact .int i
  | str x => exact .str x
  | tup e r => exact .brw (.tup e r) (fun z => by cases z)
  | lst e s r => exact .brw (.lst e s r) (fun z => by cases z)
section
variable {X : Cx} {W : WX} {pos : Pos}
theorem ve_ixB {a b : Expr} {fa fb : EM} (ha : VE X rO W a fa) (hb : VE X rO W b fb) (hs : PlainIx b := by exact fun _ _ => rfl) : VE X rE W (.Subscript a b pos) (dBin ixB fa fb) := weak (pe_ix ix_list ha hb hs) fun σ H Q ⟨B, A, r, w, hs, hp, q⟩ =>
  ⟨B, A, r, w, hs, hp, q.bind fun x w1 v H1 k1 p1 r1 q1 => ⟨B, A, r, w1, hs.keep k1, p1, q1.bind fun y w2 v2 H2 k2 p2 r2 q2 => by
    have r1' : rO (B.cf X.K X.mg) A H2 H2 v x := rO.keep hs.np k2 r1
    have lo := (hs.keep (k1.trans k2)).lco
    unfold Res.of ixB at q2
    split at q2
    · rename_i d e
      split at e
      · rename_i l k
        simp only [Option.map_eq_some_iff] at e
        obtain ⟨d0, e, rfl⟩ := e
        have rb : Rep (B.cf X.K X.mg) A H2 v (.brw (.lst l)) := by
          rcases r1' with h | ⟨_, _, _, h⟩
          · exact h
          · exact h.elim
        have tr : TrR B.lc.S B.lc.G v (.lst l) := by
          generalize hx : DL.D.brw (.lst l) = x at rb
          cases rb <;> cases hx
          assumption
        cases tr with
        | lst ea sa rl =>
          obtain ⟨u, h3, h4⟩ := rl.atI e
          exact ⟨_, _, _, u, rfl, r2.int, SqL.of (lo.g.k _ _ (lo.s _ sa).1 trivial ea), h3, q2 _ H2 .refl p2 h4.lent⟩
      · cases e
    · exact q2.elim⟩⟩
end
end DL

set_option Elab.async false
set_option linter.all false
set_option maxRecDepth 100000
set_option maxHeartbeats 2000000
namespace DLN
open PySem PySem.SeqAt PySem.Spec PyProof.Rows

/-! ### x != y by x's own __eq__ -/
section
variable {prog : Program} {w : World} {A : Around} {E : Value → Shared → Prop} {s : Shared} {K : PySem.W.Frag} {x C L f : Addr} {h₀ : Heap} {m : Str → Option Value} {ox : Obj} {od : Option Obj} {b tb : Value}
open PySem.W in
theorem ifBound_B {M : Model} {name : Str} {id : String} {args : List Value} {Q : Option Value → Shared → Prop} (X : K.In s.heap) (I : InstAt s.heap x ox C od) (hs : findIn K (.ref C) name = some (some (.builtin id)))
    (hb : ∀ self, bindSpecial (.builtin id) self = pure (.builtin id, [self])) (h : wpAny M A (call (.builtin id) (.ref x :: args)) (fun v => Q (some v)) E s) : wpAny M A (callSpecialIfBound? (.ref x) name args) Q E s := by
  simp only [callSpecialIfBound?, bindSpecialIfBound?]
  refine wpAny_holding (wpAny_bind (wpAny_bind (wpAny_bind (I.type.here ((looks_findIn X hs).here ?_)))))
  refine wpAny_bind (wpAny_askSetting (wpAny_ite ?_))
  have fin : wpAny M A (call (.builtin id) ([.ref x] ++ args) >>= fun v => pure (some v)) Q E s := wpAny_bind (wpAny_mono h (fun v s' h' => wpAny_pure h') fun _ _ h' => h')
  split
  · exact wpAny_bind ((Looks.of_pure (hb _)).here (wpAny_pure (by exact fin)))
  · exact wpAny_tryCatch (wpAny_bind ((Looks.of_pure (hb _)).here (wpAny_pure (by exact fin))))
open PySem.W Builtin in
theorem ne_K {Q : Value → Shared → Prop} (hu : A.units + 1 < cLine) (F : Fr h₀ L s.heap m) (X₀ : K.In h₀) (I : InstAt s.heap x ox C od) (hb : Looks (model prog w) s.heap (typeOf b) tb) (hn : notFirst K C tb = true)
    (hne : findIn K (.ref C) "__ne__" = some (some (.builtin "object.__ne__"))) (hs : findIn K (.ref C) "__eq__" = some (some (.ref f))) (hf : isFn K (.ref f) = true) (hm : mroIn K C (.type "object") = some true)
    (h : wpAny (model prog w) A.in1 (call (.ref f) [.ref x, b]) (fun v s' => ∃ c, v = .bool c ∧ Q (.bool (!c)) s') E s) : wpAny (model prog w) A (richCompare .NotEq (.ref x) b) Q E s := by
  have X := X₀.keeps F.keep
  have in1 : A.in1.units < cLine := by
    have : A.in1.units ≤ A.units + 1 := by first | exact Nat.le_refl _ | (simp [Around.in1, Around.units])
    omega
  have ent : wpAny (model prog w) A (call (.builtin "object.__ne__") [.ref x, b]) (fun v s' => v ≠ .notImplemented ∧ Q v s') E s := by
    refine wpAny_call (codeAny_call_builtin PySem.F.cmp_object.ne.plain PySem.F.cmpEntry_ne (check_slot (i := "object.__ne__") (owner := "object") (n := "__ne__") PySem.F.cmpKind_ne PySem.F.cmpSplit_ne (I.type.andThen (looks_mroIn X hm)) (PySem.F.cmpArgs_ne _ _) ?_))
    obtain ⟨hh, g, d, t, os⟩ := s
    unfold Builtin.«object.__ne__»
    repeat (first
      | with_reducible refine wpAny_cRoomFor in1 ?_
      | (refine wpAny_bind (m := callSpecialIfBound? (.ref x) (Str.ofString "__eq__") [b]) (ifBound_K X I hs hf (wpAny_mono h (fun r s' hr => ?_) fun _ _ e => e)))
      | wp_step)
    obtain ⟨c, rfl, hq⟩ := hr
    have hq' : Value.bool (!c) ≠ .notImplemented ∧ Q (.bool (!c)) s' := And.intro (fun z => nomatch z) hq
    repeat (first | exact hq' | exact wpAny_pure hq' | exact wpAny_truthy_bool hq' | (refine wpAny_bind (m := truthy (.bool _)) (wpAny_truthy_bool ?_)) | wp_step)
  have one : wpAny (model prog w) A (tryCompare (.ref x) (cmpInfo .NotEq).2.1 b) (fun r s' => ∃ v, r = some v ∧ Q v s') E s := by
    unfold tryCompare
    refine wpAny_bind (ifBound_B X I hne PySem.F.cmp_object.ne.bind (wpAny_mono ent (fun v s' hv => ?_) fun _ _ e => e))
    obtain ⟨h1, h2⟩ := hv
    cases v <;> first | exact absurd rfl h1 | exact wpAny_pure ⟨_, rfl, h2⟩
  unfold richCompare
  simp only [oneThing_ref]
  refine wpAny_holding (wpAny_bind (wpAny_cRoomFor (Nat.lt_of_succ_lt hu) ?_))
  refine wpAny_bind (I.type.here (wpAny_bind (hb.here ?_)))
  split
  · rename_i q
    have e : subIn K tb (.ref C) = some false := by
      rcases Bool.or_eq_true_iff.mp hn with e | e
      · rw [beq_iff_eq.mp e] at q; simp at q
      · exact beq_iff_eq.mp e
    refine wpAny_bind ((looks_subIn X e).here ?_)
    simp only [Bool.false_eq_true, if_false]
    refine wpAny_bind (wpAny_mono one (fun r s' z => ?_) fun _ _ e => e)
    obtain ⟨v, rfl, hq⟩ := z
    exact wpAny_pure hq
  · refine wpAny_bind (wpAny_pure ?_)
    simp only [Bool.false_eq_true, if_false]
    refine wpAny_bind (wpAny_mono one (fun r s' z => ?_) fun _ _ e => e)
    obtain ⟨v, rfl, hq⟩ := z
    exact wpAny_pure hq
end
end DLN
namespace DL
open PySem PySem.SeqAt PySem.Spec PyProof.Rows L2

/-! ### own classes: of which class a value is -/
def TYS : List String := ["NoneType", "bool", "int", "str", "tuple", "list", "dict"]
/-- what TyOf asks of a class -/
structure TyC (K : PySem.W.Frag) (C : Addr) : Prop where
  cl : Cls K C
  ha : PySem.W.findIn K (.ref C) "__class__" = some (some (.builtin "object.__class__"))
  hn : PySem.W.specialIn K (.builtin "object.__class__") "__get__" = some (some (.builtin "getset_descriptor.__get__"))
  htk : PySem.W.takesIn K (.builtin "object.__class__") = some true
  hm : PySem.W.mroIn K C (.type "object") = some true
structure IsO (K : PySem.W.Frag) (mg : Str → Option Value) (ns : List Str) (n : Str) : Prop where
  me : mg n = some (.ref (He.ga K n))
  at_ : ∀ m ∈ ns, mg m = some (.ref (He.ga K m)) ∧ TyC K (He.ga K m)
  own : ∀ m ∈ ns, PySem.W.kitOne K (.ref (He.ga K m)) (.ref (He.ga K n)) = some (decide (m = n)) ∧ PySem.W.notFirst K (He.ga K n) (.ref (He.ga K m)) = true
  ty : ∀ t ∈ TYS, PySem.W.kitOne K (.type t) (.ref (He.ga K n)) = some false ∧ PySem.W.notFirst K (He.ga K n) (.type t) = true
  ne : PySem.W.findIn K (.ref (He.ga K n)) "__ne__" = some (some (.builtin "object.__ne__"))
  ob : PySem.W.mroIn K (He.ga K n) (.type "object") = some true
def isoB (ns : List Str) (n : Str) (K : PySem.W.Frag) : Bool :=
  (ns.all fun m => (He.Fa.cls m).ok K && (He.eqO (PySem.W.findIn K (.ref (He.ga K m)) "__class__") (some (some (.builtin "object.__class__"))) && (decide (PySem.W.mroIn K (He.ga K m) (.type "object") = some true) && (decide (PySem.W.kitOne K (.ref (He.ga K m)) (.ref (He.ga K n)) = some (decide (m = n))) && PySem.W.notFirst K (He.ga K n) (.ref (He.ga K m))))))
  && ((TYS.all fun t => decide (PySem.W.kitOne K (.type t) (.ref (He.ga K n)) = some false) && PySem.W.notFirst K (He.ga K n) (.type t))
  && (He.eqO (PySem.W.specialIn K (.builtin "object.__class__") "__get__") (some (some (.builtin "getset_descriptor.__get__"))) && (decide (PySem.W.takesIn K (.builtin "object.__class__") = some true)
  && (He.eqO (PySem.W.findIn K (.ref (He.ga K n)) "__ne__") (some (some (.builtin "object.__ne__"))) && decide (PySem.W.mroIn K (He.ga K n) (.type "object") = some true)))))
theorem isoB_ok {ns : List Str} {n : Str} {K : PySem.W.Frag} {mg : Str → Option Value} (h : isoB ns n K = true) (hm : ∀ m ∈ ns, mg m = some (.ref (He.ga K m))) (me : mg n = some (.ref (He.ga K n))) : IsO K mg ns n := by
  obtain ⟨h1, h⟩ := He.ba h
  obtain ⟨h2, h⟩ := He.ba h
  obtain ⟨h3, h⟩ := He.ba h
  obtain ⟨h4, h⟩ := He.ba h
  obtain ⟨h5, h6⟩ := He.ba h
  refine ⟨me, fun m hmm => ?_, fun m hmm => ?_, fun t ht => ?_, He.eqO_ok h5, of_decide_eq_true h6⟩
  · obtain ⟨a, b⟩ := He.ba (List.all_eq_true.mp h1 m hmm)
    obtain ⟨b, c⟩ := He.ba b
    obtain ⟨c, d⟩ := He.ba c
    exact ⟨hm m hmm, He.cls_ok a, He.eqO_ok b, He.eqO_ok h3, of_decide_eq_true h4, of_decide_eq_true c⟩
  · obtain ⟨a, b⟩ := He.ba (List.all_eq_true.mp h1 m hmm)
    obtain ⟨b, c⟩ := He.ba b
    obtain ⟨c, d⟩ := He.ba c
    obtain ⟨d, e⟩ := He.ba d
    exact ⟨of_decide_eq_true d, e⟩
  · obtain ⟨a, b⟩ := He.ba (List.all_eq_true.mp h2 t ht)
    exact ⟨of_decide_eq_true a, b⟩
/-- the type of data, own classes too -/
def D.clsOf : D → Option Str
  | .obj m _ => some m
  | _ => none
theorem clsOf_some {d : D} {m : Str} (h : d.clsOf = some m) : ∃ fs, d = .obj m fs := by
  cases d <;> first | (cases h; done) | skip
  cases h; exact ⟨_, rfl⟩
def tyB (d : D) : Option String := d.ty?.bind fun t => if t ∈ TYS then some t else none
theorem tyB_some {d : D} {t : String} (h : tyB d = some t) : d.ty? = some t ∧ t ∈ TYS := by
  unfold tyB at h
  cases z : d.ty? with
  | none => rw [z] at h; cases h
  | some u =>
    rw [z] at h
    have h : (if u ∈ TYS then some u else none) = some t := h
    by_cases q : u ∈ TYS
    · rw [if_pos q] at h; cases h; exact ⟨rfl, q⟩
    · rw [if_neg q] at h; cases h
def tyK (K : PySem.W.Frag) (ns : List Str) (d : D) : Option Value := match d.clsOf with
  | some m => if m ∈ ns then some (.ref (He.ga K m)) else none
  | none => (tyB d).map .type
def tyKn (ns : List Str) (d : D) : Bool := match d.clsOf with
  | some m => decide (m ∈ ns)
  | none => (tyB d).isSome
/-- the two ways -/
theorem tyK_cases {K : PySem.W.Frag} {ns : List Str} {d : D} {t : Value} (e : tyK K ns d = some t) : (∃ m fs, d = .obj m fs ∧ m ∈ ns ∧ t = .ref (He.ga K m)) ∨ (∃ u, d.clsOf = none ∧ d.ty? = some u ∧ u ∈ TYS ∧ t = .type u) := by
  unfold tyK at e
  cases z : d.clsOf with
  | some m =>
    rw [z] at e
    have e : (if m ∈ ns then some (Value.ref (He.ga K m)) else none) = some t := e
    by_cases q : m ∈ ns
    · rw [if_pos q] at e; cases e
      obtain ⟨fs, rfl⟩ := clsOf_some z
      exact .inl ⟨m, fs, rfl, q, rfl⟩
    · rw [if_neg q] at e; cases e
  | none =>
    rw [z] at e
    have e : (tyB d).map Value.type = some t := e
    cases z2 : tyB d with
    | none => rw [z2] at e; cases e
    | some u =>
      rw [z2] at e
      cases e
      obtain ⟨h1, h2⟩ := tyB_some z2
      exact .inr ⟨u, rfl, h1, h2, rfl⟩
theorem Rep.tyx {K : PySem.W.Frag} {mg : Str → Option Value} {p : Addr} {lc : Lx} {A : Addr → Prop} {H : Hp} {ns : List Str} (at_ : ∀ m ∈ ns, mg m = some (.ref (He.ga K m)) ∧ TyC K (He.ga K m)) {v : V} {d : D} {t : Value} (h : Rep ⟨K, mg, p, lc⟩ A H v d) (e : tyK K ns d = some t) : TyX K H v t := by
  rcases tyK_cases e with ⟨m, fs, rfl, hm, rfl⟩ | ⟨u, _, h1, h2, rfl⟩
  · cases h with
    | obj g1 g2 _ _ _ _ =>
      obtain ⟨q1, q2⟩ := at_ _ hm
      have g1 : mg _ = some (.ref _) := g1
      rw [q1] at g1
      cases g1
      exact .base (.ins g2 q2.cl q2.ha q2.hn q2.htk q2.hm)
  · exact rO.ty (c := ⟨K, mg, p, lc⟩) (H0 := H) (A := A) (.inl h) h1
theorem tyKn_some {K : PySem.W.Frag} {ns : List Str} {d : D} (h : tyKn ns d = true) : ∃ t, tyK K ns d = some t := by
  unfold tyKn at h
  unfold tyK
  cases z : d.clsOf with
  | some m =>
    rw [z] at h
    have h : m ∈ ns := of_decide_eq_true h
    exact ⟨_, if_pos h⟩
  | none =>
    rw [z] at h
    have h : (tyB d).isSome = true := h
    cases z2 : tyB d with
    | none => rw [z2] at h; cases h
    | some u => exact ⟨.type u, rfl⟩
theorem tyK_notFirst {K : PySem.W.Frag} {mg : Str → Option Value} {ns : List Str} {n : Str} (T : IsO K mg ns n) {d : D} {t : Value} (e : tyK K ns d = some t) : PySem.W.notFirst K (He.ga K n) t = true := by
  rcases tyK_cases e with ⟨m, fs, rfl, hm, rfl⟩ | ⟨u, _, h1, h2, rfl⟩
  · exact (T.own _ hm).2
  · exact (T.ty u h2).2
/-- isinstance(e, C), C an own class -/
def isoD (ns : List Str) (n : Str) (d : D) : Option D := if tyKn ns d = true then some (.bl (decide (d.clsOf = some n))) else none
def dIsO (ns : List Str) (n : Str) (fe : EM) : EM := fun r w => (fe r w).bind fun d w' => Res.of (isoD ns n d) w'
theorem isoD_kit {K : PySem.W.Frag} {mg : Str → Option Value} {ns : List Str} {n : Str} (T : IsO K mg ns n) {d d' : D} (e : isoD ns n d = some d') : ∃ t b, tyK K ns d = some t ∧ d' = .bl b ∧ PySem.W.kitOne K t (.ref (He.ga K n)) = some b := by
  unfold isoD at e
  split at e
  · rename_i h
    cases e
    obtain ⟨t, et⟩ := tyKn_some (K := K) h
    refine ⟨t, _, et, rfl, ?_⟩
    rcases tyK_cases et with ⟨m, fs, rfl, hm, rfl⟩ | ⟨u, h0, h1, h2, rfl⟩
    · rw [(T.own _ hm).1]
      show some (decide (m = n)) = some (decide (some m = some n))
      simp
    · rw [(T.ty u h2).1, h0]
      rfl
  · cases e
section
variable {X : Cx} {W : WX} {p p1 pos : Pos} {e : Expr} {fe : EM}
theorem ve_isiO {ns : List Str} {x : Str} (hi : X.mg "isinstance" = none) (T : IsO X.K X.mg ns x) (he : VE X rE W e fe) (hg : Gl X "isinstance" := by rfl) (hgx : Gl X x := by rfl)
    (hdx : (x == ("__debug__" : Str)) = false := by decide) (hs : starEach [e, .Name x p1] X.env = (false, eval e X.env) :: starEach [.Name x p1] X.env := by rfl) (hs2 : starEach [.Name x p1] X.env = (false, eval (.Name x p1) X.env) :: starEach [] X.env := by rfl) (hpl : (backTo pos (starEach [.Name x p1] X.env)).any (·.1) = false := by rfl) :
    VE X rE W (.Call (.Name "isinstance" p) [e, .Name x p1] [] pos) (dIsO ns x fe) :=
  weak (pe_callB call_isi hg hi boot_isinstance (pa_cons he (pa_cons (pe_glob (v := .ref (He.ga X.K x)) hgx T.me rfl hdx) pa_nil hs2) hs) (by decide) (by decide) hs hpl) fun σ H Q ⟨B, A, r, w, hs, hp, q⟩ => ⟨B, A, r, w, hs, hp, q.bind fun d w1 v H1 k1 p1 r1 q1 => by
    unfold Res.of at q1
    split at q1
    · rename_i d' e
      obtain ⟨t, b, h1, rfl, h2⟩ := isoD_kit T e
      exact ⟨v, .ref _, t, _, b, rfl, .own _, Rep.tyx T.at_ r1 h1, h2, q1 _ H1 .refl p1 (.bl b)⟩
    · exact q1.elim⟩
end
/-! ### x == y, x != y by x's own __eq__ -/
/-- how x == y comes to call __eq__ -/
def rOwn (X : Cx) (k : Nat) (neg : Bool) : R2 := fun x y H Q => ∃ (a C dx f : Addr) (fs : List (Str × V)) (t : Value) (fd : FuncData) (ps : List Str) (sp : Sp), x = .ref a ∧ H a = some (.ins C dx fs) ∧ TyX X.K H y t ∧ PySem.W.notFirst X.K C t = true ∧
  PySem.W.findIn X.K (.ref C) "__eq__" = some (some (.ref f)) ∧ PySem.W.isFn X.K (.ref f) = true ∧ (PySem.W.findIn X.K (.ref C) "__ne__" = some (some (.builtin "object.__ne__")) ∧ PySem.W.mroIn X.K C (.type "object") = some true) ∧ Binds X.K fd ps [] ∧ FnOk X.prog X.w X.K X.mg X.base (L2.CX X.prog X.w) k f fd ps sp ∧
  sp [x, y] H (fun v H' => ∃ c, v = .bl c ∧ Q (.bl (c != neg)) H') E0
theorem own_call {X : Cx} {k : Nat} {f : Addr} {fd : FuncData} {ps : List Str} {sp : Sp} {pins : List (Addr × Obj)} {σ : L2.St} {H : Hp} {s : Shared} {Q : VK} {us : List Value} {vs : List V} {A : Around} (F : FnOk X.prog X.w X.K X.mg X.base (L2.CX X.prog X.w) k f fd ps sp) (hb : Binds X.K fd ps [])
    (room : Room k A) (fr : A.frames = X.A.frames) (I : Inv X pins σ H s) (r : Vals vs us) (h : sp vs H Q E0) : wpAny (model X.prog X.w) A (call (.ref f) us) (EP X pins σ Q) X.xe s := by
  have e0 : Env0 X.prog X.w X.K X.mg X.base A X.stack s H := by
    have e := I.env0
    exact ⟨by rw [fr]; exact e.frames, e.mod, e.bs, e.bsz, e.funs, e.frf, e.hok, e.bare⟩
  have hl : us.length = ps.length := by rw [← r.length]; exact F.len _ _ _ _ h
  have hx : Passes (L2.CX X.prog X.w) X E0 := passL
  refine wpAny_call (codeAny_mono (F.run A X.stack s H ⟨us, []⟩ us vs Q E0 room e0 (by
    have := hb s us I.kIn (by rw [List.append_nil]; exact hl)
    rw [List.append_nil] at this; exact this) r h) fun r s' hq => ?_)
  cases r with
  | error e => exact hx pins σ H s e s' I hq
  | ok fl =>
    cases fl with
    | ret u => exact I.after hq
    | next => exact False.elim hq
    | brk => exact False.elim hq
    | cont => exact False.elim hq
theorem op_ownEq {X : Cx} {k : Nat} (hr : Room k X.A) : OpR X (compareOp .Eq) (rOwn X k false) := by
  intro pins s σ H x y v u Q I rx ry h
  obtain ⟨a, C, dx, f, fs, t, fd, ps, sp, rfl, ha, ty, nf, he, hf, _, hb, F, hq⟩ := h
  cases rx
  obtain ⟨mA, J, _⟩ := ins_get I.hok ha
  obtain ⟨od, J, _⟩ := J.look
  obtain ⟨P, Z, pp, _⟩ := kit_of I ry ty
  obtain ⟨m, hF⟩ := I.fr
  show wpAny (model X.prog X.w) X.A (richCompare .Eq (.ref a) u) (EP X pins σ Q) X.xe s
  refine PySem.W.cmp_K (op := .Eq) (tb := t) hr.units0 hF I.ok.mod.kin J (Z.ty _ _ I.kIn pp) nf he hf ?_
  refine wpAny_mono (own_call (us := [.ref a, u]) (vs := [.ref a, y]) F hb hr rfl I (.cons rfl (.cons ry .nil)) hq) (fun r s' z => ?_) fun _ _ e => e
  obtain ⟨v', H', I', rv, c, rfl, q⟩ := z
  cases (show r = Value.bool c from rv)
  cases c
  · exact ⟨.bl false, H', I', rfl, q⟩
  · exact ⟨.bl true, H', I', rfl, q⟩
theorem op_ownNe {X : Cx} {k : Nat} (hr : Room (k + 1) X.A) : OpR X (compareOp .NotEq) (rOwn X k true) := by
  intro pins s σ H x y v u Q I rx ry h
  obtain ⟨a, C, dx, f, fs, t, fd, ps, sp, rfl, ha, ty, nf, he, hf, ⟨hne, hob⟩, hb, F, hq⟩ := h
  cases rx
  obtain ⟨mA, J, _⟩ := ins_get I.hok ha
  obtain ⟨od, J, _⟩ := J.look
  obtain ⟨P, Z, pp, _⟩ := kit_of I ry ty
  obtain ⟨m, hF⟩ := I.fr
  show wpAny (model X.prog X.w) X.A (richCompare .NotEq (.ref a) u) (EP X pins σ Q) X.xe s
  refine DLN.ne_K (by have := hr.un; omega) hF I.ok.mod.kin J (Z.ty _ _ I.kIn pp) nf hne he hf hob ?_
  refine wpAny_mono (own_call (A := X.A.in1) (us := [.ref a, u]) (vs := [.ref a, y]) F hb hr.in1 rfl I (.cons rfl (.cons ry .nil)) hq) (fun r s' z => ?_) fun _ _ e => e
  obtain ⟨v', H', I', rv, c, rfl, q⟩ := z
  cases (show r = Value.bool c from rv)
  cases c
  · exact ⟨_, rfl, .bl true, H', I', rfl, q⟩
  · exact ⟨_, rfl, .bl false, H', I', rfl, q⟩
abbrev EqT := List (Str × (List D → Wd → Res))
structure EqTab (P : Program) (w : World) (K : PySem.W.Frag) (mg : Str → Option Value) (base : Heap) (T : EqT) (ns : List Str) (k : Nat) : Prop where
  h : ∀ n F, T.lookup n = some F → CalleeM P w K mg base n "__eq__" k 2 F ∧ IsO K mg ns n
theorem eqTab_nil {P : Program} {w : World} {K : PySem.W.Frag} {mg : Str → Option Value} {base : Heap} {ns : List Str} {k : Nat} : EqTab P w K mg base [] ns k := ⟨fun n F h => by cases h⟩
theorem eqTab_cons {P : Program} {w : World} {K : PySem.W.Frag} {mg : Str → Option Value} {base : Heap} {T : EqT} {ns : List Str} {k k' : Nat} {n : Str} {F : List D → Wd → Res} (c : CalleeM P w K mg base n "__eq__" k' 2 F) (hk : k' ≤ k) (i : IsO K mg ns n) (r : EqTab P w K mg base T ns k) : EqTab P w K mg base ((n, F) :: T) ns k := ⟨fun m G h => by
  rw [List.lookup_cons] at h
  by_cases z : (m == n) = true
  · rw [z] at h
    cases h
    rw [eq_of_beq z]
    obtain ⟨f, fd, ps, h1, h2⟩ := c.ex
    exact ⟨⟨f, fd, ps, h1.mono hk, h2⟩, i⟩
  · have z : (m == n) = false := by simpa using z
    rw [z] at h
    exact r.h m G h⟩
def eqMr (T : EqT) (ns : List Str) (neg : Bool) (x y : D) (w2 : Wd) : Res := match x with
  | .obj n fds => (match T.lookup n with
    | some F => if tyKn ns y = true then (match F [.obj n fds, y] w2 with
      | .ok (.bl c) w3 => .ok (.bl (c != neg)) w3
      | _ => .bad) else .bad
    | none => .bad)
  | _ => .bad
def dEqM (T : EqT) (ns : List Str) (neg : Bool) (fa fb : EM) : EM := fun r w => (fa r w).bind fun x w1 => (fb r w1).bind fun y w2 => eqMr T ns neg x y w2
section
variable {X : Cx} {W : WX} {pos : Pos} {a b : Expr} {fa fb : EM} {k : Nat} {T : EqT} {ns : List Str}
theorem eqM_step (G : EqTab X.prog X.w X.K X.mg X.base T ns k) {neg : Bool} {B : Bs} {A : Addr → Prop} {σ : L2.St} {H : Hp} {r : Env} {w2 : Wd} {Q : VK} {x y : D} {v u : V} (hs : StOk X.K X.mg B A σ H r) (hp : PenAt B.p B.lc A H w2) (r1 : Rep (B.cf X.K X.mg) A H v x) (r2 : Rep (B.cf X.K X.mg) A H u y)
    (q : Post (B.cf X.K X.mg) A σ H rE W Q (eqMr T ns neg x y w2)) : rOwn X k neg v u H Q := by
  cases x <;> first | exact q.elim | skip
  rename_i n fds
  unfold eqMr at q
  simp only at q
  cases z : T.lookup n with
  | none => rw [z] at q; exact q.elim
  | some F =>
    rw [z] at q
    simp only at q
    obtain ⟨⟨f, fd, ps, FO, hm, hb⟩, I⟩ := G.h n F z
    split at q
    · rename_i ht
      obtain ⟨t, et⟩ := tyKn_some (K := X.K) ht
      have ty := Rep.tyx I.at_ r2 et
      have nf := tyK_notFirst I et
      have r1' := r1
      cases r1 with
      | obj g1 g2 g5 g6 g3 g4 =>
        have g1' : X.mg n = some (.ref _) := g1
        rw [I.me] at g1'
        cases g1'
        refine ⟨_, _, _, f, _, t, fd, ps, _, rfl, g2, ty, nf, hm.at_, hm.fn, ⟨I.ne, I.ob⟩, hb, FO, B.p, B.lc, A, w2, _, hs.tr, ⟨hp, hs.lco⟩, .cons r1' (.cons r2 .nil), rfl, ?_⟩
        cases z2 : F [.obj n fds, y] w2 with
        | bad => rw [z2] at q; exact q.elim
        | exc m fs w' => rw [z2] at q; exact q.elim
        | ok d w' =>
          rw [z2] at q
          cases d <;> first | exact q.elim | skip
          rename_i c
          intro v' H' k' p' rv
          cases rv
          exact ⟨c, rfl, q _ H' k' p' (.bl _)⟩
    · exact q.elim
theorem ve_eqM (G : EqTab X.prog X.w X.K X.mg X.base T ns k) (hr : Room k X.A) (ha : VE X rE W a fa) (hb : VE X rE W b fb) (hm : behindInMarks .Eq b = false := by rfl) : VE X rE W (.Compare a [.Eq] [b] pos) (dEqM T ns false fa fb) := weak (pe_cmpR (op_ownEq hr) ha hb hm) fun σ H Q ⟨B, A, r, w, hs, hp, q⟩ =>
  ⟨B, A, r, w, hs, hp, q.bind fun x w1 v H1 k1 p1 r1 q1 => ⟨B, A, r, w1, hs.keep k1, p1, q1.bind fun y w2 v2 H2 k2 p2 r2 q2 => eqM_step G (hs.keep (k1.trans k2)) p2 (r1.keepA k2.a) r2 q2⟩⟩
theorem ve_neM (G : EqTab X.prog X.w X.K X.mg X.base T ns k) (hr : Room (k + 1) X.A) (ha : VE X rE W a fa) (hb : VE X rE W b fb) (hm : behindInMarks .NotEq b = false := by rfl) : VE X rE W (.Compare a [.NotEq] [b] pos) (dEqM T ns true fa fb) := weak (pe_cmpR (op_ownNe hr) ha hb hm) fun σ H Q ⟨B, A, r, w, hs, hp, q⟩ =>
  ⟨B, A, r, w, hs, hp, q.bind fun x w1 v H1 k1 p1 r1 q1 => ⟨B, A, r, w1, hs.keep k1, p1, q1.bind fun y w2 v2 H2 k2 p2 r2 q2 => eqM_step G (hs.keep (k1.trans k2)) p2 (r1.keepA k2.a) r2 q2⟩⟩
theorem vt_eqM (G : EqTab X.prog X.w X.K X.mg X.base T ns k) (hr : Room k X.A) (ha : VE X rE W a fa) (hb : VE X rE W b fb) (hm : behindInMarks .Eq b = false := by rfl) : VT X W (.Compare a [.Eq] [b] pos) (dEqM T ns false fa fb) := weakT (pt_cmpR (op_ownEq hr) ha hb hm) fun σ H Q h => test_of (R := rE) h fun Q' ⟨B, A, r, w, hs, hp, q⟩ =>
  ⟨B, A, r, w, hs, hp, q.bind fun x w1 v H1 k1 p1 r1 q1 => ⟨B, A, r, w1, hs.keep k1, p1, q1.bind fun y w2 v2 H2 k2 p2 r2 q2 => eqM_step G (hs.keep (k1.trans k2)) p2 (r1.keepA k2.a) r2 q2⟩⟩
end
end DL

set_option Elab.async false
set_option linter.all false
set_option maxRecDepth 100000
set_option maxHeartbeats 2000000
namespace DL
open PySem PySem.SeqAt PySem.Spec PyProof.Rows L2
/-- the ground of a def that calls itself -/
theorem callee_bad {P : Program} {w : World} {K : PySem.W.Frag} {mg : Str → Option Value} {base : Heap} {x qual : Str} {st : Stmt} {f : Addr} {fd : FuncData} {N ps : List Str} {k n : Nat} (F : Fun K x qual st f fd) (S : FnScope N ps (defScope st)) (hm : mg x = some (.ref f)) (hn : ps.length = n)
    (hbi : Binds K fd ps []) : Callee P w K mg base x (k + 1) n (fun _ _ => .bad) :=
  callee_of (k := k) (g := sBad) F S hm hn hbi fun cdv A outer s H E hc hr => ⟨fun pins s σ H D I ⟨_, _, _, _, _, _, q⟩ => q.elim⟩
end DL

set_option Elab.async false
set_option linter.all false
set_option maxRecDepth 100000
set_option maxHeartbeats 4000000
namespace L_k12
open PySem PySem.SeqAt PySem.Spec PyProof.Rows L2 DL
/-! ### the text by places -/
def top (i : Nat) : Stmt := PySem.Challenge.pw_leastwaits_k12_answers_of_integers_kept.main.body.getD i (.Pass ⟨0, 0, 0, 0⟩)
abbrev s__law_pen : Stmt := top 15
abbrev s__law_draw : Stmt := top 16
abbrev s__law_pick : Stmt := top 17
abbrev s__law_number : Stmt := top 18
abbrev s__law_thing : Stmt := top 19
abbrev s__law_frozen : Stmt := top 20
abbrev s_is_row : Stmt := top 1
abbrev s_as_tuples : Stmt := top 2
abbrev s_Point___init__ : Stmt := inClass (top 12) 0
abbrev s_Whole___init__ : Stmt := inClass (top 4) 0
abbrev s_NoWhole___init__ : Stmt := inClass (top 5) 0
abbrev s_Endless___init__ : Stmt := inClass (top 10) 0
abbrev s_Numbers___init__ : Stmt := inClass (top 7) 0
abbrev s_Barred___init__ : Stmt := inClass (top 8) 0
abbrev s_NoPoint___init__ : Stmt := inClass (top 13) 0
abbrev s_Least___init__ : Stmt := inClass (top 9) 0
abbrev s__law_ones : Stmt := top 22
abbrev s__law_spoil : Stmt := top 21
abbrev s_Whole___eq__ : Stmt := inClass (top 4) 1
abbrev s_NoWhole___eq__ : Stmt := inClass (top 5) 1
abbrev s_Numbers___eq__ : Stmt := inClass (top 7) 1
abbrev s_Barred___eq__ : Stmt := inClass (top 8) 1
abbrev s_Least___eq__ : Stmt := inClass (top 9) 1
abbrev s_Endless___eq__ : Stmt := inClass (top 10) 1
abbrev s_Point___eq__ : Stmt := inClass (top 12) 1
abbrev s_NoPoint___eq__ : Stmt := inClass (top 13) 1
abbrev s_law : Stmt := top 23
abbrev N__law_pen : List Str := ["script", "fold", "cell"]
abbrev N__law_draw : List Str := ["pen", "many", "cell", "digit", "blend"]
abbrev N__law_pick : List Str := ["pen", "some"]
abbrev N__law_number : List Str := ["pen", "size", "found", "k"]
abbrev N__law_thing : List Str := ["pen", "deep", "way", "parts", "k"]
abbrev N__law_frozen : List Str := ["value", "one"]
abbrev N_is_row : List Str := ["value"]
abbrev N_as_tuples : List Str := ["value", "one"]
abbrev N_Point___init__ : List Str := ["self", "tops", "bottom"]
abbrev N_Whole___init__ : List Str := ["self", "numbers", "steps"]
abbrev N_NoWhole___init__ : List Str := ["self", "weights", "divisor"]
abbrev N_Endless___init__ : List Str := ["self", "numbers", "run"]
abbrev N_Numbers___init__ : List Str := ["self", "numbers"]
abbrev N_Barred___init__ : List Str := ["self", "tree"]
abbrev N_NoPoint___init__ : List Str := ["self", "weights"]
abbrev N_Least___init__ : List Str := ["self", "number", "numbers", "tree"]
abbrev N__law_ones : List Str := ["a", "b", "c", "one", "two", "three", "four", "rows", "five", "six", "seven", "eight"]
abbrev N__law_spoil : List Str := ["value", "one"]
abbrev N_Whole___eq__ : List Str := ["self", "other"]
abbrev N_NoWhole___eq__ : List Str := ["self", "other"]
abbrev N_Numbers___eq__ : List Str := ["self", "other"]
abbrev N_Barred___eq__ : List Str := ["self", "other"]
abbrev N_Least___eq__ : List Str := ["self", "other"]
abbrev N_Endless___eq__ : List Str := ["self", "other"]
abbrev N_Point___eq__ : List Str := ["self", "other"]
abbrev N_NoPoint___eq__ : List Str := ["self", "other"]
abbrev N_law : List Str := ["script", "pen", "values", "due", "made", "rows", "value", "again", "others", "k", "one", "j", "other", "at", "bent", "changed"]
abbrev ds : List (Str × List Str) := []
abbrev ONS : List Str := ["Whole", "NoWhole", "Numbers", "Barred", "Least", "Endless", "Point", "NoPoint"]
/-! ### what they come to -/
noncomputable def g__law_draw : SM := (sSeq (sPen 0 putCt (dBin plusD (dPen 0 Wd.ct) (dC (.int 1)))) (sSeq (sIf (dAnd (dBin eqD (dPen 0 Wd.dg) (dC (.int 0))) (dBin ltD (dPen 0 Wd.at_) (dPen 0 fun w => w.cells.length))) (sSeq (sSet 2 [] (dCell 0)) (sSeq (sPen 0 putAt (dBin plusD (dPen 0 Wd.at_) (dC (.int 1)))) (sIf (dBin geD (dObs 2) (dBin powD (dC (.int 10)) (dC (.int 18)))) (sPen 0 putDg (dBin subD (dObs 2) (dBin powD (dC (.int 10)) (dC (.int 18))))) (sPen 0 putFo (dBin modD (dB intD (aCons (dBin plusD (dBin timesD (dPen 0 Wd.fo) (dC (.int 39373))) (dObs 2)) aNil)) (dC (.int 2147483587))))))) sNext) (sSeq (sIf (dBin gtD (dPen 0 Wd.dg) (dC (.int 0))) (sSeq (sSet 3 [] (dBin modD (dB intD (aCons (dPen 0 Wd.dg) aNil)) (dObs 1))) (sSeq (sPen 0 putDg (dBin fdivD (dPen 0 Wd.dg) (dObs 1))) (sRet (dVar 3)))) sNext) (sSeq (sSet 4 [] (dBin modD (dB intD (aCons (dBin plusD (dBin plusD (dBin timesD (dPen 0 Wd.fo) (dC (.int 69069))) (dBin timesD (dPen 0 Wd.ct) (dC (.int 7901)))) (dC (.int 29))) aNil)) (dC (.int 2147483647)))) (sSeq (sSet 4 [] (dBin modD (dB intD (aCons (dBin plusD (dBin plusD (dBin timesD (dObs 4) (dObs 4)) (dBin timesD (dC (.int 47)) (dObs 4))) (dPen 0 Wd.ct)) aNil)) (dC (.int 2147483629)))) (sSeq (sPen 0 putFo (dBin modD (dB intD (aCons (dBin plusD (dBin timesD (dObs 4) (dC (.int 16807))) (dC (.int 19))) aNil)) (dC (.int 2147483647)))) (sRet (dBin modD (dB intD (aCons (dBin fdivD (dObs 4) (dC (.int 64))) aNil)) (dObs 1)))))))))
noncomputable def F__law_draw : List D → Wd → Res := runD 5 g__law_draw
noncomputable def g__law_pick : SM := (sRet (dBin ixD (dObs 1) (dCall F__law_draw (aCons (dVar 0) (aCons (dB lenD (aCons (dObs 1) aNil)) aNil)))))
noncomputable def F__law_pick : List D → Wd → Res := runD 2 g__law_pick
noncomputable def g__law_number : SM := (sSeq (sPar 1 2 [] false false (dCall F__law_pick (aCons (dVar 0) (aCons (dLst (aCons (dC (.int 0)) (aCons (dC (.int 1)) (aCons (dC (.int 1)) (aCons (dC (.int 2)) (aCons (dC (.int 4)) (aCons (dC (.int 12)) (aCons (dC (.int 40)) aNil)))))))) aNil))) (dC (.int 0))) (sSeq (sFor [] (iRange1 (aCons (dObs 1) aNil)) (gN 3) (sSet 2 [] (dBin plusD (dBin timesD (dObs 2) (dC (.int 10))) (dCall F__law_draw (aCons (dVar 0) (aCons (dC (.int 10)) aNil)))))) (sRet (dIf (dBin eqD (dCall F__law_draw (aCons (dVar 0) (aCons (dC (.int 2)) aNil))) (dC (.int 0))) (dVar 2) (dUn negD (dObs 2))))))
noncomputable def F__law_number : List D → Wd → Res := runD 4 g__law_number
noncomputable def g__law_thing (Fs : List D → Wd → Res) : SM := (sSeq (sSet 2 [] (dCall F__law_draw (aCons (dVar 0) (aCons (dC (.int 6)) aNil)))) (sSeq (sIf (dOr (dBin ltD (dObs 2) (dC (.int 3))) (dBin eqD (dObs 1) (dC (.int 0)))) (sRet (dCall F__law_pick (aCons (dVar 0) (aCons (dLst (aCons (dC (.int 0)) (aCons (dC (.int 1)) (aCons (dUn negD (dC (.int 1))) (aCons (dC .non) (aCons (dC (.str "a")) (aCons (dC (.bl true)) (aCons (dCall F__law_number (aCons (dVar 0) aNil)) aNil)))))))) aNil)))) sNext) (sSeq (sSetO 3 [] (dComp [4] (iRange1 (aCons (dCall F__law_draw (aCons (dVar 0) (aCons (dC (.int 4)) aNil))) aNil)) (gN 4) dYes (dCall Fs (aCons (dVar 0) (aCons (dBin subD (dObs 1) (dC (.int 1))) aNil))))) (sRet (dIf (dBin ltD (dObs 2) (dC (.int 5))) (dVar 3) (dB tupleD (aCons (dObs 3) aNil)))))))
noncomputable def FR__law_thing : Nat → List D → Wd → Res
  | 0 => fun _ _ => .bad
  | n + 1 => runD 5 (g__law_thing (FR__law_thing n))
noncomputable def F__law_thing : List D → Wd → Res := FR__law_thing 4
noncomputable def g__law_frozen (Fs : List D → Wd → Res) : SM := (sSeq (sIf (dAnd (dNot (isiD ["list"] (dObs 0))) (dNot (isiD ["tuple"] (dObs 0)))) (sRet (dVar 0)) sNext) (sRet (dB tupleD (aCons (dComp [1] (iSeq (dObs 0)) (gN 1) dYes (dCall Fs (aCons (dVar 1) aNil))) aNil))))
noncomputable def FR__law_frozen : Nat → List D → Wd → Res
  | 0 => fun _ _ => .bad
  | n + 1 => runD 2 (g__law_frozen (FR__law_frozen n))
noncomputable def F__law_frozen : List D → Wd → Res := FR__law_frozen 5
noncomputable def g_is_row : SM := (sRet (isiD ["tuple", "list"] (dObs 0)))
noncomputable def F_is_row : List D → Wd → Res := runD 1 g_is_row
noncomputable def g_as_tuples (Fs : List D → Wd → Res) : SM := (sSeq (sIf (dNot (dCall F_is_row (aCons (dVar 0) aNil))) (sRet (dVar 0)) sNext) (sRet (dB tupleD (aCons (dComp [1] (iSeq (dObs 0)) (gN 1) dYes (dCall Fs (aCons (dVar 1) aNil))) aNil))))
noncomputable def FR_as_tuples : Nat → List D → Wd → Res
  | 0 => fun _ _ => .bad
  | n + 1 => runD 2 (g_as_tuples (FR_as_tuples n))
noncomputable def F_as_tuples : List D → Wd → Res := brwF (FR_as_tuples 6)
noncomputable def g_Point___init__ : IM := (aCons (dCall F_as_tuples (aCons (dVar 1) aNil)) (aCons (dCall F_as_tuples (aCons (dVar 2) aNil)) aNil))
noncomputable def F_Point___init__ : List D → Wd → Res := runF "Point" 3 ["tops", "bottom"] g_Point___init__
noncomputable def g_Whole___init__ : IM := (aCons (dCall F_as_tuples (aCons (dVar 1) aNil)) (aCons (dCall F_as_tuples (aCons (dVar 2) aNil)) aNil))
noncomputable def F_Whole___init__ : List D → Wd → Res := runF "Whole" 3 ["numbers", "steps"] g_Whole___init__
noncomputable def g_NoWhole___init__ : IM := (aCons (dCall F_as_tuples (aCons (dVar 1) aNil)) (aCons (dCall F_as_tuples (aCons (dVar 2) aNil)) aNil))
noncomputable def F_NoWhole___init__ : List D → Wd → Res := runF "NoWhole" 3 ["weights", "divisor"] g_NoWhole___init__
noncomputable def g_Endless___init__ : IM := (aCons (dCall F_as_tuples (aCons (dVar 1) aNil)) (aCons (dCall F_as_tuples (aCons (dVar 2) aNil)) aNil))
noncomputable def F_Endless___init__ : List D → Wd → Res := runF "Endless" 3 ["numbers", "run"] g_Endless___init__
noncomputable def g_Numbers___init__ : IM := (aCons (dCall F_as_tuples (aCons (dVar 1) aNil)) aNil)
noncomputable def F_Numbers___init__ : List D → Wd → Res := runF "Numbers" 2 ["numbers"] g_Numbers___init__
noncomputable def g_Barred___init__ : IM := (aCons (dCall F_as_tuples (aCons (dVar 1) aNil)) aNil)
noncomputable def F_Barred___init__ : List D → Wd → Res := runF "Barred" 2 ["tree"] g_Barred___init__
noncomputable def g_NoPoint___init__ : IM := (aCons (dCall F_as_tuples (aCons (dVar 1) aNil)) aNil)
noncomputable def F_NoPoint___init__ : List D → Wd → Res := runF "NoPoint" 2 ["weights"] g_NoPoint___init__
noncomputable def g_Least___init__ : IM := (aCons (dCall F_as_tuples (aCons (dVar 1) aNil)) (aCons (dCall F_as_tuples (aCons (dVar 2) aNil)) (aCons (dCall F_as_tuples (aCons (dVar 3) aNil)) aNil)))
noncomputable def F_Least___init__ : List D → Wd → Res := runF "Least" 4 ["number", "numbers", "tree"] g_Least___init__
noncomputable def g__law_ones : SM := (sSeq (sTo [0, 1] (gTupD 4 (gCo (gN 3) (gCo (gN 4) (gCo (gN 5) (gCo (gN 6) gNo))))) (dTup (aCons (dMake "Point" F_Point___init__ (aCons (dVar 0) (aCons (dVar 1) aNil))) (aCons (dMake "Whole" F_Whole___init__ (aCons (dVar 0) (aCons (dVar 1) aNil))) (aCons (dMake "NoWhole" F_NoWhole___init__ (aCons (dVar 0) (aCons (dVar 1) aNil))) (aCons (dMake "Endless" F_Endless___init__ (aCons (dVar 0) (aCons (dVar 1) aNil))) aNil)))))) (sSeq (sSet 7 [] (dLst (aCons (dLst (aCons (dFldO "Point" "tops" (dObs 3)) (aCons (dFldO "Point" "bottom" (dObs 3)) aNil))) (aCons (dLst (aCons (dFldO "Whole" "numbers" (dObs 4)) (aCons (dFldO "Whole" "steps" (dObs 4)) aNil))) (aCons (dLst (aCons (dFldO "NoWhole" "weights" (dObs 5)) (aCons (dFldO "NoWhole" "divisor" (dObs 5)) aNil))) (aCons (dLst (aCons (dFldO "Endless" "numbers" (dObs 6)) (aCons (dFldO "Endless" "run" (dObs 6)) aNil))) aNil)))))) (sSeq (sTo [0, 1, 2] (gTupD 4 (gCo (gN 8) (gCo (gN 9) (gCo (gN 10) (gCo (gN 11) gNo))))) (dTup (aCons (dMake "Numbers" F_Numbers___init__ (aCons (dVar 0) aNil)) (aCons (dMake "Barred" F_Barred___init__ (aCons (dVar 0) aNil)) (aCons (dMake "NoPoint" F_NoPoint___init__ (aCons (dVar 0) aNil)) (aCons (dMake "Least" F_Least___init__ (aCons (dVar 0) (aCons (dVar 1) (aCons (dVar 2) aNil)))) aNil)))))) (sSeq (sSet 7 [] (dBin plusD (dObs 7) (dLst (aCons (dLst (aCons (dFldO "Numbers" "numbers" (dObs 8)) aNil)) (aCons (dLst (aCons (dFldO "Barred" "tree" (dObs 9)) aNil)) (aCons (dLst (aCons (dFldO "NoPoint" "weights" (dObs 10)) aNil)) (aCons (dLst (aCons (dFldO "Least" "number" (dObs 11)) (aCons (dFldO "Least" "numbers" (dObs 11)) (aCons (dFldO "Least" "tree" (dObs 11)) aNil)))) aNil))))))) (sRet (dTup (aCons (dLst (aCons (dVar 3) (aCons (dVar 4) (aCons (dVar 5) (aCons (dVar 6) (aCons (dVar 8) (aCons (dVar 9) (aCons (dVar 10) (aCons (dVar 11) aNil))))))))) (aCons (dVar 7) aNil))))))))
noncomputable def F__law_ones : List D → Wd → Res := runD 12 g__law_ones
noncomputable def g_Whole___eq__ : SM := (sRet (dAnd (dIsO ONS "Whole" (dVar 1)) (dAnd (dBin eqD (dFldO "Whole" "numbers" (dObs 0)) (dFldO "Whole" "numbers" (dObs 1))) (dBin eqD (dFldO "Whole" "steps" (dObs 0)) (dFldO "Whole" "steps" (dObs 1))))))
noncomputable def F_Whole___eq__ : List D → Wd → Res := runD 2 g_Whole___eq__
noncomputable def g_NoWhole___eq__ : SM := (sRet (dAnd (dIsO ONS "NoWhole" (dVar 1)) (dAnd (dBin eqD (dFldO "NoWhole" "weights" (dObs 0)) (dFldO "NoWhole" "weights" (dObs 1))) (dBin eqD (dFldO "NoWhole" "divisor" (dObs 0)) (dFldO "NoWhole" "divisor" (dObs 1))))))
noncomputable def F_NoWhole___eq__ : List D → Wd → Res := runD 2 g_NoWhole___eq__
noncomputable def g_Numbers___eq__ : SM := (sRet (dAnd (dIsO ONS "Numbers" (dVar 1)) (dBin eqD (dFldO "Numbers" "numbers" (dObs 0)) (dFldO "Numbers" "numbers" (dObs 1)))))
noncomputable def F_Numbers___eq__ : List D → Wd → Res := runD 2 g_Numbers___eq__
noncomputable def g_Barred___eq__ : SM := (sRet (dAnd (dIsO ONS "Barred" (dVar 1)) (dBin eqD (dFldO "Barred" "tree" (dObs 0)) (dFldO "Barred" "tree" (dObs 1)))))
noncomputable def F_Barred___eq__ : List D → Wd → Res := runD 2 g_Barred___eq__
noncomputable def g_Least___eq__ : SM := (sSeq (sIf (dNot (dIsO ONS "Least" (dVar 1))) (sRet (dC (.bl false))) sNext) (sRet (dBin eqD (dTup (aCons (dFldO "Least" "number" (dObs 0)) (aCons (dFldO "Least" "numbers" (dObs 0)) (aCons (dFldO "Least" "tree" (dObs 0)) aNil)))) (dTup (aCons (dFldO "Least" "number" (dObs 1)) (aCons (dFldO "Least" "numbers" (dObs 1)) (aCons (dFldO "Least" "tree" (dObs 1)) aNil)))))))
noncomputable def F_Least___eq__ : List D → Wd → Res := runD 2 g_Least___eq__
noncomputable def g_Endless___eq__ : SM := (sRet (dAnd (dIsO ONS "Endless" (dVar 1)) (dAnd (dBin eqD (dFldO "Endless" "numbers" (dObs 0)) (dFldO "Endless" "numbers" (dObs 1))) (dBin eqD (dFldO "Endless" "run" (dObs 0)) (dFldO "Endless" "run" (dObs 1))))))
noncomputable def F_Endless___eq__ : List D → Wd → Res := runD 2 g_Endless___eq__
noncomputable def g_Point___eq__ : SM := (sRet (dAnd (dIsO ONS "Point" (dVar 1)) (dAnd (dBin eqD (dFldO "Point" "tops" (dObs 0)) (dFldO "Point" "tops" (dObs 1))) (dBin eqD (dFldO "Point" "bottom" (dObs 0)) (dFldO "Point" "bottom" (dObs 1))))))
noncomputable def F_Point___eq__ : List D → Wd → Res := runD 2 g_Point___eq__
noncomputable def g_NoPoint___eq__ : SM := (sRet (dAnd (dIsO ONS "NoPoint" (dVar 1)) (dBin eqD (dFldO "NoPoint" "weights" (dObs 0)) (dFldO "NoPoint" "weights" (dObs 1)))))
noncomputable def F_NoPoint___eq__ : List D → Wd → Res := runD 2 g_NoPoint___eq__
noncomputable def EQT : EqT := [("Whole", F_Whole___eq__), ("NoWhole", F_NoWhole___eq__), ("Numbers", F_Numbers___eq__), ("Barred", F_Barred___eq__), ("Least", F_Least___eq__), ("Endless", F_Endless___eq__), ("Point", F_Point___eq__), ("NoPoint", F_NoPoint___eq__)]
noncomputable def g_law : SM := (sSeq (sSetO 2 [] (dComp [9] (iRange1 (aCons (dC (.int 3)) aNil)) (gN 9) dYes (dCall F__law_thing (aCons (dVar 1) (aCons (dC (.int 3)) aNil))))) (sSeq (sSetO 3 [6] (dComp [6] (iSeq (dObs 2)) (gN 6) dYes (dCall F__law_frozen (aCons (dVar 6) aNil)))) (sDeep 3 3 2 6 (sTo [] (gTupD 2 (gCo (gN 4) (gCo (gN 5) gNo))) (dCall F__law_ones (aCons (dBin ixB (dObs 2) (dC (.int 0))) (aCons (dBin ixB (dObs 2) (dC (.int 1))) (aCons (dBin ixB (dObs 2) (dC (.int 2))) aNil))))) (sSeq (sTo [] (gTupD 2 (gCo (gN 7) (gCo (gN 8) gNo))) (dCall F__law_ones (aCons (dBin ixD (dObs 3) (dC (.int 0))) (aCons (dBin ixD (dObs 3) (dC (.int 1))) (aCons (dBin ixD (dObs 3) (dC (.int 2))) aNil))))) (sSeq (sIf (dOr (dBin neD (dObs 5) (dObs 8)) (dBin neD (dObs 5) (dBin plusD (dBin plusD (dBin timesD (dLst (aCons (dSl slD (dObs 3) (dC .non) (dIntOnly (dC (.int 2)))) aNil)) (dC (.int 4))) (dBin timesD (dLst (aCons (dSl slD (dObs 3) (dC .non) (dIntOnly (dC (.int 1)))) aNil)) (dC (.int 3)))) (dLst (aCons (dVar 3) aNil))))) (sRet (dC (.bl false))) sNext) (sSeq (sFor [4] (iEnum (aCons (dVar 4) aNil)) (gTupD 2 (gCo (gN 9) (gCo (gN 10) gNo))) (sSeq (sFor [7] (iEnum (aCons (dVar 7) aNil)) (gTupD 2 (gCo (gN 11) (gCo (gN 12) gNo))) (sIf (dOr (dBin neD (dEqM EQT ONS false (dVar 10) (dVar 12)) (dBin eqD (dObs 9) (dObs 11))) (dBin neD (dEqM EQT ONS true (dVar 10) (dVar 12)) (dBin neD (dObs 9) (dObs 11)))) (sRet (dC (.bl false))) sNext)) (sIf (dOr (dEqM EQT ONS false (dVar 10) (dBin ixD (dObs 3) (dC (.int 0)))) (dOr (dEqM EQT ONS false (dVar 10) (dB tupleD (aCons (dBin ixD (dObs 5) (dObs 9)) aNil))) (dEqM EQT ONS false (dVar 10) (dC .non)))) (sRet (dC (.bl false))) sNext))) (sSeq (sSet 13 [] (dCall F__law_draw (aCons (dVar 1) (aCons (dC (.int 3)) aNil)))) (sSeq (sSet 14 [] (dBin plusD (dBin plusD (dSl slD (dObs 3) (dC .non) (dIntOnly (dObs 13))) (dLst (aCons (dTup (aCons (dC (.str "other")) (aCons (dBin ixD (dObs 3) (dObs 13)) aNil))) aNil))) (dSl slD (dObs 3) (dIntOnly (dBin plusD (dObs 13) (dC (.int 1)))) (dC .non)))) (sSeq (sSet 15 [] (dBin ixD (dCall F__law_ones (aCons (dBin ixD (dObs 14) (dC (.int 0))) (aCons (dBin ixD (dObs 14) (dC (.int 1))) (aCons (dBin ixD (dObs 14) (dC (.int 2))) aNil)))) (dC (.int 0)))) (sSeq (sFor [4] (iEnum (aCons (dVar 4) aNil)) (gTupD 2 (gCo (gN 9) (gCo (gN 10) gNo))) (sIf (dBin neD (dEqM EQT ONS false (dVar 10) (dBin ixD (dObs 15) (dObs 9))) (dBin geD (dObs 13) (dB lenD (aCons (dBin ixD (dObs 5) (dObs 9)) aNil)))) (sRet (dC (.bl false))) sNext)) (sRet (dC (.bl true)))))))))))))
end L_k12

set_option Elab.async false
set_option linter.all false
set_option maxRecDepth 100000
set_option maxHeartbeats 4000000
namespace L_k12
open PySem PySem.SeqAt PySem.Spec PyProof.Rows L2 DL
/-! ### what the written part says -/
structure TX (K : PySem.W.Frag) (mg : Str → Option Value) : Prop where
  o_Barred : OwnC K mg "Barred" ["tree"]
  o_Endless : OwnC K mg "Endless" ["numbers", "run"]
  o_Least : OwnC K mg "Least" ["number", "numbers", "tree"]
  o_NoPoint : OwnC K mg "NoPoint" ["weights"]
  o_NoWhole : OwnC K mg "NoWhole" ["weights", "divisor"]
  o_Numbers : OwnC K mg "Numbers" ["numbers"]
  o_Point : OwnC K mg "Point" ["tops", "bottom"]
  o_Whole : OwnC K mg "Whole" ["numbers", "steps"]
  s_Barred : IsO K mg ONS "Barred"
  s_Endless : IsO K mg ONS "Endless"
  s_Least : IsO K mg ONS "Least"
  s_NoPoint : IsO K mg ONS "NoPoint"
  s_NoWhole : IsO K mg ONS "NoWhole"
  s_Numbers : IsO K mg ONS "Numbers"
  s_Point : IsO K mg ONS "Point"
  s_Whole : IsO K mg ONS "Whole"
  b_enumerate : mg "enumerate" = none
  b_int : mg "int" = none
  b_isinstance : mg "isinstance" = none
  b_len : mg "len" = none
  b_list : mg "list" = none
  b_range : mg "range" = none
  b_tuple : mg "tuple" = none
section
variable {P : Program} {w : World} {K : PySem.W.Frag} {mg : Str → Option Value} {base : Heap} {fd : FuncData}
theorem sc__law_pen : FnScope N__law_pen ["script"] (defScope s__law_pen) := ⟨rfl, rfl, rfl, by decide +kernel, rfl, by decide +kernel, by decide +kernel⟩
theorem sc__law_draw : FnScope N__law_draw ["pen", "many"] (defScope s__law_draw) := ⟨rfl, rfl, rfl, by decide +kernel, rfl, by decide +kernel, by decide +kernel⟩
theorem sc__law_pick : FnScope N__law_pick ["pen", "some"] (defScope s__law_pick) := ⟨rfl, rfl, rfl, by decide +kernel, rfl, by decide +kernel, by decide +kernel⟩
theorem sc__law_number : FnScope N__law_number ["pen"] (defScope s__law_number) := ⟨rfl, rfl, rfl, by decide +kernel, rfl, by decide +kernel, by decide +kernel⟩
theorem sc__law_thing : FnScope N__law_thing ["pen", "deep"] (defScope s__law_thing) := ⟨rfl, rfl, rfl, by decide +kernel, rfl, by decide +kernel, by decide +kernel⟩
theorem sc__law_frozen : FnScope N__law_frozen ["value"] (defScope s__law_frozen) := ⟨rfl, rfl, rfl, by decide +kernel, rfl, by decide +kernel, by decide +kernel⟩
theorem sc_is_row : FnScope N_is_row ["value"] (defScope s_is_row) := ⟨rfl, rfl, rfl, by decide +kernel, rfl, by decide +kernel, by decide +kernel⟩
theorem sc_as_tuples : FnScope N_as_tuples ["value"] (defScope s_as_tuples) := ⟨rfl, rfl, rfl, by decide +kernel, rfl, by decide +kernel, by decide +kernel⟩
theorem sc_Point___init__ : FnScope N_Point___init__ ["self", "tops", "bottom"] (defScope s_Point___init__) := ⟨rfl, rfl, rfl, by decide +kernel, rfl, by decide +kernel, by decide +kernel⟩
theorem sc_Whole___init__ : FnScope N_Whole___init__ ["self", "numbers", "steps"] (defScope s_Whole___init__) := ⟨rfl, rfl, rfl, by decide +kernel, rfl, by decide +kernel, by decide +kernel⟩
theorem sc_NoWhole___init__ : FnScope N_NoWhole___init__ ["self", "weights", "divisor"] (defScope s_NoWhole___init__) := ⟨rfl, rfl, rfl, by decide +kernel, rfl, by decide +kernel, by decide +kernel⟩
theorem sc_Endless___init__ : FnScope N_Endless___init__ ["self", "numbers", "run"] (defScope s_Endless___init__) := ⟨rfl, rfl, rfl, by decide +kernel, rfl, by decide +kernel, by decide +kernel⟩
theorem sc_Numbers___init__ : FnScope N_Numbers___init__ ["self", "numbers"] (defScope s_Numbers___init__) := ⟨rfl, rfl, rfl, by decide +kernel, rfl, by decide +kernel, by decide +kernel⟩
theorem sc_Barred___init__ : FnScope N_Barred___init__ ["self", "tree"] (defScope s_Barred___init__) := ⟨rfl, rfl, rfl, by decide +kernel, rfl, by decide +kernel, by decide +kernel⟩
theorem sc_NoPoint___init__ : FnScope N_NoPoint___init__ ["self", "weights"] (defScope s_NoPoint___init__) := ⟨rfl, rfl, rfl, by decide +kernel, rfl, by decide +kernel, by decide +kernel⟩
theorem sc_Least___init__ : FnScope N_Least___init__ ["self", "number", "numbers", "tree"] (defScope s_Least___init__) := ⟨rfl, rfl, rfl, by decide +kernel, rfl, by decide +kernel, by decide +kernel⟩
theorem sc__law_ones : FnScope N__law_ones ["a", "b", "c"] (defScope s__law_ones) := ⟨rfl, rfl, rfl, by decide +kernel, rfl, by decide +kernel, by decide +kernel⟩
theorem sc__law_spoil : FnScope N__law_spoil ["value"] (defScope s__law_spoil) := ⟨rfl, rfl, rfl, by decide +kernel, rfl, by decide +kernel, by decide +kernel⟩
theorem sc_Whole___eq__ : FnScope N_Whole___eq__ ["self", "other"] (defScope s_Whole___eq__) := ⟨rfl, rfl, rfl, by decide +kernel, rfl, by decide +kernel, by decide +kernel⟩
theorem sc_NoWhole___eq__ : FnScope N_NoWhole___eq__ ["self", "other"] (defScope s_NoWhole___eq__) := ⟨rfl, rfl, rfl, by decide +kernel, rfl, by decide +kernel, by decide +kernel⟩
theorem sc_Numbers___eq__ : FnScope N_Numbers___eq__ ["self", "other"] (defScope s_Numbers___eq__) := ⟨rfl, rfl, rfl, by decide +kernel, rfl, by decide +kernel, by decide +kernel⟩
theorem sc_Barred___eq__ : FnScope N_Barred___eq__ ["self", "other"] (defScope s_Barred___eq__) := ⟨rfl, rfl, rfl, by decide +kernel, rfl, by decide +kernel, by decide +kernel⟩
theorem sc_Least___eq__ : FnScope N_Least___eq__ ["self", "other"] (defScope s_Least___eq__) := ⟨rfl, rfl, rfl, by decide +kernel, rfl, by decide +kernel, by decide +kernel⟩
theorem sc_Endless___eq__ : FnScope N_Endless___eq__ ["self", "other"] (defScope s_Endless___eq__) := ⟨rfl, rfl, rfl, by decide +kernel, rfl, by decide +kernel, by decide +kernel⟩
theorem sc_Point___eq__ : FnScope N_Point___eq__ ["self", "other"] (defScope s_Point___eq__) := ⟨rfl, rfl, rfl, by decide +kernel, rfl, by decide +kernel, by decide +kernel⟩
theorem sc_NoPoint___eq__ : FnScope N_NoPoint___eq__ ["self", "other"] (defScope s_NoPoint___eq__) := ⟨rfl, rfl, rfl, by decide +kernel, rfl, by decide +kernel, by decide +kernel⟩
theorem sc_law : FnScope N_law ["script"] (defScope s_law) := ⟨rfl, rfl, rfl, by decide +kernel, rfl, by decide +kernel, by decide +kernel⟩
theorem ok__law_pen (F : Fun K "_law_pen" "_law_pen" s__law_pen (He.ga K "_law_pen") fd) (T : TX K mg) : FnOk P w K mg base (L2.CX P w) 1 (He.ga K "_law_pen") fd ["script"] (spPen K) :=
  pen_ok (a := 67) (m := 1000000033) F sc__law_pen rfl rfl (by decide) (by decide) fun cdv A outer s H E => pss_cons (ps_set sc__law_pen.nd rfl (Or.inl rfl) pe_int) (pss_cons (ps_for (passes_of rfl) rfl (pi_list (pv 0)) (pg_name (i := 2) sc__law_pen.nd rfl (Or.inl rfl))
    (pss_one (ps_set sc__law_pen.nd rfl (Or.inl rfl) (pe_op op_mod (pe_callTy call_int1 rfl T.b_int boot_int (pa_cons (pe_op op_add (pe_op op_mul (pv 1) pe_int) (pv 2)) pa_nil)) pe_int))))
    (pss_one (ps_ret (pe_disp (pps_cons pe_str (pe_callTy call_list_of rfl T.b_list boot_list (pa_cons (pv 0) pa_nil)) (pps_cons pe_str pe_int (pps_cons pe_str pe_int (pps_cons pe_str pe_int (pps_cons pe_str (pv 1) pps_nil))))) rfl rfl (by decide) (by decide)))))
theorem ok__law_draw (F : Fun K "_law_draw" "_law_draw" s__law_draw (He.ga K "_law_draw") fd) (hm : mg "_law_draw" = some (.ref (He.ga K "_law_draw"))) (T : TX K mg) : Callee P w K mg base "_law_draw" 2 2 F__law_draw := by
  have S := sc__law_draw
  refine callee_of (k := 1) F S hm rfl (F.binds (ps := ["pen", "many"]) fun _ _ _ _ _ _ us hl => match us, hl with | [_, _], _ => rfl) fun cdv A outer s H E hc hr => ?_
  have tk : Takes (cxOf (L2.CX P w) P w K mg base N__law_draw "_law_draw" (defScope s__law_draw) (He.ga K "_law_draw") cdv A outer s H E) (fun cls d _ H => E cls d H) := takes_of rfl rfl rfl rfl
  have hu : ((cxOf (L2.CX P w) P w K mg base N__law_draw "_law_draw" (defScope s__law_draw) (He.ga K "_law_draw") cdv A outer s H E)).A.units + 64 < cLine := by have := hr.un; show (A.deeper _).units + 64 < cLine; omega
  have hu65 : ((cxOf (L2.CX P w) P w K mg base N__law_draw "_law_draw" (defScope s__law_draw) (He.ga K "_law_draw") cdv A outer s H E)).A.units + 65 < cLine := by have := hr.un; show (A.deeper _).units + 65 < cLine; omega
  have hu1 : ((cxOf (L2.CX P w) P w K mg base N__law_draw "_law_draw" (defScope s__law_draw) (He.ga K "_law_draw") cdv A outer s H E)).A.units + 1 < cLine := by omega
  exact (vs_cons (vp_put 0 hu1 putCt_ok (ve_bin od_plus (ve_o (vp_get 0 Wd.ct hu1)) (ve_o ve_int))) (vs_cons (vs_if (vt_w (vw_and (vt_cmp (od_eq hu) (ve_o (vp_get 0 Wd.dg hu1)) (ve_o ve_int)) (vw_and1 (vt_cmp od_lt (ve_o (vp_get 0 Wd.at_ hu1)) (ve_o (vp_len 0 hu1 T.b_len)))))) (vs_cons (vs_set (i := 2) [] S.nd (vp_cell 0 hu1)) (vs_cons (vp_put 0 hu1 putAt_ok (ve_bin od_plus (ve_o (vp_get 0 Wd.at_ hu1)) (ve_o ve_int))) (vs_one (vs_if (vt_cmp od_ge (vo_var 2) (ve_o (ve_bin od_pow (ve_o ve_int) (ve_o ve_int)))) (vs_one (vp_put 0 hu1 putDg_ok (ve_bin od_sub (vo_var 2) (ve_o (ve_bin od_pow (ve_o ve_int) (ve_o ve_int)))))) (vs_one (vp_put 0 hu1 putFo_ok (ve_bin od_mod (ve_o (ve_callTy cd_int T.b_int boot_int (va_cons (ve_o (ve_bin od_plus (ve_o (ve_bin od_times (ve_o (vp_get 0 Wd.fo hu1)) (ve_o ve_int))) (vo_var 2))) va_nil))) (ve_o ve_int)))))))) vs_nil) (vs_cons (vs_if (vt_cmp od_gt (ve_o (vp_get 0 Wd.dg hu1)) (ve_o ve_int)) (vs_cons (vs_set (i := 3) [] S.nd (ve_bin od_mod (ve_o (ve_callTy cd_int T.b_int boot_int (va_cons (ve_o (vp_get 0 Wd.dg hu1)) va_nil))) (vo_var 1))) (vs_cons (vp_put 0 hu1 putDg_ok (ve_bin od_fdiv (ve_o (vp_get 0 Wd.dg hu1)) (vo_var 1))) (vs_one (vs_ret (ve_var 3))))) vs_nil) (vs_cons (vs_set (i := 4) [] S.nd (ve_bin od_mod (ve_o (ve_callTy cd_int T.b_int boot_int (va_cons (ve_o (ve_bin od_plus (ve_o (ve_bin od_plus (ve_o (ve_bin od_times (ve_o (vp_get 0 Wd.fo hu1)) (ve_o ve_int))) (ve_o (ve_bin od_times (ve_o (vp_get 0 Wd.ct hu1)) (ve_o ve_int))))) (ve_o ve_int))) va_nil))) (ve_o ve_int))) (vs_cons (vs_set (i := 4) [] S.nd (ve_bin od_mod (ve_o (ve_callTy cd_int T.b_int boot_int (va_cons (ve_o (ve_bin od_plus (ve_o (ve_bin od_plus (ve_o (ve_bin od_times (vo_var 4) (vo_var 4))) (ve_o (ve_bin od_times (ve_o ve_int) (vo_var 4))))) (ve_o (vp_get 0 Wd.ct hu1)))) va_nil))) (ve_o ve_int))) (vs_cons (vp_put 0 hu1 putFo_ok (ve_bin od_mod (ve_o (ve_callTy cd_int T.b_int boot_int (va_cons (ve_o (ve_bin od_plus (ve_o (ve_bin od_times (vo_var 4) (ve_o ve_int))) (ve_o ve_int))) va_nil))) (ve_o ve_int))) (vs_one (vs_ret (ve_bin od_mod (ve_o (ve_callTy cd_int T.b_int boot_int (va_cons (ve_o (ve_bin od_fdiv (vo_var 4) (ve_o ve_int))) va_nil))) (vo_var 1))))))))))
theorem ok__law_pick (F : Fun K "_law_pick" "_law_pick" s__law_pick (He.ga K "_law_pick") fd) (hm : mg "_law_pick" = some (.ref (He.ga K "_law_pick"))) (T : TX K mg) (C__law_draw : Callee P w K mg base "_law_draw" 2 2 F__law_draw) : Callee P w K mg base "_law_pick" 3 2 F__law_pick := by
  have S := sc__law_pick
  refine callee_of (k := 2) F S hm rfl (F.binds (ps := ["pen", "some"]) fun _ _ _ _ _ _ us hl => match us, hl with | [_, _], _ => rfl) fun cdv A outer s H E hc hr => ?_
  have tk : Takes (cxOf (L2.CX P w) P w K mg base N__law_pick "_law_pick" (defScope s__law_pick) (He.ga K "_law_pick") cdv A outer s H E) (fun cls d _ H => E cls d H) := takes_of rfl rfl rfl rfl
  have hu : ((cxOf (L2.CX P w) P w K mg base N__law_pick "_law_pick" (defScope s__law_pick) (He.ga K "_law_pick") cdv A outer s H E)).A.units + 64 < cLine := by have := hr.un; show (A.deeper _).units + 64 < cLine; omega
  have hu65 : ((cxOf (L2.CX P w) P w K mg base N__law_pick "_law_pick" (defScope s__law_pick) (He.ga K "_law_pick") cdv A outer s H E)).A.units + 65 < cLine := by have := hr.un; show (A.deeper _).units + 65 < cLine; omega
  have hu1 : ((cxOf (L2.CX P w) P w K mg base N__law_pick "_law_pick" (defScope s__law_pick) (He.ga K "_law_pick") cdv A outer s H E)).A.units + 1 < cLine := by omega
  exact (vs_one (vs_ret (ve_ix (vo_var 1) (ve_o (ve_fn C__law_draw tk (hr.mono (by decide)) (va_cons (ve_var 0) (va_cons (ve_callB cd_len T.b_len boot_len (va_cons (vo_var 1) va_nil)) va_nil)) (al (al al_nil)))))))
theorem ok__law_number (F : Fun K "_law_number" "_law_number" s__law_number (He.ga K "_law_number") fd) (hm : mg "_law_number" = some (.ref (He.ga K "_law_number"))) (T : TX K mg) (C__law_draw : Callee P w K mg base "_law_draw" 2 2 F__law_draw) (C__law_pick : Callee P w K mg base "_law_pick" 3 2 F__law_pick) : Callee P w K mg base "_law_number" 4 1 F__law_number := by
  have S := sc__law_number
  refine callee_of (k := 3) F S hm rfl (F.binds (ps := ["pen"]) fun _ _ _ _ _ _ us hl => match us, hl with | [_], _ => rfl) fun cdv A outer s H E hc hr => ?_
  have tk : Takes (cxOf (L2.CX P w) P w K mg base N__law_number "_law_number" (defScope s__law_number) (He.ga K "_law_number") cdv A outer s H E) (fun cls d _ H => E cls d H) := takes_of rfl rfl rfl rfl
  have hu : ((cxOf (L2.CX P w) P w K mg base N__law_number "_law_number" (defScope s__law_number) (He.ga K "_law_number") cdv A outer s H E)).A.units + 64 < cLine := by have := hr.un; show (A.deeper _).units + 64 < cLine; omega
  have hu65 : ((cxOf (L2.CX P w) P w K mg base N__law_number "_law_number" (defScope s__law_number) (He.ga K "_law_number") cdv A outer s H E)).A.units + 65 < cLine := by have := hr.un; show (A.deeper _).units + 65 < cLine; omega
  have hu1 : ((cxOf (L2.CX P w) P w K mg base N__law_number "_law_number" (defScope s__law_number) (He.ga K "_law_number") cdv A outer s H E)).A.units + 1 < cLine := by omega
  exact (vs_cons (vs_par (i := 1) (j := 2) [] false false rfl S.nd (by decide) rfl rfl (ve_fn C__law_pick tk (hr.mono (by decide)) (va_cons (ve_var 0) (va_cons (ve_f (vf_lst (va_cons ve_int (va_cons ve_int (va_cons ve_int (va_cons ve_int (va_cons ve_int (va_cons ve_int (va_cons ve_int va_nil))))))))) va_nil)) (al (al al_nil))) ve_int) (vs_cons (vs_for [] (passes_of rfl) rfl (vi_range1 T.b_range (va_cons (vo_var 1) va_nil)) (vg_name 3 S.nd) (vs_one (vs_set (i := 2) [] S.nd (ve_bin od_plus (ve_o (ve_bin od_times (vo_var 2) (ve_o ve_int))) (ve_o (ve_fn C__law_draw tk (hr.mono (by decide)) (va_cons (ve_var 0) (va_cons ve_int va_nil)) (al (al al_nil)))))))) (vs_one (vs_ret (ve_if (vt_cmp (od_eq hu) (ve_o (ve_fn C__law_draw tk (hr.mono (by decide)) (va_cons (ve_var 0) (va_cons ve_int va_nil)) (al (al al_nil)))) (ve_o ve_int)) (ve_var 2) (ve_un ud_neg (vo_var 2)))))))
theorem okS__law_thing {n : Nat} {Fs : List D → Wd → Res} (F : Fun K "_law_thing" "_law_thing" s__law_thing (He.ga K "_law_thing") fd) (hm : mg "_law_thing" = some (.ref (He.ga K "_law_thing"))) (T : TX K mg) (C__law_draw : Callee P w K mg base "_law_draw" 2 2 F__law_draw) (C__law_number : Callee P w K mg base "_law_number" 4 1 F__law_number) (C__law_pick : Callee P w K mg base "_law_pick" 3 2 F__law_pick) (C_self : Callee P w K mg base "_law_thing" (4 + n) 2 Fs) : Callee P w K mg base "_law_thing" (4 + n + 1) 2 (runD 5 (g__law_thing Fs)) := by
  have S := sc__law_thing
  refine callee_of (k := 4 + n) F S hm rfl (F.binds (ps := ["pen", "deep"]) fun _ _ _ _ _ _ us hl => match us, hl with | [_, _], _ => rfl) fun cdv A outer s H E hc hr => ?_
  have tk : Takes (cxOf (L2.CX P w) P w K mg base N__law_thing "_law_thing" (defScope s__law_thing) (He.ga K "_law_thing") cdv A outer s H E) (fun cls d _ H => E cls d H) := takes_of rfl rfl rfl rfl
  have hu : ((cxOf (L2.CX P w) P w K mg base N__law_thing "_law_thing" (defScope s__law_thing) (He.ga K "_law_thing") cdv A outer s H E)).A.units + 64 < cLine := by have := hr.un; show (A.deeper _).units + 64 < cLine; omega
  have hu65 : ((cxOf (L2.CX P w) P w K mg base N__law_thing "_law_thing" (defScope s__law_thing) (He.ga K "_law_thing") cdv A outer s H E)).A.units + 65 < cLine := by have := hr.un; show (A.deeper _).units + 65 < cLine; omega
  have hu1 : ((cxOf (L2.CX P w) P w K mg base N__law_thing "_law_thing" (defScope s__law_thing) (He.ga K "_law_thing") cdv A outer s H E)).A.units + 1 < cLine := by omega
  exact (vs_cons (vs_set (i := 2) [] S.nd (ve_fn C__law_draw tk (hr.mono (by omega)) (va_cons (ve_var 0) (va_cons ve_int va_nil)) (al (al al_nil)))) (vs_cons (vs_if (vt_w (vw_or (vt_cmp od_lt (vo_var 2) (ve_o ve_int)) (vw_or1 (vt_cmp (od_eq hu) (vo_var 1) (ve_o ve_int))))) (vs_one (vs_ret (ve_fn C__law_pick tk (hr.mono (by omega)) (va_cons (ve_var 0) (va_cons (ve_f (vf_lst (va_cons ve_int (va_cons ve_int (va_cons (ve_un ud_neg (ve_o ve_int)) (va_cons ve_non (va_cons ve_str (va_cons ve_bl (va_cons (ve_fn C__law_number tk (hr.mono (by omega)) (va_cons (ve_var 0) va_nil) (al al_nil)) va_nil))))))))) va_nil)) (al (al al_nil))))) vs_nil) (vs_cons (vs_setC (i := 3) (own := [("k", 4)]) [] rfl S.nd rfl rfl (vi_range1 T.b_range (va_cons (ve_o (ve_fn C__law_draw tk (hr.mono (by omega)) (va_cons (ve_var 0) (va_cons ve_int va_nil)) (al (al al_nil)))) va_nil)) (blkOk_by rfl) (fun _ _ _ _ _ => (vg_name 4 S.nd)) (fun _ _ _ _ _ => vts_nil) (fun _ _ _ _ _ => (ve_fn C_self takes0 (hr.mono (by omega)) (va_cons (ve_var 0) (va_cons (ve_bin od_sub (vo_var 1) (ve_o ve_int)) va_nil)) (al (al al_nil))))) (vs_one (vs_ret (ve_if (vt_cmp od_lt (vo_var 2) (ve_o ve_int)) (ve_var 3) (ve_callTy cd_tuple T.b_tuple boot_tuple (va_cons (vo_var 3) va_nil))))))))
theorem ok__law_thing (F : Fun K "_law_thing" "_law_thing" s__law_thing (He.ga K "_law_thing") fd) (hm : mg "_law_thing" = some (.ref (He.ga K "_law_thing"))) (T : TX K mg) (C__law_draw : Callee P w K mg base "_law_draw" 2 2 F__law_draw) (C__law_number : Callee P w K mg base "_law_number" 4 1 F__law_number) (C__law_pick : Callee P w K mg base "_law_pick" 3 2 F__law_pick) : Callee P w K mg base "_law_thing" 9 2 F__law_thing := by
  have h : ∀ n, Callee P w K mg base "_law_thing" (4 + 1 + n) 2 (FR__law_thing n) := fun n => by
    induction n with
    | zero => exact callee_bad (k := 4) F sc__law_thing hm rfl (F.binds (ps := ["pen", "deep"]) fun _ _ _ _ _ _ us hl => match us, hl with | [_, _], _ => rfl)
    | succ n ih => exact (okS__law_thing (n := n + 1) F hm T C__law_draw C__law_number C__law_pick (ih.mono (by omega))).mono (by omega)
  exact h 4
theorem okS__law_frozen {n : Nat} {Fs : List D → Wd → Res} (F : Fun K "_law_frozen" "_law_frozen" s__law_frozen (He.ga K "_law_frozen") fd) (hm : mg "_law_frozen" = some (.ref (He.ga K "_law_frozen"))) (T : TX K mg) (C_self : Callee P w K mg base "_law_frozen" (1 + n) 1 Fs) : Callee P w K mg base "_law_frozen" (1 + n + 1) 1 (runD 2 (g__law_frozen Fs)) := by
  have S := sc__law_frozen
  refine callee_of (k := 1 + n) F S hm rfl (F.binds (ps := ["value"]) fun _ _ _ _ _ _ us hl => match us, hl with | [_], _ => rfl) fun cdv A outer s H E hc hr => ?_
  have tk : Takes (cxOf (L2.CX P w) P w K mg base N__law_frozen "_law_frozen" (defScope s__law_frozen) (He.ga K "_law_frozen") cdv A outer s H E) (fun cls d _ H => E cls d H) := takes_of rfl rfl rfl rfl
  have hu : ((cxOf (L2.CX P w) P w K mg base N__law_frozen "_law_frozen" (defScope s__law_frozen) (He.ga K "_law_frozen") cdv A outer s H E)).A.units + 64 < cLine := by have := hr.un; show (A.deeper _).units + 64 < cLine; omega
  have hu65 : ((cxOf (L2.CX P w) P w K mg base N__law_frozen "_law_frozen" (defScope s__law_frozen) (He.ga K "_law_frozen") cdv A outer s H E)).A.units + 65 < cLine := by have := hr.un; show (A.deeper _).units + 65 < cLine; omega
  have hu1 : ((cxOf (L2.CX P w) P w K mg base N__law_frozen "_law_frozen" (defScope s__law_frozen) (He.ga K "_law_frozen") cdv A outer s H E)).A.units + 1 < cLine := by omega
  exact (vs_cons (vs_if (vt_w (vw_and (vt_not (vt_val (ve_o (ve_isi T.b_isinstance T.b_list boot_list (vo_var 0))))) (vw_and1 (vt_not (vt_val (ve_o (ve_isi T.b_isinstance T.b_tuple boot_tuple (vo_var 0)))))))) (vs_one (vs_ret (ve_var 0))) vs_nil) (vs_one (vs_ret (ve_callTy cd_tuple T.b_tuple boot_tuple (va_cons (ve_o (ve_f (vf_comp (own := [("one", 1)]) rfl S.nd (vi_seq st_o (vo_var 0)) (blkOk_by rfl) (fun _ _ _ _ _ => (vg_name 1 S.nd)) (fun _ _ _ _ _ => vts_nil) (fun _ _ _ _ _ => (ve_fn C_self takes0 (hr.mono (by omega)) (va_cons (ve_var 1) va_nil) (al al_nil)))))) va_nil)))))
theorem ok__law_frozen (F : Fun K "_law_frozen" "_law_frozen" s__law_frozen (He.ga K "_law_frozen") fd) (hm : mg "_law_frozen" = some (.ref (He.ga K "_law_frozen"))) (T : TX K mg) : Callee P w K mg base "_law_frozen" 7 1 F__law_frozen := by
  have h : ∀ n, Callee P w K mg base "_law_frozen" (1 + 1 + n) 1 (FR__law_frozen n) := fun n => by
    induction n with
    | zero => exact callee_bad (k := 1) F sc__law_frozen hm rfl (F.binds (ps := ["value"]) fun _ _ _ _ _ _ us hl => match us, hl with | [_], _ => rfl)
    | succ n ih => exact (okS__law_frozen (n := n + 1) F hm T (ih.mono (by omega))).mono (by omega)
  exact h 5
theorem ok_is_row (F : Fun K "is_row" "is_row" s_is_row (He.ga K "is_row") fd) (hm : mg "is_row" = some (.ref (He.ga K "is_row"))) (T : TX K mg) : Callee P w K mg base "is_row" 2 1 F_is_row := by
  have S := sc_is_row
  refine callee_of (k := 1) F S hm rfl (F.binds (ps := ["value"]) fun _ _ _ _ _ _ us hl => match us, hl with | [_], _ => rfl) fun cdv A outer s H E hc hr => ?_
  have tk : Takes (cxOf (L2.CX P w) P w K mg base N_is_row "is_row" (defScope s_is_row) (He.ga K "is_row") cdv A outer s H E) (fun cls d _ H => E cls d H) := takes_of rfl rfl rfl rfl
  have hu : ((cxOf (L2.CX P w) P w K mg base N_is_row "is_row" (defScope s_is_row) (He.ga K "is_row") cdv A outer s H E)).A.units + 64 < cLine := by have := hr.un; show (A.deeper _).units + 64 < cLine; omega
  have hu65 : ((cxOf (L2.CX P w) P w K mg base N_is_row "is_row" (defScope s_is_row) (He.ga K "is_row") cdv A outer s H E)).A.units + 65 < cLine := by have := hr.un; show (A.deeper _).units + 65 < cLine; omega
  have hu1 : ((cxOf (L2.CX P w) P w K mg base N_is_row "is_row" (defScope s_is_row) (He.ga K "is_row") cdv A outer s H E)).A.units + 1 < cLine := by omega
  exact (vs_one (vs_ret (ve_isiT T.b_isinstance T.b_tuple boot_tuple T.b_list boot_list (vo_var 0))))
theorem okS_as_tuples {n : Nat} {Fs : List D → Wd → Res} (F : Fun K "as_tuples" "as_tuples" s_as_tuples (He.ga K "as_tuples") fd) (hm : mg "as_tuples" = some (.ref (He.ga K "as_tuples"))) (T : TX K mg) (C_is_row : Callee P w K mg base "is_row" 2 1 F_is_row) (C_self : Callee P w K mg base "as_tuples" (2 + n) 1 Fs) : Callee P w K mg base "as_tuples" (2 + n + 1) 1 (runD 2 (g_as_tuples Fs)) := by
  have S := sc_as_tuples
  refine callee_of (k := 2 + n) F S hm rfl (F.binds (ps := ["value"]) fun _ _ _ _ _ _ us hl => match us, hl with | [_], _ => rfl) fun cdv A outer s H E hc hr => ?_
  have tk : Takes (cxOf (L2.CX P w) P w K mg base N_as_tuples "as_tuples" (defScope s_as_tuples) (He.ga K "as_tuples") cdv A outer s H E) (fun cls d _ H => E cls d H) := takes_of rfl rfl rfl rfl
  have hu : ((cxOf (L2.CX P w) P w K mg base N_as_tuples "as_tuples" (defScope s_as_tuples) (He.ga K "as_tuples") cdv A outer s H E)).A.units + 64 < cLine := by have := hr.un; show (A.deeper _).units + 64 < cLine; omega
  have hu65 : ((cxOf (L2.CX P w) P w K mg base N_as_tuples "as_tuples" (defScope s_as_tuples) (He.ga K "as_tuples") cdv A outer s H E)).A.units + 65 < cLine := by have := hr.un; show (A.deeper _).units + 65 < cLine; omega
  have hu1 : ((cxOf (L2.CX P w) P w K mg base N_as_tuples "as_tuples" (defScope s_as_tuples) (He.ga K "as_tuples") cdv A outer s H E)).A.units + 1 < cLine := by omega
  exact (vs_cons (vs_if (vt_not (vt_val (ve_o (ve_fn C_is_row tk (hr.mono (by omega)) (va_cons (ve_var 0) va_nil) (al al_nil))))) (vs_one (vs_ret (ve_var 0))) vs_nil) (vs_one (vs_ret (ve_callTy cd_tuple T.b_tuple boot_tuple (va_cons (ve_o (ve_f (vf_comp (own := [("one", 1)]) rfl S.nd (vi_seq st_o (vo_var 0)) (blkOk_by rfl) (fun _ _ _ _ _ => (vg_name 1 S.nd)) (fun _ _ _ _ _ => vts_nil) (fun _ _ _ _ _ => (ve_fn C_self takes0 (hr.mono (by omega)) (va_cons (ve_var 1) va_nil) (al al_nil)))))) va_nil)))))
theorem ok_as_tuples (F : Fun K "as_tuples" "as_tuples" s_as_tuples (He.ga K "as_tuples") fd) (hm : mg "as_tuples" = some (.ref (He.ga K "as_tuples"))) (T : TX K mg) (C_is_row : Callee P w K mg base "is_row" 2 1 F_is_row) : Callee P w K mg base "as_tuples" 9 1 F_as_tuples := by
  have h : ∀ n, Callee P w K mg base "as_tuples" (2 + 1 + n) 1 (FR_as_tuples n) := fun n => by
    induction n with
    | zero => exact callee_bad (k := 2) F sc_as_tuples hm rfl (F.binds (ps := ["value"]) fun _ _ _ _ _ _ us hl => match us, hl with | [_], _ => rfl)
    | succ n ih => exact (okS_as_tuples (n := n + 1) F hm T C_is_row (ih.mono (by omega))).mono (by omega)
  exact (h 6).brw
theorem ok_Point___init__ (F : Fun K "__init__" "Point.__init__" s_Point___init__ (He.ma K (He.ga K "Point") "__init__") fd) (hm : (He.Fa.mkr "Point").ok K = true) (hg : mg "Point" = some (.ref (He.ga K "Point"))) (T : TX K mg) (C_as_tuples : Callee P w K mg base "as_tuples" 9 1 F_as_tuples) : CalleeI P w K mg base "Point" 10 2 F_Point___init__ := by
  have S := sc_Point___init__
  have hb0 : Binds K fd ["self", "tops", "bottom"] [] := F.binds (ps := ["self", "tops", "bottom"]) fun _ _ _ _ _ _ us hl => match us, hl with | [_, _, _], _ => rfl
  have al0 : AL g_Point___init__ (["tops", "bottom"] : List Str).length := (al (al al_nil))
  have fo : FnOk P w K mg base (L2.CX P w) (9 + 1) (He.ma K (He.ga K "Point") "__init__") fd ["self", "tops", "bottom"] (spI K mg "Point" 2 (runF "Point" N_Point___init__.length ["tops", "bottom"] g_Point___init__)) := by
    refine initF_ok (k := 9) (m := 2) (fl := ["tops", "bottom"]) (fa := g_Point___init__) F S rfl hg (by decide) (by decide) al0 (by decide) fun cdv A outer s H E hc hr => ?_
    have tk : Takes (cxOf (L2.CX P w) P w K mg base N_Point___init__ "Point.__init__" (defScope s_Point___init__) (He.ma K (He.ga K "Point") "__init__") cdv A outer s H E) (fun cls d _ H => E cls d H) := takes_of rfl rfl rfl rfl
    have hu : ((cxOf (L2.CX P w) P w K mg base N_Point___init__ "Point.__init__" (defScope s_Point___init__) (He.ma K (He.ga K "Point") "__init__") cdv A outer s H E)).A.units + 64 < cLine := by have := hr.un; show (A.deeper _).units + 64 < cLine; omega
    have hu65 : ((cxOf (L2.CX P w) P w K mg base N_Point___init__ "Point.__init__" (defScope s_Point___init__) (He.ma K (He.ga K "Point") "__init__") cdv A outer s H E)).A.units + 65 < cLine := by have := hr.un; show (A.deeper _).units + 65 < cLine; omega
    have hu1 : ((cxOf (L2.CX P w) P w K mg base N_Point___init__ "Point.__init__" (defScope s_Point___init__) (He.ma K (He.ga K "Point") "__init__") cdv A outer s H E)).A.units + 1 < cLine := by omega
    exact (vif_cons T.o_Point (by decide) (ve_fn C_as_tuples tk (hr.mono (by decide)) (va_cons (ve_var 1) va_nil) (al al_nil)) (vif_cons T.o_Point (by decide) (ve_fn C_as_tuples tk (hr.mono (by decide)) (va_cons (ve_var 2) va_nil) (al al_nil)) vif_nil))
  exact ⟨_, _, fd, _, fo, hg, He.mkr_ok hm, hb0⟩
theorem ok_Whole___init__ (F : Fun K "__init__" "Whole.__init__" s_Whole___init__ (He.ma K (He.ga K "Whole") "__init__") fd) (hm : (He.Fa.mkr "Whole").ok K = true) (hg : mg "Whole" = some (.ref (He.ga K "Whole"))) (T : TX K mg) (C_as_tuples : Callee P w K mg base "as_tuples" 9 1 F_as_tuples) : CalleeI P w K mg base "Whole" 10 2 F_Whole___init__ := by
  have S := sc_Whole___init__
  have hb0 : Binds K fd ["self", "numbers", "steps"] [] := F.binds (ps := ["self", "numbers", "steps"]) fun _ _ _ _ _ _ us hl => match us, hl with | [_, _, _], _ => rfl
  have al0 : AL g_Whole___init__ (["numbers", "steps"] : List Str).length := (al (al al_nil))
  have fo : FnOk P w K mg base (L2.CX P w) (9 + 1) (He.ma K (He.ga K "Whole") "__init__") fd ["self", "numbers", "steps"] (spI K mg "Whole" 2 (runF "Whole" N_Whole___init__.length ["numbers", "steps"] g_Whole___init__)) := by
    refine initF_ok (k := 9) (m := 2) (fl := ["numbers", "steps"]) (fa := g_Whole___init__) F S rfl hg (by decide) (by decide) al0 (by decide) fun cdv A outer s H E hc hr => ?_
    have tk : Takes (cxOf (L2.CX P w) P w K mg base N_Whole___init__ "Whole.__init__" (defScope s_Whole___init__) (He.ma K (He.ga K "Whole") "__init__") cdv A outer s H E) (fun cls d _ H => E cls d H) := takes_of rfl rfl rfl rfl
    have hu : ((cxOf (L2.CX P w) P w K mg base N_Whole___init__ "Whole.__init__" (defScope s_Whole___init__) (He.ma K (He.ga K "Whole") "__init__") cdv A outer s H E)).A.units + 64 < cLine := by have := hr.un; show (A.deeper _).units + 64 < cLine; omega
    have hu65 : ((cxOf (L2.CX P w) P w K mg base N_Whole___init__ "Whole.__init__" (defScope s_Whole___init__) (He.ma K (He.ga K "Whole") "__init__") cdv A outer s H E)).A.units + 65 < cLine := by have := hr.un; show (A.deeper _).units + 65 < cLine; omega
    have hu1 : ((cxOf (L2.CX P w) P w K mg base N_Whole___init__ "Whole.__init__" (defScope s_Whole___init__) (He.ma K (He.ga K "Whole") "__init__") cdv A outer s H E)).A.units + 1 < cLine := by omega
    exact (vif_cons T.o_Whole (by decide) (ve_fn C_as_tuples tk (hr.mono (by decide)) (va_cons (ve_var 1) va_nil) (al al_nil)) (vif_cons T.o_Whole (by decide) (ve_fn C_as_tuples tk (hr.mono (by decide)) (va_cons (ve_var 2) va_nil) (al al_nil)) vif_nil))
  exact ⟨_, _, fd, _, fo, hg, He.mkr_ok hm, hb0⟩
theorem ok_NoWhole___init__ (F : Fun K "__init__" "NoWhole.__init__" s_NoWhole___init__ (He.ma K (He.ga K "NoWhole") "__init__") fd) (hm : (He.Fa.mkr "NoWhole").ok K = true) (hg : mg "NoWhole" = some (.ref (He.ga K "NoWhole"))) (T : TX K mg) (C_as_tuples : Callee P w K mg base "as_tuples" 9 1 F_as_tuples) : CalleeI P w K mg base "NoWhole" 10 2 F_NoWhole___init__ := by
  have S := sc_NoWhole___init__
  have hb0 : Binds K fd ["self", "weights", "divisor"] [] := F.binds (ps := ["self", "weights", "divisor"]) fun _ _ _ _ _ _ us hl => match us, hl with | [_, _, _], _ => rfl
  have al0 : AL g_NoWhole___init__ (["weights", "divisor"] : List Str).length := (al (al al_nil))
  have fo : FnOk P w K mg base (L2.CX P w) (9 + 1) (He.ma K (He.ga K "NoWhole") "__init__") fd ["self", "weights", "divisor"] (spI K mg "NoWhole" 2 (runF "NoWhole" N_NoWhole___init__.length ["weights", "divisor"] g_NoWhole___init__)) := by
    refine initF_ok (k := 9) (m := 2) (fl := ["weights", "divisor"]) (fa := g_NoWhole___init__) F S rfl hg (by decide) (by decide) al0 (by decide) fun cdv A outer s H E hc hr => ?_
    have tk : Takes (cxOf (L2.CX P w) P w K mg base N_NoWhole___init__ "NoWhole.__init__" (defScope s_NoWhole___init__) (He.ma K (He.ga K "NoWhole") "__init__") cdv A outer s H E) (fun cls d _ H => E cls d H) := takes_of rfl rfl rfl rfl
    have hu : ((cxOf (L2.CX P w) P w K mg base N_NoWhole___init__ "NoWhole.__init__" (defScope s_NoWhole___init__) (He.ma K (He.ga K "NoWhole") "__init__") cdv A outer s H E)).A.units + 64 < cLine := by have := hr.un; show (A.deeper _).units + 64 < cLine; omega
    have hu65 : ((cxOf (L2.CX P w) P w K mg base N_NoWhole___init__ "NoWhole.__init__" (defScope s_NoWhole___init__) (He.ma K (He.ga K "NoWhole") "__init__") cdv A outer s H E)).A.units + 65 < cLine := by have := hr.un; show (A.deeper _).units + 65 < cLine; omega
    have hu1 : ((cxOf (L2.CX P w) P w K mg base N_NoWhole___init__ "NoWhole.__init__" (defScope s_NoWhole___init__) (He.ma K (He.ga K "NoWhole") "__init__") cdv A outer s H E)).A.units + 1 < cLine := by omega
    exact (vif_cons T.o_NoWhole (by decide) (ve_fn C_as_tuples tk (hr.mono (by decide)) (va_cons (ve_var 1) va_nil) (al al_nil)) (vif_cons T.o_NoWhole (by decide) (ve_fn C_as_tuples tk (hr.mono (by decide)) (va_cons (ve_var 2) va_nil) (al al_nil)) vif_nil))
  exact ⟨_, _, fd, _, fo, hg, He.mkr_ok hm, hb0⟩
theorem ok_Endless___init__ (F : Fun K "__init__" "Endless.__init__" s_Endless___init__ (He.ma K (He.ga K "Endless") "__init__") fd) (hm : (He.Fa.mkr "Endless").ok K = true) (hg : mg "Endless" = some (.ref (He.ga K "Endless"))) (T : TX K mg) (C_as_tuples : Callee P w K mg base "as_tuples" 9 1 F_as_tuples) : CalleeI P w K mg base "Endless" 10 2 F_Endless___init__ := by
  have S := sc_Endless___init__
  have hb0 : Binds K fd ["self", "numbers", "run"] [] := F.binds (ps := ["self", "numbers", "run"]) fun _ _ _ _ _ _ us hl => match us, hl with | [_, _, _], _ => rfl
  have al0 : AL g_Endless___init__ (["numbers", "run"] : List Str).length := (al (al al_nil))
  have fo : FnOk P w K mg base (L2.CX P w) (9 + 1) (He.ma K (He.ga K "Endless") "__init__") fd ["self", "numbers", "run"] (spI K mg "Endless" 2 (runF "Endless" N_Endless___init__.length ["numbers", "run"] g_Endless___init__)) := by
    refine initF_ok (k := 9) (m := 2) (fl := ["numbers", "run"]) (fa := g_Endless___init__) F S rfl hg (by decide) (by decide) al0 (by decide) fun cdv A outer s H E hc hr => ?_
    have tk : Takes (cxOf (L2.CX P w) P w K mg base N_Endless___init__ "Endless.__init__" (defScope s_Endless___init__) (He.ma K (He.ga K "Endless") "__init__") cdv A outer s H E) (fun cls d _ H => E cls d H) := takes_of rfl rfl rfl rfl
    have hu : ((cxOf (L2.CX P w) P w K mg base N_Endless___init__ "Endless.__init__" (defScope s_Endless___init__) (He.ma K (He.ga K "Endless") "__init__") cdv A outer s H E)).A.units + 64 < cLine := by have := hr.un; show (A.deeper _).units + 64 < cLine; omega
    have hu65 : ((cxOf (L2.CX P w) P w K mg base N_Endless___init__ "Endless.__init__" (defScope s_Endless___init__) (He.ma K (He.ga K "Endless") "__init__") cdv A outer s H E)).A.units + 65 < cLine := by have := hr.un; show (A.deeper _).units + 65 < cLine; omega
    have hu1 : ((cxOf (L2.CX P w) P w K mg base N_Endless___init__ "Endless.__init__" (defScope s_Endless___init__) (He.ma K (He.ga K "Endless") "__init__") cdv A outer s H E)).A.units + 1 < cLine := by omega
    exact (vif_cons T.o_Endless (by decide) (ve_fn C_as_tuples tk (hr.mono (by decide)) (va_cons (ve_var 1) va_nil) (al al_nil)) (vif_cons T.o_Endless (by decide) (ve_fn C_as_tuples tk (hr.mono (by decide)) (va_cons (ve_var 2) va_nil) (al al_nil)) vif_nil))
  exact ⟨_, _, fd, _, fo, hg, He.mkr_ok hm, hb0⟩
theorem ok_Numbers___init__ (F : Fun K "__init__" "Numbers.__init__" s_Numbers___init__ (He.ma K (He.ga K "Numbers") "__init__") fd) (hm : (He.Fa.mkr "Numbers").ok K = true) (hg : mg "Numbers" = some (.ref (He.ga K "Numbers"))) (T : TX K mg) (C_as_tuples : Callee P w K mg base "as_tuples" 9 1 F_as_tuples) : CalleeI P w K mg base "Numbers" 10 1 F_Numbers___init__ := by
  have S := sc_Numbers___init__
  have hb0 : Binds K fd ["self", "numbers"] [] := F.binds (ps := ["self", "numbers"]) fun _ _ _ _ _ _ us hl => match us, hl with | [_, _], _ => rfl
  have al0 : AL g_Numbers___init__ (["numbers"] : List Str).length := (al al_nil)
  have fo : FnOk P w K mg base (L2.CX P w) (9 + 1) (He.ma K (He.ga K "Numbers") "__init__") fd ["self", "numbers"] (spI K mg "Numbers" 1 (runF "Numbers" N_Numbers___init__.length ["numbers"] g_Numbers___init__)) := by
    refine initF_ok (k := 9) (m := 1) (fl := ["numbers"]) (fa := g_Numbers___init__) F S rfl hg (by decide) (by decide) al0 (by decide) fun cdv A outer s H E hc hr => ?_
    have tk : Takes (cxOf (L2.CX P w) P w K mg base N_Numbers___init__ "Numbers.__init__" (defScope s_Numbers___init__) (He.ma K (He.ga K "Numbers") "__init__") cdv A outer s H E) (fun cls d _ H => E cls d H) := takes_of rfl rfl rfl rfl
    have hu : ((cxOf (L2.CX P w) P w K mg base N_Numbers___init__ "Numbers.__init__" (defScope s_Numbers___init__) (He.ma K (He.ga K "Numbers") "__init__") cdv A outer s H E)).A.units + 64 < cLine := by have := hr.un; show (A.deeper _).units + 64 < cLine; omega
    have hu65 : ((cxOf (L2.CX P w) P w K mg base N_Numbers___init__ "Numbers.__init__" (defScope s_Numbers___init__) (He.ma K (He.ga K "Numbers") "__init__") cdv A outer s H E)).A.units + 65 < cLine := by have := hr.un; show (A.deeper _).units + 65 < cLine; omega
    have hu1 : ((cxOf (L2.CX P w) P w K mg base N_Numbers___init__ "Numbers.__init__" (defScope s_Numbers___init__) (He.ma K (He.ga K "Numbers") "__init__") cdv A outer s H E)).A.units + 1 < cLine := by omega
    exact (vif_cons T.o_Numbers (by decide) (ve_fn C_as_tuples tk (hr.mono (by decide)) (va_cons (ve_var 1) va_nil) (al al_nil)) vif_nil)
  exact ⟨_, _, fd, _, fo, hg, He.mkr_ok hm, hb0⟩
theorem ok_Barred___init__ (F : Fun K "__init__" "Barred.__init__" s_Barred___init__ (He.ma K (He.ga K "Barred") "__init__") fd) (hm : (He.Fa.mkr "Barred").ok K = true) (hg : mg "Barred" = some (.ref (He.ga K "Barred"))) (T : TX K mg) (C_as_tuples : Callee P w K mg base "as_tuples" 9 1 F_as_tuples) : CalleeI P w K mg base "Barred" 10 1 F_Barred___init__ := by
  have S := sc_Barred___init__
  have hb0 : Binds K fd ["self", "tree"] [] := F.binds (ps := ["self", "tree"]) fun _ _ _ _ _ _ us hl => match us, hl with | [_, _], _ => rfl
  have al0 : AL g_Barred___init__ (["tree"] : List Str).length := (al al_nil)
  have fo : FnOk P w K mg base (L2.CX P w) (9 + 1) (He.ma K (He.ga K "Barred") "__init__") fd ["self", "tree"] (spI K mg "Barred" 1 (runF "Barred" N_Barred___init__.length ["tree"] g_Barred___init__)) := by
    refine initF_ok (k := 9) (m := 1) (fl := ["tree"]) (fa := g_Barred___init__) F S rfl hg (by decide) (by decide) al0 (by decide) fun cdv A outer s H E hc hr => ?_
    have tk : Takes (cxOf (L2.CX P w) P w K mg base N_Barred___init__ "Barred.__init__" (defScope s_Barred___init__) (He.ma K (He.ga K "Barred") "__init__") cdv A outer s H E) (fun cls d _ H => E cls d H) := takes_of rfl rfl rfl rfl
    have hu : ((cxOf (L2.CX P w) P w K mg base N_Barred___init__ "Barred.__init__" (defScope s_Barred___init__) (He.ma K (He.ga K "Barred") "__init__") cdv A outer s H E)).A.units + 64 < cLine := by have := hr.un; show (A.deeper _).units + 64 < cLine; omega
    have hu65 : ((cxOf (L2.CX P w) P w K mg base N_Barred___init__ "Barred.__init__" (defScope s_Barred___init__) (He.ma K (He.ga K "Barred") "__init__") cdv A outer s H E)).A.units + 65 < cLine := by have := hr.un; show (A.deeper _).units + 65 < cLine; omega
    have hu1 : ((cxOf (L2.CX P w) P w K mg base N_Barred___init__ "Barred.__init__" (defScope s_Barred___init__) (He.ma K (He.ga K "Barred") "__init__") cdv A outer s H E)).A.units + 1 < cLine := by omega
    exact (vif_cons T.o_Barred (by decide) (ve_fn C_as_tuples tk (hr.mono (by decide)) (va_cons (ve_var 1) va_nil) (al al_nil)) vif_nil)
  exact ⟨_, _, fd, _, fo, hg, He.mkr_ok hm, hb0⟩
theorem ok_NoPoint___init__ (F : Fun K "__init__" "NoPoint.__init__" s_NoPoint___init__ (He.ma K (He.ga K "NoPoint") "__init__") fd) (hm : (He.Fa.mkr "NoPoint").ok K = true) (hg : mg "NoPoint" = some (.ref (He.ga K "NoPoint"))) (T : TX K mg) (C_as_tuples : Callee P w K mg base "as_tuples" 9 1 F_as_tuples) : CalleeI P w K mg base "NoPoint" 10 1 F_NoPoint___init__ := by
  have S := sc_NoPoint___init__
  have hb0 : Binds K fd ["self", "weights"] [] := F.binds (ps := ["self", "weights"]) fun _ _ _ _ _ _ us hl => match us, hl with | [_, _], _ => rfl
  have al0 : AL g_NoPoint___init__ (["weights"] : List Str).length := (al al_nil)
  have fo : FnOk P w K mg base (L2.CX P w) (9 + 1) (He.ma K (He.ga K "NoPoint") "__init__") fd ["self", "weights"] (spI K mg "NoPoint" 1 (runF "NoPoint" N_NoPoint___init__.length ["weights"] g_NoPoint___init__)) := by
    refine initF_ok (k := 9) (m := 1) (fl := ["weights"]) (fa := g_NoPoint___init__) F S rfl hg (by decide) (by decide) al0 (by decide) fun cdv A outer s H E hc hr => ?_
    have tk : Takes (cxOf (L2.CX P w) P w K mg base N_NoPoint___init__ "NoPoint.__init__" (defScope s_NoPoint___init__) (He.ma K (He.ga K "NoPoint") "__init__") cdv A outer s H E) (fun cls d _ H => E cls d H) := takes_of rfl rfl rfl rfl
    have hu : ((cxOf (L2.CX P w) P w K mg base N_NoPoint___init__ "NoPoint.__init__" (defScope s_NoPoint___init__) (He.ma K (He.ga K "NoPoint") "__init__") cdv A outer s H E)).A.units + 64 < cLine := by have := hr.un; show (A.deeper _).units + 64 < cLine; omega
    have hu65 : ((cxOf (L2.CX P w) P w K mg base N_NoPoint___init__ "NoPoint.__init__" (defScope s_NoPoint___init__) (He.ma K (He.ga K "NoPoint") "__init__") cdv A outer s H E)).A.units + 65 < cLine := by have := hr.un; show (A.deeper _).units + 65 < cLine; omega
    have hu1 : ((cxOf (L2.CX P w) P w K mg base N_NoPoint___init__ "NoPoint.__init__" (defScope s_NoPoint___init__) (He.ma K (He.ga K "NoPoint") "__init__") cdv A outer s H E)).A.units + 1 < cLine := by omega
    exact (vif_cons T.o_NoPoint (by decide) (ve_fn C_as_tuples tk (hr.mono (by decide)) (va_cons (ve_var 1) va_nil) (al al_nil)) vif_nil)
  exact ⟨_, _, fd, _, fo, hg, He.mkr_ok hm, hb0⟩
theorem ok_Least___init__ (F : Fun K "__init__" "Least.__init__" s_Least___init__ (He.ma K (He.ga K "Least") "__init__") fd) (hm : (He.Fa.mkr "Least").ok K = true) (hg : mg "Least" = some (.ref (He.ga K "Least"))) (T : TX K mg) (C_as_tuples : Callee P w K mg base "as_tuples" 9 1 F_as_tuples) : CalleeI P w K mg base "Least" 10 3 F_Least___init__ := by
  have S := sc_Least___init__
  have hb0 : Binds K fd ["self", "number", "numbers", "tree"] [] := F.binds (ps := ["self", "number", "numbers", "tree"]) fun _ _ _ _ _ _ us hl => match us, hl with | [_, _, _, _], _ => rfl
  have al0 : AL g_Least___init__ (["number", "numbers", "tree"] : List Str).length := (al (al (al al_nil)))
  have fo : FnOk P w K mg base (L2.CX P w) (9 + 1) (He.ma K (He.ga K "Least") "__init__") fd ["self", "number", "numbers", "tree"] (spI K mg "Least" 3 (runF "Least" N_Least___init__.length ["number", "numbers", "tree"] g_Least___init__)) := by
    refine initF_ok (k := 9) (m := 3) (fl := ["number", "numbers", "tree"]) (fa := g_Least___init__) F S rfl hg (by decide) (by decide) al0 (by decide) fun cdv A outer s H E hc hr => ?_
    have tk : Takes (cxOf (L2.CX P w) P w K mg base N_Least___init__ "Least.__init__" (defScope s_Least___init__) (He.ma K (He.ga K "Least") "__init__") cdv A outer s H E) (fun cls d _ H => E cls d H) := takes_of rfl rfl rfl rfl
    have hu : ((cxOf (L2.CX P w) P w K mg base N_Least___init__ "Least.__init__" (defScope s_Least___init__) (He.ma K (He.ga K "Least") "__init__") cdv A outer s H E)).A.units + 64 < cLine := by have := hr.un; show (A.deeper _).units + 64 < cLine; omega
    have hu65 : ((cxOf (L2.CX P w) P w K mg base N_Least___init__ "Least.__init__" (defScope s_Least___init__) (He.ma K (He.ga K "Least") "__init__") cdv A outer s H E)).A.units + 65 < cLine := by have := hr.un; show (A.deeper _).units + 65 < cLine; omega
    have hu1 : ((cxOf (L2.CX P w) P w K mg base N_Least___init__ "Least.__init__" (defScope s_Least___init__) (He.ma K (He.ga K "Least") "__init__") cdv A outer s H E)).A.units + 1 < cLine := by omega
    exact (vif_cons T.o_Least (by decide) (ve_fn C_as_tuples tk (hr.mono (by decide)) (va_cons (ve_var 1) va_nil) (al al_nil)) (vif_cons T.o_Least (by decide) (ve_fn C_as_tuples tk (hr.mono (by decide)) (va_cons (ve_var 2) va_nil) (al al_nil)) (vif_cons T.o_Least (by decide) (ve_fn C_as_tuples tk (hr.mono (by decide)) (va_cons (ve_var 3) va_nil) (al al_nil)) vif_nil)))
  exact ⟨_, _, fd, _, fo, hg, He.mkr_ok hm, hb0⟩
theorem ok__law_ones (F : Fun K "_law_ones" "_law_ones" s__law_ones (He.ga K "_law_ones") fd) (hm : mg "_law_ones" = some (.ref (He.ga K "_law_ones"))) (T : TX K mg) (C_Barred___init__ : CalleeI P w K mg base "Barred" 10 1 F_Barred___init__) (C_Endless___init__ : CalleeI P w K mg base "Endless" 10 2 F_Endless___init__) (C_Least___init__ : CalleeI P w K mg base "Least" 10 3 F_Least___init__) (C_NoPoint___init__ : CalleeI P w K mg base "NoPoint" 10 1 F_NoPoint___init__) (C_NoWhole___init__ : CalleeI P w K mg base "NoWhole" 10 2 F_NoWhole___init__) (C_Numbers___init__ : CalleeI P w K mg base "Numbers" 10 1 F_Numbers___init__) (C_Point___init__ : CalleeI P w K mg base "Point" 10 2 F_Point___init__) (C_Whole___init__ : CalleeI P w K mg base "Whole" 10 2 F_Whole___init__) : Callee P w K mg base "_law_ones" 12 3 F__law_ones := by
  have S := sc__law_ones
  refine callee_of (k := 11) F S hm rfl (F.binds (ps := ["a", "b", "c"]) fun _ _ _ _ _ _ us hl => match us, hl with | [_, _, _], _ => rfl) fun cdv A outer s H E hc hr => ?_
  have tk : Takes (cxOf (L2.CX P w) P w K mg base N__law_ones "_law_ones" (defScope s__law_ones) (He.ga K "_law_ones") cdv A outer s H E) (fun cls d _ H => E cls d H) := takes_of rfl rfl rfl rfl
  have hu : ((cxOf (L2.CX P w) P w K mg base N__law_ones "_law_ones" (defScope s__law_ones) (He.ga K "_law_ones") cdv A outer s H E)).A.units + 64 < cLine := by have := hr.un; show (A.deeper _).units + 64 < cLine; omega
  have hu65 : ((cxOf (L2.CX P w) P w K mg base N__law_ones "_law_ones" (defScope s__law_ones) (He.ga K "_law_ones") cdv A outer s H E)).A.units + 65 < cLine := by have := hr.un; show (A.deeper _).units + 65 < cLine; omega
  have hu1 : ((cxOf (L2.CX P w) P w K mg base N__law_ones "_law_ones" (defScope s__law_ones) (He.ga K "_law_ones") cdv A outer s H E)).A.units + 1 < cLine := by omega
  exact (vs_cons (vs_to [0, 1] (ve_tup (va_cons (ve_make C_Point___init__ tk (hr.mono (by decide)) (va_cons (ve_var 0) (va_cons (ve_var 1) va_nil)) (al (al al_nil))) (va_cons (ve_make C_Whole___init__ tk (hr.mono (by decide)) (va_cons (ve_var 0) (va_cons (ve_var 1) va_nil)) (al (al al_nil))) (va_cons (ve_make C_NoWhole___init__ tk (hr.mono (by decide)) (va_cons (ve_var 0) (va_cons (ve_var 1) va_nil)) (al (al al_nil))) (va_cons (ve_make C_Endless___init__ tk (hr.mono (by decide)) (va_cons (ve_var 0) (va_cons (ve_var 1) va_nil)) (al (al al_nil))) va_nil))))) (vg_tup rfl (vgs_cons (vg_name 3 S.nd) (vgs_cons (vg_name 4 S.nd) (vgs_cons (vg_name 5 S.nd) (vgs_cons (vg_name 6 S.nd) vgs_nil)))))) (vs_cons (vs_set (i := 7) [] S.nd (ve_f (vf_lst (va_cons (ve_f (vf_lst (va_cons (ve_fldO T.o_Point (by decide) (vo_var 3)) (va_cons (ve_fldO T.o_Point (by decide) (vo_var 3)) va_nil)))) (va_cons (ve_f (vf_lst (va_cons (ve_fldO T.o_Whole (by decide) (vo_var 4)) (va_cons (ve_fldO T.o_Whole (by decide) (vo_var 4)) va_nil)))) (va_cons (ve_f (vf_lst (va_cons (ve_fldO T.o_NoWhole (by decide) (vo_var 5)) (va_cons (ve_fldO T.o_NoWhole (by decide) (vo_var 5)) va_nil)))) (va_cons (ve_f (vf_lst (va_cons (ve_fldO T.o_Endless (by decide) (vo_var 6)) (va_cons (ve_fldO T.o_Endless (by decide) (vo_var 6)) va_nil)))) va_nil))))))) (vs_cons (vs_to [0, 1, 2] (ve_tup (va_cons (ve_make C_Numbers___init__ tk (hr.mono (by decide)) (va_cons (ve_var 0) va_nil) (al al_nil)) (va_cons (ve_make C_Barred___init__ tk (hr.mono (by decide)) (va_cons (ve_var 0) va_nil) (al al_nil)) (va_cons (ve_make C_NoPoint___init__ tk (hr.mono (by decide)) (va_cons (ve_var 0) va_nil) (al al_nil)) (va_cons (ve_make C_Least___init__ tk (hr.mono (by decide)) (va_cons (ve_var 0) (va_cons (ve_var 1) (va_cons (ve_var 2) va_nil))) (al (al (al al_nil)))) va_nil))))) (vg_tup rfl (vgs_cons (vg_name 8 S.nd) (vgs_cons (vg_name 9 S.nd) (vgs_cons (vg_name 10 S.nd) (vgs_cons (vg_name 11 S.nd) vgs_nil)))))) (vs_cons (vs_set (i := 7) [] S.nd (ve_bin od_plus (vo_var 7) (ve_o (ve_f (vf_lst (va_cons (ve_f (vf_lst (va_cons (ve_fldO T.o_Numbers (by decide) (vo_var 8)) va_nil))) (va_cons (ve_f (vf_lst (va_cons (ve_fldO T.o_Barred (by decide) (vo_var 9)) va_nil))) (va_cons (ve_f (vf_lst (va_cons (ve_fldO T.o_NoPoint (by decide) (vo_var 10)) va_nil))) (va_cons (ve_f (vf_lst (va_cons (ve_fldO T.o_Least (by decide) (vo_var 11)) (va_cons (ve_fldO T.o_Least (by decide) (vo_var 11)) (va_cons (ve_fldO T.o_Least (by decide) (vo_var 11)) va_nil))))) va_nil))))))))) (vs_one (vs_ret (ve_tup (va_cons (ve_f (vf_lst (va_cons (ve_var 3) (va_cons (ve_var 4) (va_cons (ve_var 5) (va_cons (ve_var 6) (va_cons (ve_var 8) (va_cons (ve_var 9) (va_cons (ve_var 10) (va_cons (ve_var 11) va_nil)))))))))) (va_cons (ve_var 7) va_nil)))))))))
theorem okB__law_spoil {k : Nat} {sp : Sp} (F : Fun K "_law_spoil" "_law_spoil" s__law_spoil (He.ga K "_law_spoil") fd) (hm : mg "_law_spoil" = some (.ref (He.ga K "_law_spoil"))) (T : TX K mg) (hbi : Binds K fd ["value"] []) (FO : FnOk P w K mg base (L2.CX P w) k (He.ga K "_law_spoil") fd ["value"] sp) (cdv : Value) (A : Around) (outer : List PySem.Env) (s : Shared) (H : Hp) (E : XK) (hr : Room k (A.deeper (envOfC "_law_spoil" (defScope s__law_spoil) s.heap.objs.size (He.ga K "_law_spoil") cdv))) :
    PSs (cxOf (L2.CX P w) P w K mg base N__law_spoil "_law_spoil" (defScope s__law_spoil) (He.ga K "_law_spoil") cdv A outer s H E) (defBody s__law_spoil) (tSpoil K sp) := by
  exact pss_cons (ps_if (PW.pt (pw_or (pt_val (pe_callB call_isi rfl T.b_isinstance boot_isinstance (pa_cons (pv 0) (pa_cons (pe_bltn (v := .ty "list") rfl T.b_list boot_list rfl) pa_nil)) (by decide) (by decide))) (pw_or1 (pt_val (pe_callB call_isi rfl T.b_isinstance boot_isinstance (pa_cons (pv 0) (pa_cons (pe_bltn (v := .ty "tuple") rfl T.b_tuple boot_tuple rfl) pa_nil)) (by decide) (by decide)))))) (pss_one (ps_for (passes_of rfl) rfl (PI.or (pi_list (pv 0)) (pi_tup (pv 0))) (pg_name (i := 1) sc__law_spoil.nd rfl (Or.inl rfl)) (pss_one (ps_expr (pe_call FO (hr.mono (by omega)) rfl hm F.kp hbi .nil passL (pa_cons (pv 1) pa_nil)))))) pss_nil) (pss_one (ps_if (pt_val (pe_callB call_isi rfl T.b_isinstance boot_isinstance (pa_cons (pv 0) (pa_cons (pe_bltn (v := .ty "list") rfl T.b_list boot_list rfl) pa_nil)) (by decide) (by decide))) (pss_one (ps_expr (pe_bm PySem.F.plainAttrs_list PySem.F.slot_list_append PySem.F.type_list_append mt_append (pv 0) (pa_cons pe_str pa_nil)))) pss_nil))
theorem ok__law_spoil (F : Fun K "_law_spoil" "_law_spoil" s__law_spoil (He.ga K "_law_spoil") fd) (hm : mg "_law_spoil" = some (.ref (He.ga K "_law_spoil"))) (T : TX K mg) : SpoilC P w K mg base "_law_spoil" 5 3 3 := by
  have S := sc__law_spoil
  have hbi : Binds K fd ["value"] [] := F.binds (ps := ["value"]) fun _ _ _ _ _ _ us hl => match us, hl with | [_], _ => rfl
  have h : ∀ n, FnOk P w K mg base (L2.CX P w) (n + 2) (He.ga K "_law_spoil") fd ["value"] (spSp 3 n) := fun n => by
    induction n with
    | zero => exact spoil_ok0 (kk := 1) F S rfl rfl fun cdv A outer s H E hr => okB__law_spoil F hm T hbi (fnOk_F (k := 1)) cdv A outer s H E hr
    | succ n ih => exact spoil_ok (kk := n + 2) F S rfl rfl fun cdv A outer s H E hr => okB__law_spoil F hm T hbi ih cdv A outer s H E hr
  exact ⟨⟨_, fd, _, h 3, hm, F.kp, hbi⟩⟩
theorem ok_Whole___eq__ (F : Fun K "__eq__" "Whole.__eq__" s_Whole___eq__ (He.ma K (He.ga K "Whole") "__eq__") fd) (hm : (He.Fa.meth "Whole" "__eq__").ok K = true) (T : TX K mg) : CalleeM P w K mg base "Whole" "__eq__" 2 2 F_Whole___eq__ := by
  have S := sc_Whole___eq__
  refine calleeM_of (k := 1) F S hm rfl (F.binds (ps := ["self", "other"]) fun _ _ _ _ _ _ us hl => match us, hl with | [_, _], _ => rfl) fun cdv A outer s H E hc hr => ?_
  have tk : Takes (cxOf (L2.CX P w) P w K mg base N_Whole___eq__ "Whole.__eq__" (defScope s_Whole___eq__) (He.ma K (He.ga K "Whole") "__eq__") cdv A outer s H E) (fun cls d _ H => E cls d H) := takes_of rfl rfl rfl rfl
  have hu : ((cxOf (L2.CX P w) P w K mg base N_Whole___eq__ "Whole.__eq__" (defScope s_Whole___eq__) (He.ma K (He.ga K "Whole") "__eq__") cdv A outer s H E)).A.units + 64 < cLine := by have := hr.un; show (A.deeper _).units + 64 < cLine; omega
  have hu65 : ((cxOf (L2.CX P w) P w K mg base N_Whole___eq__ "Whole.__eq__" (defScope s_Whole___eq__) (He.ma K (He.ga K "Whole") "__eq__") cdv A outer s H E)).A.units + 65 < cLine := by have := hr.un; show (A.deeper _).units + 65 < cLine; omega
  have hu1 : ((cxOf (L2.CX P w) P w K mg base N_Whole___eq__ "Whole.__eq__" (defScope s_Whole___eq__) (He.ma K (He.ga K "Whole") "__eq__") cdv A outer s H E)).A.units + 1 < cLine := by omega
  exact (vs_one (vs_ret (ve_and rE_bl (ve_o (ve_isiO T.b_isinstance T.s_Whole (ve_var 1))) (ve_and rE_bl (ve_o (ve_cmp (od_eq hu) (ve_o (ve_fldO T.o_Whole (by decide) (vo_var 0))) (ve_o (ve_fldO T.o_Whole (by decide) (vo_var 1))))) (ve_one (ve_cmp (od_eq hu) (ve_o (ve_fldO T.o_Whole (by decide) (vo_var 0))) (ve_o (ve_fldO T.o_Whole (by decide) (vo_var 1)))))))))
theorem ok_NoWhole___eq__ (F : Fun K "__eq__" "NoWhole.__eq__" s_NoWhole___eq__ (He.ma K (He.ga K "NoWhole") "__eq__") fd) (hm : (He.Fa.meth "NoWhole" "__eq__").ok K = true) (T : TX K mg) : CalleeM P w K mg base "NoWhole" "__eq__" 2 2 F_NoWhole___eq__ := by
  have S := sc_NoWhole___eq__
  refine calleeM_of (k := 1) F S hm rfl (F.binds (ps := ["self", "other"]) fun _ _ _ _ _ _ us hl => match us, hl with | [_, _], _ => rfl) fun cdv A outer s H E hc hr => ?_
  have tk : Takes (cxOf (L2.CX P w) P w K mg base N_NoWhole___eq__ "NoWhole.__eq__" (defScope s_NoWhole___eq__) (He.ma K (He.ga K "NoWhole") "__eq__") cdv A outer s H E) (fun cls d _ H => E cls d H) := takes_of rfl rfl rfl rfl
  have hu : ((cxOf (L2.CX P w) P w K mg base N_NoWhole___eq__ "NoWhole.__eq__" (defScope s_NoWhole___eq__) (He.ma K (He.ga K "NoWhole") "__eq__") cdv A outer s H E)).A.units + 64 < cLine := by have := hr.un; show (A.deeper _).units + 64 < cLine; omega
  have hu65 : ((cxOf (L2.CX P w) P w K mg base N_NoWhole___eq__ "NoWhole.__eq__" (defScope s_NoWhole___eq__) (He.ma K (He.ga K "NoWhole") "__eq__") cdv A outer s H E)).A.units + 65 < cLine := by have := hr.un; show (A.deeper _).units + 65 < cLine; omega
  have hu1 : ((cxOf (L2.CX P w) P w K mg base N_NoWhole___eq__ "NoWhole.__eq__" (defScope s_NoWhole___eq__) (He.ma K (He.ga K "NoWhole") "__eq__") cdv A outer s H E)).A.units + 1 < cLine := by omega
  exact (vs_one (vs_ret (ve_and rE_bl (ve_o (ve_isiO T.b_isinstance T.s_NoWhole (ve_var 1))) (ve_and rE_bl (ve_o (ve_cmp (od_eq hu) (ve_o (ve_fldO T.o_NoWhole (by decide) (vo_var 0))) (ve_o (ve_fldO T.o_NoWhole (by decide) (vo_var 1))))) (ve_one (ve_cmp (od_eq hu) (ve_o (ve_fldO T.o_NoWhole (by decide) (vo_var 0))) (ve_o (ve_fldO T.o_NoWhole (by decide) (vo_var 1)))))))))
theorem ok_Numbers___eq__ (F : Fun K "__eq__" "Numbers.__eq__" s_Numbers___eq__ (He.ma K (He.ga K "Numbers") "__eq__") fd) (hm : (He.Fa.meth "Numbers" "__eq__").ok K = true) (T : TX K mg) : CalleeM P w K mg base "Numbers" "__eq__" 2 2 F_Numbers___eq__ := by
  have S := sc_Numbers___eq__
  refine calleeM_of (k := 1) F S hm rfl (F.binds (ps := ["self", "other"]) fun _ _ _ _ _ _ us hl => match us, hl with | [_, _], _ => rfl) fun cdv A outer s H E hc hr => ?_
  have tk : Takes (cxOf (L2.CX P w) P w K mg base N_Numbers___eq__ "Numbers.__eq__" (defScope s_Numbers___eq__) (He.ma K (He.ga K "Numbers") "__eq__") cdv A outer s H E) (fun cls d _ H => E cls d H) := takes_of rfl rfl rfl rfl
  have hu : ((cxOf (L2.CX P w) P w K mg base N_Numbers___eq__ "Numbers.__eq__" (defScope s_Numbers___eq__) (He.ma K (He.ga K "Numbers") "__eq__") cdv A outer s H E)).A.units + 64 < cLine := by have := hr.un; show (A.deeper _).units + 64 < cLine; omega
  have hu65 : ((cxOf (L2.CX P w) P w K mg base N_Numbers___eq__ "Numbers.__eq__" (defScope s_Numbers___eq__) (He.ma K (He.ga K "Numbers") "__eq__") cdv A outer s H E)).A.units + 65 < cLine := by have := hr.un; show (A.deeper _).units + 65 < cLine; omega
  have hu1 : ((cxOf (L2.CX P w) P w K mg base N_Numbers___eq__ "Numbers.__eq__" (defScope s_Numbers___eq__) (He.ma K (He.ga K "Numbers") "__eq__") cdv A outer s H E)).A.units + 1 < cLine := by omega
  exact (vs_one (vs_ret (ve_and rE_bl (ve_o (ve_isiO T.b_isinstance T.s_Numbers (ve_var 1))) (ve_one (ve_cmp (od_eq hu) (ve_o (ve_fldO T.o_Numbers (by decide) (vo_var 0))) (ve_o (ve_fldO T.o_Numbers (by decide) (vo_var 1))))))))
theorem ok_Barred___eq__ (F : Fun K "__eq__" "Barred.__eq__" s_Barred___eq__ (He.ma K (He.ga K "Barred") "__eq__") fd) (hm : (He.Fa.meth "Barred" "__eq__").ok K = true) (T : TX K mg) : CalleeM P w K mg base "Barred" "__eq__" 2 2 F_Barred___eq__ := by
  have S := sc_Barred___eq__
  refine calleeM_of (k := 1) F S hm rfl (F.binds (ps := ["self", "other"]) fun _ _ _ _ _ _ us hl => match us, hl with | [_, _], _ => rfl) fun cdv A outer s H E hc hr => ?_
  have tk : Takes (cxOf (L2.CX P w) P w K mg base N_Barred___eq__ "Barred.__eq__" (defScope s_Barred___eq__) (He.ma K (He.ga K "Barred") "__eq__") cdv A outer s H E) (fun cls d _ H => E cls d H) := takes_of rfl rfl rfl rfl
  have hu : ((cxOf (L2.CX P w) P w K mg base N_Barred___eq__ "Barred.__eq__" (defScope s_Barred___eq__) (He.ma K (He.ga K "Barred") "__eq__") cdv A outer s H E)).A.units + 64 < cLine := by have := hr.un; show (A.deeper _).units + 64 < cLine; omega
  have hu65 : ((cxOf (L2.CX P w) P w K mg base N_Barred___eq__ "Barred.__eq__" (defScope s_Barred___eq__) (He.ma K (He.ga K "Barred") "__eq__") cdv A outer s H E)).A.units + 65 < cLine := by have := hr.un; show (A.deeper _).units + 65 < cLine; omega
  have hu1 : ((cxOf (L2.CX P w) P w K mg base N_Barred___eq__ "Barred.__eq__" (defScope s_Barred___eq__) (He.ma K (He.ga K "Barred") "__eq__") cdv A outer s H E)).A.units + 1 < cLine := by omega
  exact (vs_one (vs_ret (ve_and rE_bl (ve_o (ve_isiO T.b_isinstance T.s_Barred (ve_var 1))) (ve_one (ve_cmp (od_eq hu) (ve_o (ve_fldO T.o_Barred (by decide) (vo_var 0))) (ve_o (ve_fldO T.o_Barred (by decide) (vo_var 1))))))))
theorem ok_Least___eq__ (F : Fun K "__eq__" "Least.__eq__" s_Least___eq__ (He.ma K (He.ga K "Least") "__eq__") fd) (hm : (He.Fa.meth "Least" "__eq__").ok K = true) (T : TX K mg) : CalleeM P w K mg base "Least" "__eq__" 2 2 F_Least___eq__ := by
  have S := sc_Least___eq__
  refine calleeM_of (k := 1) F S hm rfl (F.binds (ps := ["self", "other"]) fun _ _ _ _ _ _ us hl => match us, hl with | [_, _], _ => rfl) fun cdv A outer s H E hc hr => ?_
  have tk : Takes (cxOf (L2.CX P w) P w K mg base N_Least___eq__ "Least.__eq__" (defScope s_Least___eq__) (He.ma K (He.ga K "Least") "__eq__") cdv A outer s H E) (fun cls d _ H => E cls d H) := takes_of rfl rfl rfl rfl
  have hu : ((cxOf (L2.CX P w) P w K mg base N_Least___eq__ "Least.__eq__" (defScope s_Least___eq__) (He.ma K (He.ga K "Least") "__eq__") cdv A outer s H E)).A.units + 64 < cLine := by have := hr.un; show (A.deeper _).units + 64 < cLine; omega
  have hu65 : ((cxOf (L2.CX P w) P w K mg base N_Least___eq__ "Least.__eq__" (defScope s_Least___eq__) (He.ma K (He.ga K "Least") "__eq__") cdv A outer s H E)).A.units + 65 < cLine := by have := hr.un; show (A.deeper _).units + 65 < cLine; omega
  have hu1 : ((cxOf (L2.CX P w) P w K mg base N_Least___eq__ "Least.__eq__" (defScope s_Least___eq__) (He.ma K (He.ga K "Least") "__eq__") cdv A outer s H E)).A.units + 1 < cLine := by omega
  exact (vs_cons (vs_if (vt_not (vt_val (ve_o (ve_isiO T.b_isinstance T.s_Least (ve_var 1))))) (vs_one (vs_ret ve_bl)) vs_nil) (vs_one (vs_ret (ve_cmp (od_eq hu) (ve_o (ve_tup (va_cons (ve_fldO T.o_Least (by decide) (vo_var 0)) (va_cons (ve_fldO T.o_Least (by decide) (vo_var 0)) (va_cons (ve_fldO T.o_Least (by decide) (vo_var 0)) va_nil))))) (ve_o (ve_tup (va_cons (ve_fldO T.o_Least (by decide) (vo_var 1)) (va_cons (ve_fldO T.o_Least (by decide) (vo_var 1)) (va_cons (ve_fldO T.o_Least (by decide) (vo_var 1)) va_nil)))))))))
theorem ok_Endless___eq__ (F : Fun K "__eq__" "Endless.__eq__" s_Endless___eq__ (He.ma K (He.ga K "Endless") "__eq__") fd) (hm : (He.Fa.meth "Endless" "__eq__").ok K = true) (T : TX K mg) : CalleeM P w K mg base "Endless" "__eq__" 2 2 F_Endless___eq__ := by
  have S := sc_Endless___eq__
  refine calleeM_of (k := 1) F S hm rfl (F.binds (ps := ["self", "other"]) fun _ _ _ _ _ _ us hl => match us, hl with | [_, _], _ => rfl) fun cdv A outer s H E hc hr => ?_
  have tk : Takes (cxOf (L2.CX P w) P w K mg base N_Endless___eq__ "Endless.__eq__" (defScope s_Endless___eq__) (He.ma K (He.ga K "Endless") "__eq__") cdv A outer s H E) (fun cls d _ H => E cls d H) := takes_of rfl rfl rfl rfl
  have hu : ((cxOf (L2.CX P w) P w K mg base N_Endless___eq__ "Endless.__eq__" (defScope s_Endless___eq__) (He.ma K (He.ga K "Endless") "__eq__") cdv A outer s H E)).A.units + 64 < cLine := by have := hr.un; show (A.deeper _).units + 64 < cLine; omega
  have hu65 : ((cxOf (L2.CX P w) P w K mg base N_Endless___eq__ "Endless.__eq__" (defScope s_Endless___eq__) (He.ma K (He.ga K "Endless") "__eq__") cdv A outer s H E)).A.units + 65 < cLine := by have := hr.un; show (A.deeper _).units + 65 < cLine; omega
  have hu1 : ((cxOf (L2.CX P w) P w K mg base N_Endless___eq__ "Endless.__eq__" (defScope s_Endless___eq__) (He.ma K (He.ga K "Endless") "__eq__") cdv A outer s H E)).A.units + 1 < cLine := by omega
  exact (vs_one (vs_ret (ve_and rE_bl (ve_o (ve_isiO T.b_isinstance T.s_Endless (ve_var 1))) (ve_and rE_bl (ve_o (ve_cmp (od_eq hu) (ve_o (ve_fldO T.o_Endless (by decide) (vo_var 0))) (ve_o (ve_fldO T.o_Endless (by decide) (vo_var 1))))) (ve_one (ve_cmp (od_eq hu) (ve_o (ve_fldO T.o_Endless (by decide) (vo_var 0))) (ve_o (ve_fldO T.o_Endless (by decide) (vo_var 1)))))))))
theorem ok_Point___eq__ (F : Fun K "__eq__" "Point.__eq__" s_Point___eq__ (He.ma K (He.ga K "Point") "__eq__") fd) (hm : (He.Fa.meth "Point" "__eq__").ok K = true) (T : TX K mg) : CalleeM P w K mg base "Point" "__eq__" 2 2 F_Point___eq__ := by
  have S := sc_Point___eq__
  refine calleeM_of (k := 1) F S hm rfl (F.binds (ps := ["self", "other"]) fun _ _ _ _ _ _ us hl => match us, hl with | [_, _], _ => rfl) fun cdv A outer s H E hc hr => ?_
  have tk : Takes (cxOf (L2.CX P w) P w K mg base N_Point___eq__ "Point.__eq__" (defScope s_Point___eq__) (He.ma K (He.ga K "Point") "__eq__") cdv A outer s H E) (fun cls d _ H => E cls d H) := takes_of rfl rfl rfl rfl
  have hu : ((cxOf (L2.CX P w) P w K mg base N_Point___eq__ "Point.__eq__" (defScope s_Point___eq__) (He.ma K (He.ga K "Point") "__eq__") cdv A outer s H E)).A.units + 64 < cLine := by have := hr.un; show (A.deeper _).units + 64 < cLine; omega
  have hu65 : ((cxOf (L2.CX P w) P w K mg base N_Point___eq__ "Point.__eq__" (defScope s_Point___eq__) (He.ma K (He.ga K "Point") "__eq__") cdv A outer s H E)).A.units + 65 < cLine := by have := hr.un; show (A.deeper _).units + 65 < cLine; omega
  have hu1 : ((cxOf (L2.CX P w) P w K mg base N_Point___eq__ "Point.__eq__" (defScope s_Point___eq__) (He.ma K (He.ga K "Point") "__eq__") cdv A outer s H E)).A.units + 1 < cLine := by omega
  exact (vs_one (vs_ret (ve_and rE_bl (ve_o (ve_isiO T.b_isinstance T.s_Point (ve_var 1))) (ve_and rE_bl (ve_o (ve_cmp (od_eq hu) (ve_o (ve_fldO T.o_Point (by decide) (vo_var 0))) (ve_o (ve_fldO T.o_Point (by decide) (vo_var 1))))) (ve_one (ve_cmp (od_eq hu) (ve_o (ve_fldO T.o_Point (by decide) (vo_var 0))) (ve_o (ve_fldO T.o_Point (by decide) (vo_var 1)))))))))
theorem ok_NoPoint___eq__ (F : Fun K "__eq__" "NoPoint.__eq__" s_NoPoint___eq__ (He.ma K (He.ga K "NoPoint") "__eq__") fd) (hm : (He.Fa.meth "NoPoint" "__eq__").ok K = true) (T : TX K mg) : CalleeM P w K mg base "NoPoint" "__eq__" 2 2 F_NoPoint___eq__ := by
  have S := sc_NoPoint___eq__
  refine calleeM_of (k := 1) F S hm rfl (F.binds (ps := ["self", "other"]) fun _ _ _ _ _ _ us hl => match us, hl with | [_, _], _ => rfl) fun cdv A outer s H E hc hr => ?_
  have tk : Takes (cxOf (L2.CX P w) P w K mg base N_NoPoint___eq__ "NoPoint.__eq__" (defScope s_NoPoint___eq__) (He.ma K (He.ga K "NoPoint") "__eq__") cdv A outer s H E) (fun cls d _ H => E cls d H) := takes_of rfl rfl rfl rfl
  have hu : ((cxOf (L2.CX P w) P w K mg base N_NoPoint___eq__ "NoPoint.__eq__" (defScope s_NoPoint___eq__) (He.ma K (He.ga K "NoPoint") "__eq__") cdv A outer s H E)).A.units + 64 < cLine := by have := hr.un; show (A.deeper _).units + 64 < cLine; omega
  have hu65 : ((cxOf (L2.CX P w) P w K mg base N_NoPoint___eq__ "NoPoint.__eq__" (defScope s_NoPoint___eq__) (He.ma K (He.ga K "NoPoint") "__eq__") cdv A outer s H E)).A.units + 65 < cLine := by have := hr.un; show (A.deeper _).units + 65 < cLine; omega
  have hu1 : ((cxOf (L2.CX P w) P w K mg base N_NoPoint___eq__ "NoPoint.__eq__" (defScope s_NoPoint___eq__) (He.ma K (He.ga K "NoPoint") "__eq__") cdv A outer s H E)).A.units + 1 < cLine := by omega
  exact (vs_one (vs_ret (ve_and rE_bl (ve_o (ve_isiO T.b_isinstance T.s_NoPoint (ve_var 1))) (ve_one (ve_cmp (od_eq hu) (ve_o (ve_fldO T.o_NoPoint (by decide) (vo_var 0))) (ve_o (ve_fldO T.o_NoPoint (by decide) (vo_var 1))))))))
theorem ok_law {fdp : FuncData} (F : Fun K "law" "law" s_law (He.ga K "law") fd) (T : TX K mg) (Fp : Fun K "_law_pen" "_law_pen" s__law_pen (He.ga K "_law_pen") fdp) (hmp : mg "_law_pen" = some (.ref (He.ga K "_law_pen"))) (C_Barred___eq__ : CalleeM P w K mg base "Barred" "__eq__" 2 2 F_Barred___eq__) (C_Endless___eq__ : CalleeM P w K mg base "Endless" "__eq__" 2 2 F_Endless___eq__) (C_Least___eq__ : CalleeM P w K mg base "Least" "__eq__" 2 2 F_Least___eq__) (C_NoPoint___eq__ : CalleeM P w K mg base "NoPoint" "__eq__" 2 2 F_NoPoint___eq__) (C_NoWhole___eq__ : CalleeM P w K mg base "NoWhole" "__eq__" 2 2 F_NoWhole___eq__) (C_Numbers___eq__ : CalleeM P w K mg base "Numbers" "__eq__" 2 2 F_Numbers___eq__) (C_Point___eq__ : CalleeM P w K mg base "Point" "__eq__" 2 2 F_Point___eq__) (C_Whole___eq__ : CalleeM P w K mg base "Whole" "__eq__" 2 2 F_Whole___eq__) (C__law_draw : Callee P w K mg base "_law_draw" 2 2 F__law_draw) (C__law_frozen : Callee P w K mg base "_law_frozen" 7 1 F__law_frozen) (C__law_ones : Callee P w K mg base "_law_ones" 12 3 F__law_ones) (C__law_spoil : SpoilC P w K mg base "_law_spoil" 5 3 3) (C__law_thing : Callee P w K mg base "_law_thing" 9 2 F__law_thing)
    (plain : ∀ w : Wd, ∃ w', (g_law (lawE 16) w).res = .ok (.bl true) w') : FnOk P w K mg base (L2.CX P w) 15 (He.ga K "law") fd ["script"] (spLaw K) := by
  have S := sc_law
  obtain ⟨fsp, fdsp, pssp, FOsp, hmsp, hksp, hbsp⟩ := C__law_spoil.ex
  have G : EqTab P w K mg base EQT ONS 2 := (eqTab_cons C_Whole___eq__ (by decide) T.s_Whole (eqTab_cons C_NoWhole___eq__ (by decide) T.s_NoWhole (eqTab_cons C_Numbers___eq__ (by decide) T.s_Numbers (eqTab_cons C_Barred___eq__ (by decide) T.s_Barred (eqTab_cons C_Least___eq__ (by decide) T.s_Least (eqTab_cons C_Endless___eq__ (by decide) T.s_Endless (eqTab_cons C_Point___eq__ (by decide) T.s_Point (eqTab_cons C_NoPoint___eq__ (by decide) T.s_NoPoint eqTab_nil))))))))
  refine law_okL (k := 14) F S (by decide) rfl (fun cdv A outer s H E hc hr => ?_) plain
  have tk : Takes (cxOf (L2.CX P w) P w K mg base N_law "law" (defScope s_law) (He.ga K "law") cdv A outer s H E) (fun cls d _ H => E cls d H) := takes_of rfl rfl rfl rfl
  have hu : ((cxOf (L2.CX P w) P w K mg base N_law "law" (defScope s_law) (He.ga K "law") cdv A outer s H E)).A.units + 64 < cLine := by have := hr.un; show (A.deeper _).units + 64 < cLine; omega
  have hu1 : ((cxOf (L2.CX P w) P w K mg base N_law "law" (defScope s_law) (He.ga K "law") cdv A outer s H E)).A.units + 1 < cLine := by omega
  exact pss_cons (ps_set S.nd rfl (by first | exact Or.inl rfl | exact Or.inr rfl) (pe_call (ok__law_pen Fp T) (hr.mono (by decide)) rfl hmp Fp.kp (Fp.binds (ps := ["script"]) fun _ _ _ _ _ _ us hl => match us, hl with | [_], _ => rfl) .nil passL (pa_cons (pv 0) pa_nil))) (vsl_cons (W := fun cls d _ H => E cls d H) (vs_setC (i := 2) (own := [("k", 9)]) [] rfl S.nd rfl rfl (vi_range1 T.b_range (va_cons (ve_o ve_int) va_nil)) (blkOk_by rfl) (fun _ _ _ _ _ => (vg_name 9 S.nd)) (fun _ _ _ _ _ => vts_nil) (fun _ _ _ _ _ => (ve_fn C__law_thing takes0 (hr.mono (by decide)) (va_cons (ve_var 1) (va_cons ve_int va_nil)) (al (al al_nil))))) (vsl_cons (W := fun cls d _ H => E cls d H) (vs_setC (i := 3) (own := [("value", 6)]) [6] rfl S.nd rfl rfl (vi_seq st_o (vo_var 2)) (blkOk_by rfl) (fun _ _ _ _ _ => (vg_name 6 S.nd)) (fun _ _ _ _ _ => vts_nil) (fun _ _ _ _ _ => (ve_fn C__law_frozen takes0 (hr.mono (by decide)) (va_cons (ve_var 6) va_nil) (al al_nil)))) (vs_deep (W := fun cls d _ H => E cls d H) (L := 3) (N := 3) (i := 2) (iv := 6) (by decide) (by decide) (vs_to [] (ve_fn C__law_ones tk (hr.mono (by decide)) (va_cons (ve_ixB (vo_var 2) (ve_o ve_int)) (va_cons (ve_ixB (vo_var 2) (ve_o ve_int)) (va_cons (ve_ixB (vo_var 2) (ve_o ve_int)) va_nil))) (al (al (al al_nil)))) (vg_tup rfl (vgs_cons (vg_name 4 S.nd) (vgs_cons (vg_name 5 S.nd) vgs_nil)))) (ps_for (passes_of rfl) rfl (PI.or (pi_list (pv 2)) (pi_tup (pv 2))) (pg_name (i := 6) S.nd rfl (Or.inl rfl)) (pss_one (ps_expr (pe_call FOsp (hr.mono (by decide)) rfl hmsp hksp hbsp .nil passL (pa_cons (pv 6) pa_nil))))) (vsl_of (W := fun cls d _ H => E cls d H) (vs_cons (vs_to [] (ve_fn C__law_ones tk (hr.mono (by decide)) (va_cons (ve_ix (vo_var 3) (ve_o ve_int)) (va_cons (ve_ix (vo_var 3) (ve_o ve_int)) (va_cons (ve_ix (vo_var 3) (ve_o ve_int)) va_nil))) (al (al (al al_nil)))) (vg_tup rfl (vgs_cons (vg_name 7 S.nd) (vgs_cons (vg_name 8 S.nd) vgs_nil)))) (vs_cons (vs_if (vt_w (vw_or (vt_cmp (od_ne hu) (vo_var 5) (vo_var 8)) (vw_or1 (vt_cmp (od_ne hu) (vo_var 5) (ve_o (ve_bin od_plus (ve_o (ve_bin od_plus (ve_o (ve_bin od_times (ve_o (ve_f (vf_lst (va_cons (ve_sl (vo_var 3) vo_none (vo_some (ve_o ve_int)) part_none part_some) va_nil)))) (ve_o ve_int))) (ve_o (ve_bin od_times (ve_o (ve_f (vf_lst (va_cons (ve_sl (vo_var 3) vo_none (vo_some (ve_o ve_int)) part_none part_some) va_nil)))) (ve_o ve_int))))) (ve_o (ve_f (vf_lst (va_cons (ve_var 3) va_nil)))))))))) (vs_one (vs_ret ve_bl)) vs_nil) (vs_cons (vs_for [4] (passes_of rfl) rfl (vi_enum st_e T.b_enumerate (va_cons (ve_var 4) va_nil)) (vg_tup rfl (vgs_cons (vg_name 9 S.nd) (vgs_cons (vg_name 10 S.nd) vgs_nil))) (vs_cons (vs_for [7] (passes_of rfl) rfl (vi_enum st_e T.b_enumerate (va_cons (ve_var 7) va_nil)) (vg_tup rfl (vgs_cons (vg_name 11 S.nd) (vgs_cons (vg_name 12 S.nd) vgs_nil))) (vs_one (vs_if (vt_w (vw_or (vt_cmp (od_ne hu) (ve_o (ve_eqM G (hr.mono (by decide)) (ve_var 10) (ve_var 12))) (ve_o (ve_cmp (od_eq hu) (vo_var 9) (vo_var 11)))) (vw_or1 (vt_cmp (od_ne hu) (ve_o (ve_neM G (hr.mono (by decide)) (ve_var 10) (ve_var 12))) (ve_o (ve_cmp (od_ne hu) (vo_var 9) (vo_var 11))))))) (vs_one (vs_ret ve_bl)) vs_nil))) (vs_one (vs_if (vt_w (vw_or (vt_eqM G (hr.mono (by decide)) (ve_var 10) (ve_ix (vo_var 3) (ve_o ve_int))) (vw_or (vt_eqM G (hr.mono (by decide)) (ve_var 10) (ve_callTy cd_tuple T.b_tuple boot_tuple (va_cons (ve_o (ve_ix (vo_var 5) (vo_var 9))) va_nil))) (vw_or1 (vt_eqM G (hr.mono (by decide)) (ve_var 10) ve_non))))) (vs_one (vs_ret ve_bl)) vs_nil)))) (vs_cons (vs_set (i := 13) [] S.nd (ve_fn C__law_draw tk (hr.mono (by decide)) (va_cons (ve_var 1) (va_cons ve_int va_nil)) (al (al al_nil)))) (vs_cons (vs_set (i := 14) [] S.nd (ve_bin od_plus (ve_o (ve_bin od_plus (ve_o (ve_sl (vo_var 3) vo_none (vo_some (vo_var 13)) part_none part_some)) (ve_o (ve_f (vf_lst (va_cons (ve_tup (va_cons ve_str (va_cons (ve_ix (vo_var 3) (vo_var 13)) va_nil))) va_nil)))))) (ve_o (ve_sl (vo_var 3) (vo_some (ve_o (ve_bin od_plus (vo_var 13) (ve_o ve_int)))) vo_none part_some part_none)))) (vs_cons (vs_set (i := 15) [] S.nd (ve_ix (ve_o (ve_fn C__law_ones tk (hr.mono (by decide)) (va_cons (ve_ix (vo_var 14) (ve_o ve_int)) (va_cons (ve_ix (vo_var 14) (ve_o ve_int)) (va_cons (ve_ix (vo_var 14) (ve_o ve_int)) va_nil))) (al (al (al al_nil))))) (ve_o ve_int))) (vs_cons (vs_for [4] (passes_of rfl) rfl (vi_enum st_e T.b_enumerate (va_cons (ve_var 4) va_nil)) (vg_tup rfl (vgs_cons (vg_name 9 S.nd) (vgs_cons (vg_name 10 S.nd) vgs_nil))) (vs_one (vs_if (vt_cmp (od_ne hu) (ve_o (ve_eqM G (hr.mono (by decide)) (ve_var 10) (ve_ix (vo_var 15) (vo_var 9)))) (ve_o (ve_cmp od_ge (vo_var 13) (ve_o (ve_callB cd_len T.b_len boot_len (va_cons (ve_o (ve_ix (vo_var 5) (vo_var 9))) va_nil)))))) (vs_one (vs_ret ve_bl)) vs_nil))) (vs_one (vs_ret ve_bl)))))))))))))
end
/-! ### the head -/
def fa : List FaB := [fun K => (He.Fa.free "enumerate").ok K,
  fun K => (He.Fa.free "int").ok K,
  fun K => (He.Fa.free "isinstance").ok K,
  fun K => (He.Fa.free "len").ok K,
  fun K => (He.Fa.free "list").ok K,
  fun K => (He.Fa.free "range").ok K,
  fun K => (He.Fa.free "tuple").ok K,
  fun K => (He.Fa.glo "Barred").ok K,
  fun K => (He.Fa.cls "Barred").ok K,
  fun K => ["tree"].all fun f => (He.Fa.noat "Barred" f).ok K,
  fun _ => true,
  fun K => (He.Fa.glo "Endless").ok K,
  fun K => (He.Fa.cls "Endless").ok K,
  fun K => ["numbers", "run"].all fun f => (He.Fa.noat "Endless" f).ok K,
  fun _ => true,
  fun K => (He.Fa.glo "Least").ok K,
  fun K => (He.Fa.cls "Least").ok K,
  fun K => ["number", "numbers", "tree"].all fun f => (He.Fa.noat "Least" f).ok K,
  fun _ => true,
  fun K => (He.Fa.glo "NoPoint").ok K,
  fun K => (He.Fa.cls "NoPoint").ok K,
  fun K => ["weights"].all fun f => (He.Fa.noat "NoPoint" f).ok K,
  fun _ => true,
  fun K => (He.Fa.glo "NoWhole").ok K,
  fun K => (He.Fa.cls "NoWhole").ok K,
  fun K => ["weights", "divisor"].all fun f => (He.Fa.noat "NoWhole" f).ok K,
  fun _ => true,
  fun K => (He.Fa.glo "Numbers").ok K,
  fun K => (He.Fa.cls "Numbers").ok K,
  fun K => ["numbers"].all fun f => (He.Fa.noat "Numbers" f).ok K,
  fun _ => true,
  fun K => (He.Fa.glo "Point").ok K,
  fun K => (He.Fa.cls "Point").ok K,
  fun K => ["tops", "bottom"].all fun f => (He.Fa.noat "Point" f).ok K,
  fun _ => true,
  fun K => (He.Fa.glo "Whole").ok K,
  fun K => (He.Fa.cls "Whole").ok K,
  fun K => ["numbers", "steps"].all fun f => (He.Fa.noat "Whole" f).ok K,
  fun _ => true,
  fun K => ONS.all fun n => (He.Fa.glo n).ok K,
  fun K => (He.Fa.glo "Barred").ok K,
  isoB ONS "Barred",
  fun K => (He.Fa.glo "Endless").ok K,
  isoB ONS "Endless",
  fun K => (He.Fa.glo "Least").ok K,
  isoB ONS "Least",
  fun K => (He.Fa.glo "NoPoint").ok K,
  isoB ONS "NoPoint",
  fun K => (He.Fa.glo "NoWhole").ok K,
  isoB ONS "NoWhole",
  fun K => (He.Fa.glo "Numbers").ok K,
  isoB ONS "Numbers",
  fun K => (He.Fa.glo "Point").ok K,
  isoB ONS "Point",
  fun K => (He.Fa.glo "Whole").ok K,
  isoB ONS "Whole",
  fun K => (He.Fa.glo "_law_pen").ok K,
  fun K => (He.Fa.glo "_law_draw").ok K,
  fun K => (He.Fa.glo "_law_pick").ok K,
  fun K => (He.Fa.glo "_law_number").ok K,
  fun K => (He.Fa.glo "_law_thing").ok K,
  fun K => (He.Fa.glo "_law_frozen").ok K,
  fun K => (He.Fa.glo "is_row").ok K,
  fun K => (He.Fa.glo "as_tuples").ok K,
  fun K => (He.Fa.mkr "Point").ok K,
  fun K => (He.Fa.glo "Point").ok K,
  fun K => (He.Fa.mkr "Whole").ok K,
  fun K => (He.Fa.glo "Whole").ok K,
  fun K => (He.Fa.mkr "NoWhole").ok K,
  fun K => (He.Fa.glo "NoWhole").ok K,
  fun K => (He.Fa.mkr "Endless").ok K,
  fun K => (He.Fa.glo "Endless").ok K,
  fun K => (He.Fa.mkr "Numbers").ok K,
  fun K => (He.Fa.glo "Numbers").ok K,
  fun K => (He.Fa.mkr "Barred").ok K,
  fun K => (He.Fa.glo "Barred").ok K,
  fun K => (He.Fa.mkr "NoPoint").ok K,
  fun K => (He.Fa.glo "NoPoint").ok K,
  fun K => (He.Fa.mkr "Least").ok K,
  fun K => (He.Fa.glo "Least").ok K,
  fun K => (He.Fa.glo "_law_ones").ok K,
  fun K => (He.Fa.glo "_law_spoil").ok K,
  fun K => (He.Fa.meth "Whole" "__eq__").ok K,
  fun K => (He.Fa.meth "NoWhole" "__eq__").ok K,
  fun K => (He.Fa.meth "Numbers" "__eq__").ok K,
  fun K => (He.Fa.meth "Barred" "__eq__").ok K,
  fun K => (He.Fa.meth "Least" "__eq__").ok K,
  fun K => (He.Fa.meth "Endless" "__eq__").ok K,
  fun K => (He.Fa.meth "Point" "__eq__").ok K,
  fun K => (He.Fa.meth "NoPoint" "__eq__").ok K,
  fun K => (He.Fa.glo "law").ok K]
def fn : List He.FnD := [dOf "_law_pen" s__law_pen, dOf "_law_draw" s__law_draw, dOf "_law_pick" s__law_pick, dOf "_law_number" s__law_number, dOf "_law_thing" s__law_thing, dOf "_law_frozen" s__law_frozen, dOf "is_row" s_is_row, dOf "as_tuples" s_as_tuples, dMth "Point" "__init__" "Point.__init__" s_Point___init__, dMth "Whole" "__init__" "Whole.__init__" s_Whole___init__, dMth "NoWhole" "__init__" "NoWhole.__init__" s_NoWhole___init__, dMth "Endless" "__init__" "Endless.__init__" s_Endless___init__, dMth "Numbers" "__init__" "Numbers.__init__" s_Numbers___init__, dMth "Barred" "__init__" "Barred.__init__" s_Barred___init__, dMth "NoPoint" "__init__" "NoPoint.__init__" s_NoPoint___init__, dMth "Least" "__init__" "Least.__init__" s_Least___init__, dOf "_law_ones" s__law_ones, dOf "_law_spoil" s__law_spoil, dMth "Whole" "__eq__" "Whole.__eq__" s_Whole___eq__, dMth "NoWhole" "__eq__" "NoWhole.__eq__" s_NoWhole___eq__, dMth "Numbers" "__eq__" "Numbers.__eq__" s_Numbers___eq__, dMth "Barred" "__eq__" "Barred.__eq__" s_Barred___eq__, dMth "Least" "__eq__" "Least.__eq__" s_Least___eq__, dMth "Endless" "__eq__" "Endless.__eq__" s_Endless___eq__, dMth "Point" "__eq__" "Point.__eq__" s_Point___eq__, dMth "NoPoint" "__eq__" "NoPoint.__eq__" s_NoPoint___eq__, dOf "law" s_law]
theorem tx_of {K : PySem.W.Frag} {h : Heap} {mg : Str → Option Value} (X : K.In h) (G : h.Ns mainGlobals mg) (c : SaysQ fa fn K) : TX K mg where
  b_enumerate := He.free_ok X G (c.fact 0)
  b_int := He.free_ok X G (c.fact 1)
  b_isinstance := He.free_ok X G (c.fact 2)
  b_len := He.free_ok X G (c.fact 3)
  b_list := He.free_ok X G (c.fact 4)
  b_range := He.free_ok X G (c.fact 5)
  b_tuple := He.free_ok X G (c.fact 6)
  o_Barred := ownC_of (He.glo_ok X G (c.fact 7)) (c.fact 8) (c.fact 9)
  o_Endless := ownC_of (He.glo_ok X G (c.fact 11)) (c.fact 12) (c.fact 13)
  o_Least := ownC_of (He.glo_ok X G (c.fact 15)) (c.fact 16) (c.fact 17)
  o_NoPoint := ownC_of (He.glo_ok X G (c.fact 19)) (c.fact 20) (c.fact 21)
  o_NoWhole := ownC_of (He.glo_ok X G (c.fact 23)) (c.fact 24) (c.fact 25)
  o_Numbers := ownC_of (He.glo_ok X G (c.fact 27)) (c.fact 28) (c.fact 29)
  o_Point := ownC_of (He.glo_ok X G (c.fact 31)) (c.fact 32) (c.fact 33)
  o_Whole := ownC_of (He.glo_ok X G (c.fact 35)) (c.fact 36) (c.fact 37)
  s_Barred := isoB_ok (c.fact 41) (fun m hm => He.glo_ok X G (List.all_eq_true.mp (c.fact 39) m hm)) (He.glo_ok X G (c.fact 40))
  s_Endless := isoB_ok (c.fact 43) (fun m hm => He.glo_ok X G (List.all_eq_true.mp (c.fact 39) m hm)) (He.glo_ok X G (c.fact 42))
  s_Least := isoB_ok (c.fact 45) (fun m hm => He.glo_ok X G (List.all_eq_true.mp (c.fact 39) m hm)) (He.glo_ok X G (c.fact 44))
  s_NoPoint := isoB_ok (c.fact 47) (fun m hm => He.glo_ok X G (List.all_eq_true.mp (c.fact 39) m hm)) (He.glo_ok X G (c.fact 46))
  s_NoWhole := isoB_ok (c.fact 49) (fun m hm => He.glo_ok X G (List.all_eq_true.mp (c.fact 39) m hm)) (He.glo_ok X G (c.fact 48))
  s_Numbers := isoB_ok (c.fact 51) (fun m hm => He.glo_ok X G (List.all_eq_true.mp (c.fact 39) m hm)) (He.glo_ok X G (c.fact 50))
  s_Point := isoB_ok (c.fact 53) (fun m hm => He.glo_ok X G (List.all_eq_true.mp (c.fact 39) m hm)) (He.glo_ok X G (c.fact 52))
  s_Whole := isoB_ok (c.fact 55) (fun m hm => He.glo_ok X G (List.all_eq_true.mp (c.fact 39) m hm)) (He.glo_ok X G (c.fact 54))
theorem facts {P : Program} {w : World} {K : PySem.W.Frag} {h : Heap} {mg : Str → Option Value} {a : Addr} (X : K.In h) (G : h.Ns mainGlobals mg) (hfa : mg ("law" : Str) = some (.ref a)) (c : SaysQ fa fn K) (plain : ∀ w : Wd, ∃ w', (g_law (lawE 16) w).res = .ok (.bl true) w') :
    ∃ fd : FuncData, (∀ (s : Shared) (v : Value), BindsTo s fd ⟨[v], []⟩ [("script", v)]) ∧ ∀ base : Heap, K.In base → base.Ns mainGlobals mg → TB K mg base → FnOk P w K mg base (L2.CX P w) 15 a fd ["script"] (spLaw K) := by
  have T := tx_of X G c
  have f__law_pen := He.glo_ok X G (c.fact 56)
  have f__law_draw := He.glo_ok X G (c.fact 57)
  have f__law_pick := He.glo_ok X G (c.fact 58)
  have f__law_number := He.glo_ok X G (c.fact 59)
  have f__law_thing := He.glo_ok X G (c.fact 60)
  have f__law_frozen := He.glo_ok X G (c.fact 61)
  have f_is_row := He.glo_ok X G (c.fact 62)
  have f_as_tuples := He.glo_ok X G (c.fact 63)
  have f_Point___init__ := c.fact 64
  have fg_Point___init__ := He.glo_ok X G (c.fact 65)
  have f_Whole___init__ := c.fact 66
  have fg_Whole___init__ := He.glo_ok X G (c.fact 67)
  have f_NoWhole___init__ := c.fact 68
  have fg_NoWhole___init__ := He.glo_ok X G (c.fact 69)
  have f_Endless___init__ := c.fact 70
  have fg_Endless___init__ := He.glo_ok X G (c.fact 71)
  have f_Numbers___init__ := c.fact 72
  have fg_Numbers___init__ := He.glo_ok X G (c.fact 73)
  have f_Barred___init__ := c.fact 74
  have fg_Barred___init__ := He.glo_ok X G (c.fact 75)
  have f_NoPoint___init__ := c.fact 76
  have fg_NoPoint___init__ := He.glo_ok X G (c.fact 77)
  have f_Least___init__ := c.fact 78
  have fg_Least___init__ := He.glo_ok X G (c.fact 79)
  have f__law_ones := He.glo_ok X G (c.fact 80)
  have f__law_spoil := He.glo_ok X G (c.fact 81)
  have f_Whole___eq__ := c.fact 82
  have f_NoWhole___eq__ := c.fact 83
  have f_Numbers___eq__ := c.fact 84
  have f_Barred___eq__ := c.fact 85
  have f_Least___eq__ := c.fact 86
  have f_Endless___eq__ := c.fact 87
  have f_Point___eq__ := c.fact 88
  have f_NoPoint___eq__ := c.fact 89
  have f_law := He.glo_ok X G (c.fact 90)
  obtain ⟨fd__law_pen, F__law_pen_⟩ := fun_of c 0 (x := "_law_pen") (st := s__law_pen)
  obtain ⟨fd__law_draw, F__law_draw_⟩ := fun_of c 1 (x := "_law_draw") (st := s__law_draw)
  obtain ⟨fd__law_pick, F__law_pick_⟩ := fun_of c 2 (x := "_law_pick") (st := s__law_pick)
  obtain ⟨fd__law_number, F__law_number_⟩ := fun_of c 3 (x := "_law_number") (st := s__law_number)
  obtain ⟨fd__law_thing, F__law_thing_⟩ := fun_of c 4 (x := "_law_thing") (st := s__law_thing)
  obtain ⟨fd__law_frozen, F__law_frozen_⟩ := fun_of c 5 (x := "_law_frozen") (st := s__law_frozen)
  obtain ⟨fd_is_row, F_is_row_⟩ := fun_of c 6 (x := "is_row") (st := s_is_row)
  obtain ⟨fd_as_tuples, F_as_tuples_⟩ := fun_of c 7 (x := "as_tuples") (st := s_as_tuples)
  obtain ⟨fd_Point___init__, F_Point___init___⟩ := fun_ofM c 8 (x := "Point") (m := "__init__") (q := "Point.__init__") (st := s_Point___init__)
  obtain ⟨fd_Whole___init__, F_Whole___init___⟩ := fun_ofM c 9 (x := "Whole") (m := "__init__") (q := "Whole.__init__") (st := s_Whole___init__)
  obtain ⟨fd_NoWhole___init__, F_NoWhole___init___⟩ := fun_ofM c 10 (x := "NoWhole") (m := "__init__") (q := "NoWhole.__init__") (st := s_NoWhole___init__)
  obtain ⟨fd_Endless___init__, F_Endless___init___⟩ := fun_ofM c 11 (x := "Endless") (m := "__init__") (q := "Endless.__init__") (st := s_Endless___init__)
  obtain ⟨fd_Numbers___init__, F_Numbers___init___⟩ := fun_ofM c 12 (x := "Numbers") (m := "__init__") (q := "Numbers.__init__") (st := s_Numbers___init__)
  obtain ⟨fd_Barred___init__, F_Barred___init___⟩ := fun_ofM c 13 (x := "Barred") (m := "__init__") (q := "Barred.__init__") (st := s_Barred___init__)
  obtain ⟨fd_NoPoint___init__, F_NoPoint___init___⟩ := fun_ofM c 14 (x := "NoPoint") (m := "__init__") (q := "NoPoint.__init__") (st := s_NoPoint___init__)
  obtain ⟨fd_Least___init__, F_Least___init___⟩ := fun_ofM c 15 (x := "Least") (m := "__init__") (q := "Least.__init__") (st := s_Least___init__)
  obtain ⟨fd__law_ones, F__law_ones_⟩ := fun_of c 16 (x := "_law_ones") (st := s__law_ones)
  obtain ⟨fd__law_spoil, F__law_spoil_⟩ := fun_of c 17 (x := "_law_spoil") (st := s__law_spoil)
  obtain ⟨fd_Whole___eq__, F_Whole___eq___⟩ := fun_ofM c 18 (x := "Whole") (m := "__eq__") (q := "Whole.__eq__") (st := s_Whole___eq__)
  obtain ⟨fd_NoWhole___eq__, F_NoWhole___eq___⟩ := fun_ofM c 19 (x := "NoWhole") (m := "__eq__") (q := "NoWhole.__eq__") (st := s_NoWhole___eq__)
  obtain ⟨fd_Numbers___eq__, F_Numbers___eq___⟩ := fun_ofM c 20 (x := "Numbers") (m := "__eq__") (q := "Numbers.__eq__") (st := s_Numbers___eq__)
  obtain ⟨fd_Barred___eq__, F_Barred___eq___⟩ := fun_ofM c 21 (x := "Barred") (m := "__eq__") (q := "Barred.__eq__") (st := s_Barred___eq__)
  obtain ⟨fd_Least___eq__, F_Least___eq___⟩ := fun_ofM c 22 (x := "Least") (m := "__eq__") (q := "Least.__eq__") (st := s_Least___eq__)
  obtain ⟨fd_Endless___eq__, F_Endless___eq___⟩ := fun_ofM c 23 (x := "Endless") (m := "__eq__") (q := "Endless.__eq__") (st := s_Endless___eq__)
  obtain ⟨fd_Point___eq__, F_Point___eq___⟩ := fun_ofM c 24 (x := "Point") (m := "__eq__") (q := "Point.__eq__") (st := s_Point___eq__)
  obtain ⟨fd_NoPoint___eq__, F_NoPoint___eq___⟩ := fun_ofM c 25 (x := "NoPoint") (m := "__eq__") (q := "NoPoint.__eq__") (st := s_NoPoint___eq__)
  obtain ⟨fd_law, F_law_⟩ := fun_of c 26 (x := "law") (st := s_law)
  have e := hfa.symm.trans f_law
  cases e
  have b := law_binds F_law_ fun _ _ _ _ _ _ s v => .of_eq rfl
  refine ⟨fd_law, b, fun base _ _ tb => ?_⟩
  have C__law_draw : Callee P w K mg base "_law_draw" 2 2 F__law_draw := ok__law_draw F__law_draw_ f__law_draw T
  have C__law_pick : Callee P w K mg base "_law_pick" 3 2 F__law_pick := ok__law_pick F__law_pick_ f__law_pick T C__law_draw
  have C__law_number : Callee P w K mg base "_law_number" 4 1 F__law_number := ok__law_number F__law_number_ f__law_number T C__law_draw C__law_pick
  have C__law_thing : Callee P w K mg base "_law_thing" 9 2 F__law_thing := ok__law_thing F__law_thing_ f__law_thing T C__law_draw C__law_number C__law_pick
  have C__law_frozen : Callee P w K mg base "_law_frozen" 7 1 F__law_frozen := ok__law_frozen F__law_frozen_ f__law_frozen T
  have C_is_row : Callee P w K mg base "is_row" 2 1 F_is_row := ok_is_row F_is_row_ f_is_row T
  have C_as_tuples : Callee P w K mg base "as_tuples" 9 1 F_as_tuples := ok_as_tuples F_as_tuples_ f_as_tuples T C_is_row
  have C_Point___init__ : CalleeI P w K mg base "Point" 10 2 F_Point___init__ := ok_Point___init__ F_Point___init___ f_Point___init__ fg_Point___init__ T C_as_tuples
  have C_Whole___init__ : CalleeI P w K mg base "Whole" 10 2 F_Whole___init__ := ok_Whole___init__ F_Whole___init___ f_Whole___init__ fg_Whole___init__ T C_as_tuples
  have C_NoWhole___init__ : CalleeI P w K mg base "NoWhole" 10 2 F_NoWhole___init__ := ok_NoWhole___init__ F_NoWhole___init___ f_NoWhole___init__ fg_NoWhole___init__ T C_as_tuples
  have C_Endless___init__ : CalleeI P w K mg base "Endless" 10 2 F_Endless___init__ := ok_Endless___init__ F_Endless___init___ f_Endless___init__ fg_Endless___init__ T C_as_tuples
  have C_Numbers___init__ : CalleeI P w K mg base "Numbers" 10 1 F_Numbers___init__ := ok_Numbers___init__ F_Numbers___init___ f_Numbers___init__ fg_Numbers___init__ T C_as_tuples
  have C_Barred___init__ : CalleeI P w K mg base "Barred" 10 1 F_Barred___init__ := ok_Barred___init__ F_Barred___init___ f_Barred___init__ fg_Barred___init__ T C_as_tuples
  have C_NoPoint___init__ : CalleeI P w K mg base "NoPoint" 10 1 F_NoPoint___init__ := ok_NoPoint___init__ F_NoPoint___init___ f_NoPoint___init__ fg_NoPoint___init__ T C_as_tuples
  have C_Least___init__ : CalleeI P w K mg base "Least" 10 3 F_Least___init__ := ok_Least___init__ F_Least___init___ f_Least___init__ fg_Least___init__ T C_as_tuples
  have C__law_ones : Callee P w K mg base "_law_ones" 12 3 F__law_ones := ok__law_ones F__law_ones_ f__law_ones T C_Barred___init__ C_Endless___init__ C_Least___init__ C_NoPoint___init__ C_NoWhole___init__ C_Numbers___init__ C_Point___init__ C_Whole___init__
  have C__law_spoil : SpoilC P w K mg base "_law_spoil" 5 3 3 := ok__law_spoil F__law_spoil_ f__law_spoil T
  have C_Whole___eq__ : CalleeM P w K mg base "Whole" "__eq__" 2 2 F_Whole___eq__ := ok_Whole___eq__ F_Whole___eq___ f_Whole___eq__ T
  have C_NoWhole___eq__ : CalleeM P w K mg base "NoWhole" "__eq__" 2 2 F_NoWhole___eq__ := ok_NoWhole___eq__ F_NoWhole___eq___ f_NoWhole___eq__ T
  have C_Numbers___eq__ : CalleeM P w K mg base "Numbers" "__eq__" 2 2 F_Numbers___eq__ := ok_Numbers___eq__ F_Numbers___eq___ f_Numbers___eq__ T
  have C_Barred___eq__ : CalleeM P w K mg base "Barred" "__eq__" 2 2 F_Barred___eq__ := ok_Barred___eq__ F_Barred___eq___ f_Barred___eq__ T
  have C_Least___eq__ : CalleeM P w K mg base "Least" "__eq__" 2 2 F_Least___eq__ := ok_Least___eq__ F_Least___eq___ f_Least___eq__ T
  have C_Endless___eq__ : CalleeM P w K mg base "Endless" "__eq__" 2 2 F_Endless___eq__ := ok_Endless___eq__ F_Endless___eq___ f_Endless___eq__ T
  have C_Point___eq__ : CalleeM P w K mg base "Point" "__eq__" 2 2 F_Point___eq__ := ok_Point___eq__ F_Point___eq___ f_Point___eq__ T
  have C_NoPoint___eq__ : CalleeM P w K mg base "NoPoint" "__eq__" 2 2 F_NoPoint___eq__ := ok_NoPoint___eq__ F_NoPoint___eq___ f_NoPoint___eq__ T
  exact ok_law F_law_ T F__law_pen_ f__law_pen C_Barred___eq__ C_Endless___eq__ C_Least___eq__ C_NoPoint___eq__ C_NoWhole___eq__ C_Numbers___eq__ C_Point___eq__ C_Whole___eq__ C__law_draw C__law_frozen C__law_ones C__law_spoil C__law_thing plain
abbrev R : PySem.W.OpenRow := PySem.W.OpenLaw.row PySem.Challenge.rw_leastwaits_k12_answers_of_integers_kept
abbrev hk : PySem.W.Hook := hookQ 5 fa fn
def ob (s : PySem.W.SharedT) : AlQ × Bool := obsQG 5 fa fn (HandSHeadRun.getT s)
theorem ob_eq (s : PySem.W.SharedT) : ob s = hk.obs s.abs := obsQG_eq (HandSHeadRun.getT_eq s)
def names0 : List Str := ["__name__", "is_row", "as_tuples", "Whole", "NoWhole", "Numbers", "Barred", "Least", "Endless", "Point", "NoPoint", "_law_pen", "_law_draw", "_law_pick", "_law_number", "_law_thing", "_law_frozen", "_law_spoil", "_law_ones"]
def names : List Str := names0
theorem run (w : World) : HandSHeadRun.RunEq R (PySem.W.view R.prog [23]) hk ob 20000 names w := by
  intro os
  kernel_rfl
end L_k12

set_option Elab.async false
set_option linter.all false
set_option maxRecDepth 100000
set_option maxHeartbeats 1000000
namespace L_k12
open PySem PySem.SeqAt PySem.Spec PyProof.Rows L2 DL
theorem drawOk : DrawOk F__law_draw := fun m w h hz => draw_ok w h hz
theorem draw {m : Int} {Q : D → Prop} (h0 : 0 < m) (h1 : m < 2 ^ 60) (q : ∀ d : Int, 0 ≤ d → d < m → Q (.int d)) : FOk F__law_draw [.pen, .int m] Q := fok_draw drawOk h0 h1 q
theorem pick {l : List D} {Q : D → Prop} (h0 : l ≠ []) (h1 : l.length < 2 ^ 60) (q : ∀ d ∈ l, Q d) : FOk F__law_pick [.pen, .lst l] Q := fok_pick drawOk h0 h1 q
theorem number {Q : D → Prop} (q : ∀ d : Int, Q (.int d)) : FOk F__law_number [.pen] Q := by
  refine fok_run ?_
  unfold g__law_number
  (repeat (first | (with_reducible refine eok_c ?_) | ((with_reducible refine eok_varX ?_); refine ⟨_, rfl, ?_⟩) | ((with_reducible refine eok_obsX ?_); refine ⟨_, _, rfl, ?_⟩) | (with_reducible refine eok_bin ?_) | (with_reducible refine eok_un ?_) | (with_reducible refine eok_not ?_) | (with_reducible refine eok_and ?_) | (with_reducible refine eok_or ?_) | (with_reducible refine eok_if ?_) | (with_reducible refine eok_chain ?_) | (with_reducible refine iok_nil ?_) | (with_reducible refine iok_cons ?_) | (with_reducible refine eok_tup ?_) | (with_reducible refine eok_lst ?_) | (with_reducible refine eok_call ?_) | (with_reducible refine eok_B ?_) | (with_reducible refine eok_isi ?_) | (with_reducible refine eok_int ?_) | (with_reducible refine eok_sl ?_) | (with_reducible refine eok_lrg ?_) | (with_reducible refine eok_err ?_) | (with_reducible refine eok_fldE ?_) | (with_reducible refine eok_isiE ?_) | (with_reducible refine iok_seq ?_) | (with_reducible refine iok_zip ?_) | (with_reducible refine iok_enum ?_) | (with_reducible refine iok_range1 ?_) | (with_reducible refine sok_next ?_) | (with_reducible refine sok_seq ?_) | (with_reducible refine sok_set ?_) | (with_reducible refine sok_setO ?_) | (with_reducible refine sok_par ?_) | (with_reducible refine sok_to ?_) | (with_reducible refine sok_drop ?_) | (with_reducible refine sok_ret ?_) | (with_reducible refine sok_if ?_) | (refine ⟨(by show List.length _ ≤ 16777216; simp only [List.length_cons, List.length_nil]; decide), ?_⟩)))
  refine pick (by simp) (by simp) fun d hd => ?_
  obtain ⟨n, rfl, n0, n1⟩ : ∃ n : Int, d = .int n ∧ 0 ≤ n ∧ n ≤ 40 := by
    simp only [List.mem_cons, List.not_mem_nil, or_false] at hd
    rcases hd with rfl | rfl | rfl | rfl | rfl | rfl | rfl <;> exact ⟨_, rfl, by decide, by decide⟩
  (repeat (first | (with_reducible refine eok_c ?_) | ((with_reducible refine eok_varX ?_); refine ⟨_, rfl, ?_⟩) | ((with_reducible refine eok_obsX ?_); refine ⟨_, _, rfl, ?_⟩) | (with_reducible refine eok_bin ?_) | (with_reducible refine eok_un ?_) | (with_reducible refine eok_not ?_) | (with_reducible refine eok_and ?_) | (with_reducible refine eok_or ?_) | (with_reducible refine eok_if ?_) | (with_reducible refine eok_chain ?_) | (with_reducible refine iok_nil ?_) | (with_reducible refine iok_cons ?_) | (with_reducible refine eok_tup ?_) | (with_reducible refine eok_lst ?_) | (with_reducible refine eok_call ?_) | (with_reducible refine eok_B ?_) | (with_reducible refine eok_isi ?_) | (with_reducible refine eok_int ?_) | (with_reducible refine eok_sl ?_) | (with_reducible refine eok_lrg ?_) | (with_reducible refine eok_err ?_) | (with_reducible refine eok_fldE ?_) | (with_reducible refine eok_isiE ?_) | (with_reducible refine iok_seq ?_) | (with_reducible refine iok_zip ?_) | (with_reducible refine iok_enum ?_) | (with_reducible refine iok_range1 ?_) | (with_reducible refine sok_next ?_) | (with_reducible refine sok_seq ?_) | (with_reducible refine sok_set ?_) | (with_reducible refine sok_setO ?_) | (with_reducible refine sok_par ?_) | (with_reducible refine sok_to ?_) | (with_reducible refine sok_drop ?_) | (with_reducible refine sok_ret ?_) | (with_reducible refine sok_if ?_) | (refine ⟨(by show List.length _ ≤ 16777216; simp only [List.length_cons, List.length_nil]; decide), ?_⟩)))
  refine sok_for (fun _ r => ∃ (x : Slot) (f : Int), r = [some (.pen, false), some (.int n, false), some (.int f, false), x]) ?_
  (repeat (first | (with_reducible refine eok_c ?_) | ((with_reducible refine eok_varX ?_); refine ⟨_, rfl, ?_⟩) | ((with_reducible refine eok_obsX ?_); refine ⟨_, _, rfl, ?_⟩) | (with_reducible refine eok_bin ?_) | (with_reducible refine eok_un ?_) | (with_reducible refine eok_not ?_) | (with_reducible refine eok_and ?_) | (with_reducible refine eok_or ?_) | (with_reducible refine eok_if ?_) | (with_reducible refine eok_chain ?_) | (with_reducible refine iok_nil ?_) | (with_reducible refine iok_cons ?_) | (with_reducible refine eok_tup ?_) | (with_reducible refine eok_lst ?_) | (with_reducible refine eok_call ?_) | (with_reducible refine eok_B ?_) | (with_reducible refine eok_isi ?_) | (with_reducible refine eok_int ?_) | (with_reducible refine eok_sl ?_) | (with_reducible refine eok_lrg ?_) | (with_reducible refine eok_err ?_) | (with_reducible refine eok_fldE ?_) | (with_reducible refine eok_isiE ?_) | (with_reducible refine iok_seq ?_) | (with_reducible refine iok_zip ?_) | (with_reducible refine iok_enum ?_) | (with_reducible refine iok_range1 ?_) | (with_reducible refine sok_next ?_) | (with_reducible refine sok_seq ?_) | (with_reducible refine sok_set ?_) | (with_reducible refine sok_setO ?_) | (with_reducible refine sok_par ?_) | (with_reducible refine sok_to ?_) | (with_reducible refine sok_drop ?_) | (with_reducible refine sok_ret ?_) | (with_reducible refine sok_if ?_) | (refine ⟨(by show List.length _ ≤ 16777216; simp only [List.length_cons, List.length_nil]; decide), ?_⟩)))
  refine ⟨n, rfl, ⟨by omega, by omega⟩, ⟨none, 0, rfl⟩, ?_, ?_⟩
  · rintro j d r hd ⟨x, f, rfl⟩
    refine ⟨_, rfl, ?_⟩
    (repeat (first | (with_reducible refine eok_c ?_) | ((with_reducible refine eok_varX ?_); refine ⟨_, rfl, ?_⟩) | ((with_reducible refine eok_obsX ?_); refine ⟨_, _, rfl, ?_⟩) | (with_reducible refine eok_bin ?_) | (with_reducible refine eok_un ?_) | (with_reducible refine eok_not ?_) | (with_reducible refine eok_and ?_) | (with_reducible refine eok_or ?_) | (with_reducible refine eok_if ?_) | (with_reducible refine eok_chain ?_) | (with_reducible refine iok_nil ?_) | (with_reducible refine iok_cons ?_) | (with_reducible refine eok_tup ?_) | (with_reducible refine eok_lst ?_) | (with_reducible refine eok_call ?_) | (with_reducible refine eok_B ?_) | (with_reducible refine eok_isi ?_) | (with_reducible refine eok_int ?_) | (with_reducible refine eok_sl ?_) | (with_reducible refine eok_lrg ?_) | (with_reducible refine eok_err ?_) | (with_reducible refine eok_fldE ?_) | (with_reducible refine eok_isiE ?_) | (with_reducible refine iok_seq ?_) | (with_reducible refine iok_zip ?_) | (with_reducible refine iok_enum ?_) | (with_reducible refine iok_range1 ?_) | (with_reducible refine sok_next ?_) | (with_reducible refine sok_seq ?_) | (with_reducible refine sok_set ?_) | (with_reducible refine sok_setO ?_) | (with_reducible refine sok_par ?_) | (with_reducible refine sok_to ?_) | (with_reducible refine sok_drop ?_) | (with_reducible refine sok_ret ?_) | (with_reducible refine sok_if ?_) | (refine ⟨(by show List.length _ ≤ 16777216; simp only [List.length_cons, List.length_nil]; decide), ?_⟩)))
    refine ⟨_, timesD_s (.inr (by decide)), ?_⟩
    (repeat (first | (with_reducible refine eok_c ?_) | ((with_reducible refine eok_varX ?_); refine ⟨_, rfl, ?_⟩) | ((with_reducible refine eok_obsX ?_); refine ⟨_, _, rfl, ?_⟩) | (with_reducible refine eok_bin ?_) | (with_reducible refine eok_un ?_) | (with_reducible refine eok_not ?_) | (with_reducible refine eok_and ?_) | (with_reducible refine eok_or ?_) | (with_reducible refine eok_if ?_) | (with_reducible refine eok_chain ?_) | (with_reducible refine iok_nil ?_) | (with_reducible refine iok_cons ?_) | (with_reducible refine eok_tup ?_) | (with_reducible refine eok_lst ?_) | (with_reducible refine eok_call ?_) | (with_reducible refine eok_B ?_) | (with_reducible refine eok_isi ?_) | (with_reducible refine eok_int ?_) | (with_reducible refine eok_sl ?_) | (with_reducible refine eok_lrg ?_) | (with_reducible refine eok_err ?_) | (with_reducible refine eok_fldE ?_) | (with_reducible refine eok_isiE ?_) | (with_reducible refine iok_seq ?_) | (with_reducible refine iok_zip ?_) | (with_reducible refine iok_enum ?_) | (with_reducible refine iok_range1 ?_) | (with_reducible refine sok_next ?_) | (with_reducible refine sok_seq ?_) | (with_reducible refine sok_set ?_) | (with_reducible refine sok_setO ?_) | (with_reducible refine sok_par ?_) | (with_reducible refine sok_to ?_) | (with_reducible refine sok_drop ?_) | (with_reducible refine sok_ret ?_) | (with_reducible refine sok_if ?_) | (refine ⟨(by show List.length _ ≤ 16777216; simp only [List.length_cons, List.length_nil]; decide), ?_⟩)))
    refine draw (by decide) (by decide) fun d _ _ => ?_
    exact ⟨_, plusD_i, _, _, rfl⟩
  · rintro r ⟨x, f, rfl⟩
    (repeat (first | (with_reducible refine eok_c ?_) | ((with_reducible refine eok_varX ?_); refine ⟨_, rfl, ?_⟩) | ((with_reducible refine eok_obsX ?_); refine ⟨_, _, rfl, ?_⟩) | (with_reducible refine eok_bin ?_) | (with_reducible refine eok_un ?_) | (with_reducible refine eok_not ?_) | (with_reducible refine eok_and ?_) | (with_reducible refine eok_or ?_) | (with_reducible refine eok_if ?_) | (with_reducible refine eok_chain ?_) | (with_reducible refine iok_nil ?_) | (with_reducible refine iok_cons ?_) | (with_reducible refine eok_tup ?_) | (with_reducible refine eok_lst ?_) | (with_reducible refine eok_call ?_) | (with_reducible refine eok_B ?_) | (with_reducible refine eok_isi ?_) | (with_reducible refine eok_int ?_) | (with_reducible refine eok_sl ?_) | (with_reducible refine eok_lrg ?_) | (with_reducible refine eok_err ?_) | (with_reducible refine eok_fldE ?_) | (with_reducible refine eok_isiE ?_) | (with_reducible refine iok_seq ?_) | (with_reducible refine iok_zip ?_) | (with_reducible refine iok_enum ?_) | (with_reducible refine iok_range1 ?_) | (with_reducible refine sok_next ?_) | (with_reducible refine sok_seq ?_) | (with_reducible refine sok_set ?_) | (with_reducible refine sok_setO ?_) | (with_reducible refine sok_par ?_) | (with_reducible refine sok_to ?_) | (with_reducible refine sok_drop ?_) | (with_reducible refine sok_ret ?_) | (with_reducible refine sok_if ?_) | (refine ⟨(by show List.length _ ≤ 16777216; simp only [List.length_cons, List.length_nil]; decide), ?_⟩)))
    refine draw (by decide) (by decide) fun d _ _ => ?_
    (repeat (first | (with_reducible refine eok_c ?_) | ((with_reducible refine eok_varX ?_); refine ⟨_, rfl, ?_⟩) | ((with_reducible refine eok_obsX ?_); refine ⟨_, _, rfl, ?_⟩) | (with_reducible refine eok_bin ?_) | (with_reducible refine eok_un ?_) | (with_reducible refine eok_not ?_) | (with_reducible refine eok_and ?_) | (with_reducible refine eok_or ?_) | (with_reducible refine eok_if ?_) | (with_reducible refine eok_chain ?_) | (with_reducible refine iok_nil ?_) | (with_reducible refine iok_cons ?_) | (with_reducible refine eok_tup ?_) | (with_reducible refine eok_lst ?_) | (with_reducible refine eok_call ?_) | (with_reducible refine eok_B ?_) | (with_reducible refine eok_isi ?_) | (with_reducible refine eok_int ?_) | (with_reducible refine eok_sl ?_) | (with_reducible refine eok_lrg ?_) | (with_reducible refine eok_err ?_) | (with_reducible refine eok_fldE ?_) | (with_reducible refine eok_isiE ?_) | (with_reducible refine iok_seq ?_) | (with_reducible refine iok_zip ?_) | (with_reducible refine iok_enum ?_) | (with_reducible refine iok_range1 ?_) | (with_reducible refine sok_next ?_) | (with_reducible refine sok_seq ?_) | (with_reducible refine sok_set ?_) | (with_reducible refine sok_setO ?_) | (with_reducible refine sok_par ?_) | (with_reducible refine sok_to ?_) | (with_reducible refine sok_drop ?_) | (with_reducible refine sok_ret ?_) | (with_reducible refine sok_if ?_) | (refine ⟨(by show List.length _ ≤ 16777216; simp only [List.length_cons, List.length_nil]; decide), ?_⟩)))
    refine ⟨_, eqD_int _ _, _, rfl, fun _ => ?_, fun _ => ?_⟩
    · (repeat (first | (with_reducible refine eok_c ?_) | ((with_reducible refine eok_varX ?_); refine ⟨_, rfl, ?_⟩) | ((with_reducible refine eok_obsX ?_); refine ⟨_, _, rfl, ?_⟩) | (with_reducible refine eok_bin ?_) | (with_reducible refine eok_un ?_) | (with_reducible refine eok_not ?_) | (with_reducible refine eok_and ?_) | (with_reducible refine eok_or ?_) | (with_reducible refine eok_if ?_) | (with_reducible refine eok_chain ?_) | (with_reducible refine iok_nil ?_) | (with_reducible refine iok_cons ?_) | (with_reducible refine eok_tup ?_) | (with_reducible refine eok_lst ?_) | (with_reducible refine eok_call ?_) | (with_reducible refine eok_B ?_) | (with_reducible refine eok_isi ?_) | (with_reducible refine eok_int ?_) | (with_reducible refine eok_sl ?_) | (with_reducible refine eok_lrg ?_) | (with_reducible refine eok_err ?_) | (with_reducible refine eok_fldE ?_) | (with_reducible refine eok_isiE ?_) | (with_reducible refine iok_seq ?_) | (with_reducible refine iok_zip ?_) | (with_reducible refine iok_enum ?_) | (with_reducible refine iok_range1 ?_) | (with_reducible refine sok_next ?_) | (with_reducible refine sok_seq ?_) | (with_reducible refine sok_set ?_) | (with_reducible refine sok_setO ?_) | (with_reducible refine sok_par ?_) | (with_reducible refine sok_to ?_) | (with_reducible refine sok_drop ?_) | (with_reducible refine sok_ret ?_) | (with_reducible refine sok_if ?_) | (refine ⟨(by show List.length _ ≤ 16777216; simp only [List.length_cons, List.length_nil]; decide), ?_⟩))); exact q _
    · (repeat (first | (with_reducible refine eok_c ?_) | ((with_reducible refine eok_varX ?_); refine ⟨_, rfl, ?_⟩) | ((with_reducible refine eok_obsX ?_); refine ⟨_, _, rfl, ?_⟩) | (with_reducible refine eok_bin ?_) | (with_reducible refine eok_un ?_) | (with_reducible refine eok_not ?_) | (with_reducible refine eok_and ?_) | (with_reducible refine eok_or ?_) | (with_reducible refine eok_if ?_) | (with_reducible refine eok_chain ?_) | (with_reducible refine iok_nil ?_) | (with_reducible refine iok_cons ?_) | (with_reducible refine eok_tup ?_) | (with_reducible refine eok_lst ?_) | (with_reducible refine eok_call ?_) | (with_reducible refine eok_B ?_) | (with_reducible refine eok_isi ?_) | (with_reducible refine eok_int ?_) | (with_reducible refine eok_sl ?_) | (with_reducible refine eok_lrg ?_) | (with_reducible refine eok_err ?_) | (with_reducible refine eok_fldE ?_) | (with_reducible refine eok_isiE ?_) | (with_reducible refine iok_seq ?_) | (with_reducible refine iok_zip ?_) | (with_reducible refine iok_enum ?_) | (with_reducible refine iok_range1 ?_) | (with_reducible refine sok_next ?_) | (with_reducible refine sok_seq ?_) | (with_reducible refine sok_set ?_) | (with_reducible refine sok_setO ?_) | (with_reducible refine sok_par ?_) | (with_reducible refine sok_to ?_) | (with_reducible refine sok_drop ?_) | (with_reducible refine sok_ret ?_) | (with_reducible refine sok_if ?_) | (refine ⟨(by show List.length _ ≤ 16777216; simp only [List.length_cons, List.length_nil]; decide), ?_⟩))); exact ⟨_, rfl, q _⟩
theorem ltD_i {a b : Int} : ltD (.int a) (.int b) = some (.bl (decide (a < b))) := rfl
theorem leaf {n : Nat} {T : D → Prop} {r : DL.Env} {N : DL.Env → Prop} (h0 : r[0]? = some (some (.pen, false))) (q : ∀ d, TrD 3 n d → T d) :
    SOk (sRet (dCall F__law_pick (aCons (dVar 0) (aCons (dLst (aCons (dC (.int 0)) (aCons (dC (.int 1)) (aCons (dUn negD (dC (.int 1))) (aCons (dC .non) (aCons (dC (.str "a")) (aCons (dC (.bl true)) (aCons (dCall F__law_number (aCons (dVar 0) aNil)) aNil)))))))) aNil)))) r N T := by
  have h1 : (relF all_ 0 r)[0]? = some (some (.pen, false)) := by rw [relF_at, h0]; rfl
  refine sok_ret ?_
  refine eok_call (iok_cons (eok_var h1 (iok_cons (eok_lst ?_))))
  (repeat (first | (with_reducible refine eok_c ?_) | ((with_reducible refine eok_varX ?_); refine ⟨_, rfl, ?_⟩) | ((with_reducible refine eok_obsX ?_); refine ⟨_, _, rfl, ?_⟩) | (with_reducible refine eok_bin ?_) | (with_reducible refine eok_un ?_) | (with_reducible refine eok_not ?_) | (with_reducible refine eok_and ?_) | (with_reducible refine eok_or ?_) | (with_reducible refine eok_if ?_) | (with_reducible refine eok_chain ?_) | (with_reducible refine iok_nil ?_) | (with_reducible refine iok_cons ?_) | (with_reducible refine eok_tup ?_) | (with_reducible refine eok_lst ?_) | (with_reducible refine eok_call ?_) | (with_reducible refine eok_B ?_) | (with_reducible refine eok_isi ?_) | (with_reducible refine eok_int ?_) | (with_reducible refine eok_sl ?_) | (with_reducible refine eok_lrg ?_) | (with_reducible refine eok_err ?_) | (with_reducible refine eok_fldE ?_) | (with_reducible refine eok_isiE ?_) | (with_reducible refine iok_seq ?_) | (with_reducible refine iok_zip ?_) | (with_reducible refine iok_enum ?_) | (with_reducible refine iok_range1 ?_) | (with_reducible refine sok_next ?_) | (with_reducible refine sok_seq ?_) | (with_reducible refine sok_set ?_) | (with_reducible refine sok_setO ?_) | (with_reducible refine sok_par ?_) | (with_reducible refine sok_to ?_) | (with_reducible refine sok_drop ?_) | (with_reducible refine sok_ret ?_) | (with_reducible refine sok_if ?_) | (refine ⟨(by show List.length _ ≤ 16777216; simp only [List.length_cons, List.length_nil]; decide), ?_⟩)))
  refine ⟨_, rfl, ?_⟩
  repeat (first | (first | (with_reducible refine eok_c ?_) | ((with_reducible refine eok_varX ?_); refine ⟨_, rfl, ?_⟩) | ((with_reducible refine eok_obsX ?_); refine ⟨_, _, rfl, ?_⟩) | (with_reducible refine eok_bin ?_) | (with_reducible refine eok_un ?_) | (with_reducible refine eok_not ?_) | (with_reducible refine eok_and ?_) | (with_reducible refine eok_or ?_) | (with_reducible refine eok_if ?_) | (with_reducible refine eok_chain ?_) | (with_reducible refine iok_nil ?_) | (with_reducible refine iok_cons ?_) | (with_reducible refine eok_tup ?_) | (with_reducible refine eok_lst ?_) | (with_reducible refine eok_call ?_) | (with_reducible refine eok_B ?_) | (with_reducible refine eok_isi ?_) | (with_reducible refine eok_int ?_) | (with_reducible refine eok_sl ?_) | (with_reducible refine eok_lrg ?_) | (with_reducible refine eok_err ?_) | (with_reducible refine eok_fldE ?_) | (with_reducible refine eok_isiE ?_) | (with_reducible refine iok_seq ?_) | (with_reducible refine iok_zip ?_) | (with_reducible refine iok_enum ?_) | (with_reducible refine iok_range1 ?_) | (with_reducible refine sok_next ?_) | (with_reducible refine sok_seq ?_) | (with_reducible refine sok_set ?_) | (with_reducible refine sok_setO ?_) | (with_reducible refine sok_par ?_) | (with_reducible refine sok_to ?_) | (with_reducible refine sok_drop ?_) | (with_reducible refine sok_ret ?_) | (with_reducible refine sok_if ?_) | (refine ⟨(by show List.length _ ≤ 16777216; simp only [List.length_cons, List.length_nil]; decide), ?_⟩)) | refine eok_var h1 ?_)
  refine number fun z => ?_
  (repeat (first | (with_reducible refine eok_c ?_) | ((with_reducible refine eok_varX ?_); refine ⟨_, rfl, ?_⟩) | ((with_reducible refine eok_obsX ?_); refine ⟨_, _, rfl, ?_⟩) | (with_reducible refine eok_bin ?_) | (with_reducible refine eok_un ?_) | (with_reducible refine eok_not ?_) | (with_reducible refine eok_and ?_) | (with_reducible refine eok_or ?_) | (with_reducible refine eok_if ?_) | (with_reducible refine eok_chain ?_) | (with_reducible refine iok_nil ?_) | (with_reducible refine iok_cons ?_) | (with_reducible refine eok_tup ?_) | (with_reducible refine eok_lst ?_) | (with_reducible refine eok_call ?_) | (with_reducible refine eok_B ?_) | (with_reducible refine eok_isi ?_) | (with_reducible refine eok_int ?_) | (with_reducible refine eok_sl ?_) | (with_reducible refine eok_lrg ?_) | (with_reducible refine eok_err ?_) | (with_reducible refine eok_fldE ?_) | (with_reducible refine eok_isiE ?_) | (with_reducible refine iok_seq ?_) | (with_reducible refine iok_zip ?_) | (with_reducible refine iok_enum ?_) | (with_reducible refine iok_range1 ?_) | (with_reducible refine sok_next ?_) | (with_reducible refine sok_seq ?_) | (with_reducible refine sok_set ?_) | (with_reducible refine sok_setO ?_) | (with_reducible refine sok_par ?_) | (with_reducible refine sok_to ?_) | (with_reducible refine sok_drop ?_) | (with_reducible refine sok_ret ?_) | (with_reducible refine sok_if ?_) | (refine ⟨(by show List.length _ ≤ 16777216; simp only [List.length_cons, List.length_nil]; decide), ?_⟩)))
  refine pick (by simp) (by simp) fun d hd => q d ?_
  simp only [List.mem_cons, List.not_mem_nil, or_false] at hd
  rcases hd with rfl | rfl | rfl | rfl | rfl | rfl | rfl <;> first | exact .int _ | exact .non | exact .str _ | exact .bl _
/-- a thing of at most n storeys -/
theorem thing : ∀ (n : Nat) {Q : D → Prop}, n < 10 → (∀ d, TrD 3 n d → Q d) → FOk (FR__law_thing (n + 1)) [.pen, .int n] Q := by
  intro n
  induction n with
  | zero =>
    intro Q hn q
    refine fok_run ?_
    unfold g__law_thing
    (repeat (first | (with_reducible refine eok_c ?_) | ((with_reducible refine eok_varX ?_); refine ⟨_, rfl, ?_⟩) | ((with_reducible refine eok_obsX ?_); refine ⟨_, _, rfl, ?_⟩) | (with_reducible refine eok_bin ?_) | (with_reducible refine eok_un ?_) | (with_reducible refine eok_not ?_) | (with_reducible refine eok_and ?_) | (with_reducible refine eok_or ?_) | (with_reducible refine eok_if ?_) | (with_reducible refine eok_chain ?_) | (with_reducible refine iok_nil ?_) | (with_reducible refine iok_cons ?_) | (with_reducible refine eok_tup ?_) | (with_reducible refine eok_lst ?_) | (with_reducible refine eok_call ?_) | (with_reducible refine eok_B ?_) | (with_reducible refine eok_isi ?_) | (with_reducible refine eok_int ?_) | (with_reducible refine eok_sl ?_) | (with_reducible refine eok_lrg ?_) | (with_reducible refine eok_err ?_) | (with_reducible refine eok_fldE ?_) | (with_reducible refine eok_isiE ?_) | (with_reducible refine iok_seq ?_) | (with_reducible refine iok_zip ?_) | (with_reducible refine iok_enum ?_) | (with_reducible refine iok_range1 ?_) | (with_reducible refine sok_next ?_) | (with_reducible refine sok_seq ?_) | (with_reducible refine sok_set ?_) | (with_reducible refine sok_setO ?_) | (with_reducible refine sok_par ?_) | (with_reducible refine sok_to ?_) | (with_reducible refine sok_drop ?_) | (with_reducible refine sok_ret ?_) | (with_reducible refine sok_if ?_) | (refine ⟨(by show List.length _ ≤ 16777216; simp only [List.length_cons, List.length_nil]; decide), ?_⟩)))
    refine draw (by decide) (by decide) fun d d0 d1 => ?_
    (repeat (first | (with_reducible refine eok_c ?_) | ((with_reducible refine eok_varX ?_); refine ⟨_, rfl, ?_⟩) | ((with_reducible refine eok_obsX ?_); refine ⟨_, _, rfl, ?_⟩) | (with_reducible refine eok_bin ?_) | (with_reducible refine eok_un ?_) | (with_reducible refine eok_not ?_) | (with_reducible refine eok_and ?_) | (with_reducible refine eok_or ?_) | (with_reducible refine eok_if ?_) | (with_reducible refine eok_chain ?_) | (with_reducible refine iok_nil ?_) | (with_reducible refine iok_cons ?_) | (with_reducible refine eok_tup ?_) | (with_reducible refine eok_lst ?_) | (with_reducible refine eok_call ?_) | (with_reducible refine eok_B ?_) | (with_reducible refine eok_isi ?_) | (with_reducible refine eok_int ?_) | (with_reducible refine eok_sl ?_) | (with_reducible refine eok_lrg ?_) | (with_reducible refine eok_err ?_) | (with_reducible refine eok_fldE ?_) | (with_reducible refine eok_isiE ?_) | (with_reducible refine iok_seq ?_) | (with_reducible refine iok_zip ?_) | (with_reducible refine iok_enum ?_) | (with_reducible refine iok_range1 ?_) | (with_reducible refine sok_next ?_) | (with_reducible refine sok_seq ?_) | (with_reducible refine sok_set ?_) | (with_reducible refine sok_setO ?_) | (with_reducible refine sok_par ?_) | (with_reducible refine sok_to ?_) | (with_reducible refine sok_drop ?_) | (with_reducible refine sok_ret ?_) | (with_reducible refine sok_if ?_) | (refine ⟨(by show List.length _ ≤ 16777216; simp only [List.length_cons, List.length_nil]; decide), ?_⟩)))
    refine ⟨_, ltD_i, _, rfl, fun _ => ?_, fun _ => ?_⟩
    · refine ⟨_, rfl, fun _ => leaf rfl fun d h => q d h, fun h => nomatch h⟩
    · (repeat (first | (with_reducible refine eok_c ?_) | ((with_reducible refine eok_varX ?_); refine ⟨_, rfl, ?_⟩) | ((with_reducible refine eok_obsX ?_); refine ⟨_, _, rfl, ?_⟩) | (with_reducible refine eok_bin ?_) | (with_reducible refine eok_un ?_) | (with_reducible refine eok_not ?_) | (with_reducible refine eok_and ?_) | (with_reducible refine eok_or ?_) | (with_reducible refine eok_if ?_) | (with_reducible refine eok_chain ?_) | (with_reducible refine iok_nil ?_) | (with_reducible refine iok_cons ?_) | (with_reducible refine eok_tup ?_) | (with_reducible refine eok_lst ?_) | (with_reducible refine eok_call ?_) | (with_reducible refine eok_B ?_) | (with_reducible refine eok_isi ?_) | (with_reducible refine eok_int ?_) | (with_reducible refine eok_sl ?_) | (with_reducible refine eok_lrg ?_) | (with_reducible refine eok_err ?_) | (with_reducible refine eok_fldE ?_) | (with_reducible refine eok_isiE ?_) | (with_reducible refine iok_seq ?_) | (with_reducible refine iok_zip ?_) | (with_reducible refine iok_enum ?_) | (with_reducible refine iok_range1 ?_) | (with_reducible refine sok_next ?_) | (with_reducible refine sok_seq ?_) | (with_reducible refine sok_set ?_) | (with_reducible refine sok_setO ?_) | (with_reducible refine sok_par ?_) | (with_reducible refine sok_to ?_) | (with_reducible refine sok_drop ?_) | (with_reducible refine sok_ret ?_) | (with_reducible refine sok_if ?_) | (refine ⟨(by show List.length _ ≤ 16777216; simp only [List.length_cons, List.length_nil]; decide), ?_⟩)))
      refine ⟨_, eqD_int _ _, _, rfl, fun _ => leaf rfl fun d h => q d h, fun h => nomatch h⟩
  | succ n ih =>
    intro Q hn q
    refine fok_run ?_
    unfold g__law_thing
    (repeat (first | (with_reducible refine eok_c ?_) | ((with_reducible refine eok_varX ?_); refine ⟨_, rfl, ?_⟩) | ((with_reducible refine eok_obsX ?_); refine ⟨_, _, rfl, ?_⟩) | (with_reducible refine eok_bin ?_) | (with_reducible refine eok_un ?_) | (with_reducible refine eok_not ?_) | (with_reducible refine eok_and ?_) | (with_reducible refine eok_or ?_) | (with_reducible refine eok_if ?_) | (with_reducible refine eok_chain ?_) | (with_reducible refine iok_nil ?_) | (with_reducible refine iok_cons ?_) | (with_reducible refine eok_tup ?_) | (with_reducible refine eok_lst ?_) | (with_reducible refine eok_call ?_) | (with_reducible refine eok_B ?_) | (with_reducible refine eok_isi ?_) | (with_reducible refine eok_int ?_) | (with_reducible refine eok_sl ?_) | (with_reducible refine eok_lrg ?_) | (with_reducible refine eok_err ?_) | (with_reducible refine eok_fldE ?_) | (with_reducible refine eok_isiE ?_) | (with_reducible refine iok_seq ?_) | (with_reducible refine iok_zip ?_) | (with_reducible refine iok_enum ?_) | (with_reducible refine iok_range1 ?_) | (with_reducible refine sok_next ?_) | (with_reducible refine sok_seq ?_) | (with_reducible refine sok_set ?_) | (with_reducible refine sok_setO ?_) | (with_reducible refine sok_par ?_) | (with_reducible refine sok_to ?_) | (with_reducible refine sok_drop ?_) | (with_reducible refine sok_ret ?_) | (with_reducible refine sok_if ?_) | (refine ⟨(by show List.length _ ≤ 16777216; simp only [List.length_cons, List.length_nil]; decide), ?_⟩)))
    refine draw (by decide) (by decide) fun d d0 d1 => ?_
    have rest : ∀ (N : DL.Env → Prop), SOk (sSeq (sSetO 3 [] (dComp [4] (iRange1 (aCons (dCall F__law_draw (aCons (dVar 0) (aCons (dC (.int 4)) aNil))) aNil)) (gN 4) dYes (dCall (FR__law_thing (n + 1)) (aCons (dVar 0) (aCons (dBin subD (dObs 1) (dC (.int 1))) aNil))))) (sRet (dIf (dBin ltD (dObs 2) (dC (.int 5))) (dVar 3) (dB tupleD (aCons (dObs 3) aNil)))))
        [some (.pen, false), some (.int (n + 1 : Nat), false), some (.int d, false), none, none] N Q := fun N => by
      (repeat (first | (with_reducible refine eok_c ?_) | ((with_reducible refine eok_varX ?_); refine ⟨_, rfl, ?_⟩) | ((with_reducible refine eok_obsX ?_); refine ⟨_, _, rfl, ?_⟩) | (with_reducible refine eok_bin ?_) | (with_reducible refine eok_un ?_) | (with_reducible refine eok_not ?_) | (with_reducible refine eok_and ?_) | (with_reducible refine eok_or ?_) | (with_reducible refine eok_if ?_) | (with_reducible refine eok_chain ?_) | (with_reducible refine iok_nil ?_) | (with_reducible refine iok_cons ?_) | (with_reducible refine eok_tup ?_) | (with_reducible refine eok_lst ?_) | (with_reducible refine eok_call ?_) | (with_reducible refine eok_B ?_) | (with_reducible refine eok_isi ?_) | (with_reducible refine eok_int ?_) | (with_reducible refine eok_sl ?_) | (with_reducible refine eok_lrg ?_) | (with_reducible refine eok_err ?_) | (with_reducible refine eok_fldE ?_) | (with_reducible refine eok_isiE ?_) | (with_reducible refine iok_seq ?_) | (with_reducible refine iok_zip ?_) | (with_reducible refine iok_enum ?_) | (with_reducible refine iok_range1 ?_) | (with_reducible refine sok_next ?_) | (with_reducible refine sok_seq ?_) | (with_reducible refine sok_set ?_) | (with_reducible refine sok_setO ?_) | (with_reducible refine sok_par ?_) | (with_reducible refine sok_to ?_) | (with_reducible refine sok_drop ?_) | (with_reducible refine sok_ret ?_) | (with_reducible refine sok_if ?_) | (refine ⟨(by show List.length _ ≤ 16777216; simp only [List.length_cons, List.length_nil]; decide), ?_⟩)))
      refine eok_draws (TrD 3 n) ?_
      (repeat (first | (with_reducible refine eok_c ?_) | ((with_reducible refine eok_varX ?_); refine ⟨_, rfl, ?_⟩) | ((with_reducible refine eok_obsX ?_); refine ⟨_, _, rfl, ?_⟩) | (with_reducible refine eok_bin ?_) | (with_reducible refine eok_un ?_) | (with_reducible refine eok_not ?_) | (with_reducible refine eok_and ?_) | (with_reducible refine eok_or ?_) | (with_reducible refine eok_if ?_) | (with_reducible refine eok_chain ?_) | (with_reducible refine iok_nil ?_) | (with_reducible refine iok_cons ?_) | (with_reducible refine eok_tup ?_) | (with_reducible refine eok_lst ?_) | (with_reducible refine eok_call ?_) | (with_reducible refine eok_B ?_) | (with_reducible refine eok_isi ?_) | (with_reducible refine eok_int ?_) | (with_reducible refine eok_sl ?_) | (with_reducible refine eok_lrg ?_) | (with_reducible refine eok_err ?_) | (with_reducible refine eok_fldE ?_) | (with_reducible refine eok_isiE ?_) | (with_reducible refine iok_seq ?_) | (with_reducible refine iok_zip ?_) | (with_reducible refine iok_enum ?_) | (with_reducible refine iok_range1 ?_) | (with_reducible refine sok_next ?_) | (with_reducible refine sok_seq ?_) | (with_reducible refine sok_set ?_) | (with_reducible refine sok_setO ?_) | (with_reducible refine sok_par ?_) | (with_reducible refine sok_to ?_) | (with_reducible refine sok_drop ?_) | (with_reducible refine sok_ret ?_) | (with_reducible refine sok_if ?_) | (refine ⟨(by show List.length _ ≤ 16777216; simp only [List.length_cons, List.length_nil]; decide), ?_⟩)))
      refine draw (by decide) (by decide) fun k k0 k1 => ?_
      (repeat (first | (with_reducible refine eok_c ?_) | ((with_reducible refine eok_varX ?_); refine ⟨_, rfl, ?_⟩) | ((with_reducible refine eok_obsX ?_); refine ⟨_, _, rfl, ?_⟩) | (with_reducible refine eok_bin ?_) | (with_reducible refine eok_un ?_) | (with_reducible refine eok_not ?_) | (with_reducible refine eok_and ?_) | (with_reducible refine eok_or ?_) | (with_reducible refine eok_if ?_) | (with_reducible refine eok_chain ?_) | (with_reducible refine iok_nil ?_) | (with_reducible refine iok_cons ?_) | (with_reducible refine eok_tup ?_) | (with_reducible refine eok_lst ?_) | (with_reducible refine eok_call ?_) | (with_reducible refine eok_B ?_) | (with_reducible refine eok_isi ?_) | (with_reducible refine eok_int ?_) | (with_reducible refine eok_sl ?_) | (with_reducible refine eok_lrg ?_) | (with_reducible refine eok_err ?_) | (with_reducible refine eok_fldE ?_) | (with_reducible refine eok_isiE ?_) | (with_reducible refine iok_seq ?_) | (with_reducible refine iok_zip ?_) | (with_reducible refine iok_enum ?_) | (with_reducible refine iok_range1 ?_) | (with_reducible refine sok_next ?_) | (with_reducible refine sok_seq ?_) | (with_reducible refine sok_set ?_) | (with_reducible refine sok_setO ?_) | (with_reducible refine sok_par ?_) | (with_reducible refine sok_to ?_) | (with_reducible refine sok_drop ?_) | (with_reducible refine sok_ret ?_) | (with_reducible refine sok_if ?_) | (refine ⟨(by show List.length _ ≤ 16777216; simp only [List.length_cons, List.length_nil]; decide), ?_⟩)))
      have hlen : (rangeL 0 k.toNat).length = k.toNat := by unfold rangeL; simp
      refine ⟨k, rfl, ⟨by omega, by omega⟩, by rw [hlen]; omega, fun x hx => ⟨_, rfl, ?_⟩, fun ys hy hT => ?_⟩
      · (repeat (first | (with_reducible refine eok_c ?_) | ((with_reducible refine eok_varX ?_); refine ⟨_, rfl, ?_⟩) | ((with_reducible refine eok_obsX ?_); refine ⟨_, _, rfl, ?_⟩) | (with_reducible refine eok_bin ?_) | (with_reducible refine eok_un ?_) | (with_reducible refine eok_not ?_) | (with_reducible refine eok_and ?_) | (with_reducible refine eok_or ?_) | (with_reducible refine eok_if ?_) | (with_reducible refine eok_chain ?_) | (with_reducible refine iok_nil ?_) | (with_reducible refine iok_cons ?_) | (with_reducible refine eok_tup ?_) | (with_reducible refine eok_lst ?_) | (with_reducible refine eok_call ?_) | (with_reducible refine eok_B ?_) | (with_reducible refine eok_isi ?_) | (with_reducible refine eok_int ?_) | (with_reducible refine eok_sl ?_) | (with_reducible refine eok_lrg ?_) | (with_reducible refine eok_err ?_) | (with_reducible refine eok_fldE ?_) | (with_reducible refine eok_isiE ?_) | (with_reducible refine iok_seq ?_) | (with_reducible refine iok_zip ?_) | (with_reducible refine iok_enum ?_) | (with_reducible refine iok_range1 ?_) | (with_reducible refine sok_next ?_) | (with_reducible refine sok_seq ?_) | (with_reducible refine sok_set ?_) | (with_reducible refine sok_setO ?_) | (with_reducible refine sok_par ?_) | (with_reducible refine sok_to ?_) | (with_reducible refine sok_drop ?_) | (with_reducible refine sok_ret ?_) | (with_reducible refine sok_if ?_) | (refine ⟨(by show List.length _ ≤ 16777216; simp only [List.length_cons, List.length_nil]; decide), ?_⟩)))
        refine ⟨_, subD_i, ?_⟩
        rw [show ((n + 1 : Nat) : Int) - 1 = (n : Int) by omega]
        (repeat (first | (with_reducible refine eok_c ?_) | ((with_reducible refine eok_varX ?_); refine ⟨_, rfl, ?_⟩) | ((with_reducible refine eok_obsX ?_); refine ⟨_, _, rfl, ?_⟩) | (with_reducible refine eok_bin ?_) | (with_reducible refine eok_un ?_) | (with_reducible refine eok_not ?_) | (with_reducible refine eok_and ?_) | (with_reducible refine eok_or ?_) | (with_reducible refine eok_if ?_) | (with_reducible refine eok_chain ?_) | (with_reducible refine iok_nil ?_) | (with_reducible refine iok_cons ?_) | (with_reducible refine eok_tup ?_) | (with_reducible refine eok_lst ?_) | (with_reducible refine eok_call ?_) | (with_reducible refine eok_B ?_) | (with_reducible refine eok_isi ?_) | (with_reducible refine eok_int ?_) | (with_reducible refine eok_sl ?_) | (with_reducible refine eok_lrg ?_) | (with_reducible refine eok_err ?_) | (with_reducible refine eok_fldE ?_) | (with_reducible refine eok_isiE ?_) | (with_reducible refine iok_seq ?_) | (with_reducible refine iok_zip ?_) | (with_reducible refine iok_enum ?_) | (with_reducible refine iok_range1 ?_) | (with_reducible refine sok_next ?_) | (with_reducible refine sok_seq ?_) | (with_reducible refine sok_set ?_) | (with_reducible refine sok_setO ?_) | (with_reducible refine sok_par ?_) | (with_reducible refine sok_to ?_) | (with_reducible refine sok_drop ?_) | (with_reducible refine sok_ret ?_) | (with_reducible refine sok_if ?_) | (refine ⟨(by show List.length _ ≤ 16777216; simp only [List.length_cons, List.length_nil]; decide), ?_⟩)))
        exact ih (by omega) fun d h => h
      · have hl : ys.length ≤ 3 := by rw [hy, hlen]; omega
        (repeat (first | (with_reducible refine eok_c ?_) | ((with_reducible refine eok_varX ?_); refine ⟨_, rfl, ?_⟩) | ((with_reducible refine eok_obsX ?_); refine ⟨_, _, rfl, ?_⟩) | (with_reducible refine eok_bin ?_) | (with_reducible refine eok_un ?_) | (with_reducible refine eok_not ?_) | (with_reducible refine eok_and ?_) | (with_reducible refine eok_or ?_) | (with_reducible refine eok_if ?_) | (with_reducible refine eok_chain ?_) | (with_reducible refine iok_nil ?_) | (with_reducible refine iok_cons ?_) | (with_reducible refine eok_tup ?_) | (with_reducible refine eok_lst ?_) | (with_reducible refine eok_call ?_) | (with_reducible refine eok_B ?_) | (with_reducible refine eok_isi ?_) | (with_reducible refine eok_int ?_) | (with_reducible refine eok_sl ?_) | (with_reducible refine eok_lrg ?_) | (with_reducible refine eok_err ?_) | (with_reducible refine eok_fldE ?_) | (with_reducible refine eok_isiE ?_) | (with_reducible refine iok_seq ?_) | (with_reducible refine iok_zip ?_) | (with_reducible refine iok_enum ?_) | (with_reducible refine iok_range1 ?_) | (with_reducible refine sok_next ?_) | (with_reducible refine sok_seq ?_) | (with_reducible refine sok_set ?_) | (with_reducible refine sok_setO ?_) | (with_reducible refine sok_par ?_) | (with_reducible refine sok_to ?_) | (with_reducible refine sok_drop ?_) | (with_reducible refine sok_ret ?_) | (with_reducible refine sok_if ?_) | (refine ⟨(by show List.length _ ≤ 16777216; simp only [List.length_cons, List.length_nil]; decide), ?_⟩)))
        refine ⟨_, ltD_i, _, rfl, fun _ => ?_, fun _ => ?_⟩
        · (repeat (first | (with_reducible refine eok_c ?_) | ((with_reducible refine eok_varX ?_); refine ⟨_, rfl, ?_⟩) | ((with_reducible refine eok_obsX ?_); refine ⟨_, _, rfl, ?_⟩) | (with_reducible refine eok_bin ?_) | (with_reducible refine eok_un ?_) | (with_reducible refine eok_not ?_) | (with_reducible refine eok_and ?_) | (with_reducible refine eok_or ?_) | (with_reducible refine eok_if ?_) | (with_reducible refine eok_chain ?_) | (with_reducible refine iok_nil ?_) | (with_reducible refine iok_cons ?_) | (with_reducible refine eok_tup ?_) | (with_reducible refine eok_lst ?_) | (with_reducible refine eok_call ?_) | (with_reducible refine eok_B ?_) | (with_reducible refine eok_isi ?_) | (with_reducible refine eok_int ?_) | (with_reducible refine eok_sl ?_) | (with_reducible refine eok_lrg ?_) | (with_reducible refine eok_err ?_) | (with_reducible refine eok_fldE ?_) | (with_reducible refine eok_isiE ?_) | (with_reducible refine iok_seq ?_) | (with_reducible refine iok_zip ?_) | (with_reducible refine iok_enum ?_) | (with_reducible refine iok_range1 ?_) | (with_reducible refine sok_next ?_) | (with_reducible refine sok_seq ?_) | (with_reducible refine sok_set ?_) | (with_reducible refine sok_setO ?_) | (with_reducible refine sok_par ?_) | (with_reducible refine sok_to ?_) | (with_reducible refine sok_drop ?_) | (with_reducible refine sok_ret ?_) | (with_reducible refine sok_if ?_) | (refine ⟨(by show List.length _ ≤ 16777216; simp only [List.length_cons, List.length_nil]; decide), ?_⟩)))
          exact q _ (.lst hl hT)
        · (repeat (first | (with_reducible refine eok_c ?_) | ((with_reducible refine eok_varX ?_); refine ⟨_, rfl, ?_⟩) | ((with_reducible refine eok_obsX ?_); refine ⟨_, _, rfl, ?_⟩) | (with_reducible refine eok_bin ?_) | (with_reducible refine eok_un ?_) | (with_reducible refine eok_not ?_) | (with_reducible refine eok_and ?_) | (with_reducible refine eok_or ?_) | (with_reducible refine eok_if ?_) | (with_reducible refine eok_chain ?_) | (with_reducible refine iok_nil ?_) | (with_reducible refine iok_cons ?_) | (with_reducible refine eok_tup ?_) | (with_reducible refine eok_lst ?_) | (with_reducible refine eok_call ?_) | (with_reducible refine eok_B ?_) | (with_reducible refine eok_isi ?_) | (with_reducible refine eok_int ?_) | (with_reducible refine eok_sl ?_) | (with_reducible refine eok_lrg ?_) | (with_reducible refine eok_err ?_) | (with_reducible refine eok_fldE ?_) | (with_reducible refine eok_isiE ?_) | (with_reducible refine iok_seq ?_) | (with_reducible refine iok_zip ?_) | (with_reducible refine iok_enum ?_) | (with_reducible refine iok_range1 ?_) | (with_reducible refine sok_next ?_) | (with_reducible refine sok_seq ?_) | (with_reducible refine sok_set ?_) | (with_reducible refine sok_setO ?_) | (with_reducible refine sok_par ?_) | (with_reducible refine sok_to ?_) | (with_reducible refine sok_drop ?_) | (with_reducible refine sok_ret ?_) | (with_reducible refine sok_if ?_) | (refine ⟨(by show List.length _ ≤ 16777216; simp only [List.length_cons, List.length_nil]; decide), ?_⟩)))
          exact ⟨_, rfl, q _ (.tup hl hT)⟩
    (repeat (first | (with_reducible refine eok_c ?_) | ((with_reducible refine eok_varX ?_); refine ⟨_, rfl, ?_⟩) | ((with_reducible refine eok_obsX ?_); refine ⟨_, _, rfl, ?_⟩) | (with_reducible refine eok_bin ?_) | (with_reducible refine eok_un ?_) | (with_reducible refine eok_not ?_) | (with_reducible refine eok_and ?_) | (with_reducible refine eok_or ?_) | (with_reducible refine eok_if ?_) | (with_reducible refine eok_chain ?_) | (with_reducible refine iok_nil ?_) | (with_reducible refine iok_cons ?_) | (with_reducible refine eok_tup ?_) | (with_reducible refine eok_lst ?_) | (with_reducible refine eok_call ?_) | (with_reducible refine eok_B ?_) | (with_reducible refine eok_isi ?_) | (with_reducible refine eok_int ?_) | (with_reducible refine eok_sl ?_) | (with_reducible refine eok_lrg ?_) | (with_reducible refine eok_err ?_) | (with_reducible refine eok_fldE ?_) | (with_reducible refine eok_isiE ?_) | (with_reducible refine iok_seq ?_) | (with_reducible refine iok_zip ?_) | (with_reducible refine iok_enum ?_) | (with_reducible refine iok_range1 ?_) | (with_reducible refine sok_next ?_) | (with_reducible refine sok_seq ?_) | (with_reducible refine sok_set ?_) | (with_reducible refine sok_setO ?_) | (with_reducible refine sok_par ?_) | (with_reducible refine sok_to ?_) | (with_reducible refine sok_drop ?_) | (with_reducible refine sok_ret ?_) | (with_reducible refine sok_if ?_) | (refine ⟨(by show List.length _ ≤ 16777216; simp only [List.length_cons, List.length_nil]; decide), ?_⟩)))
    refine ⟨_, ltD_i, _, rfl, fun _ => ?_, fun _ => ?_⟩
    · refine ⟨_, rfl, fun _ => leaf rfl fun d h => q d h, fun h => nomatch h⟩
    · (repeat (first | (with_reducible refine eok_c ?_) | ((with_reducible refine eok_varX ?_); refine ⟨_, rfl, ?_⟩) | ((with_reducible refine eok_obsX ?_); refine ⟨_, _, rfl, ?_⟩) | (with_reducible refine eok_bin ?_) | (with_reducible refine eok_un ?_) | (with_reducible refine eok_not ?_) | (with_reducible refine eok_and ?_) | (with_reducible refine eok_or ?_) | (with_reducible refine eok_if ?_) | (with_reducible refine eok_chain ?_) | (with_reducible refine iok_nil ?_) | (with_reducible refine iok_cons ?_) | (with_reducible refine eok_tup ?_) | (with_reducible refine eok_lst ?_) | (with_reducible refine eok_call ?_) | (with_reducible refine eok_B ?_) | (with_reducible refine eok_isi ?_) | (with_reducible refine eok_int ?_) | (with_reducible refine eok_sl ?_) | (with_reducible refine eok_lrg ?_) | (with_reducible refine eok_err ?_) | (with_reducible refine eok_fldE ?_) | (with_reducible refine eok_isiE ?_) | (with_reducible refine iok_seq ?_) | (with_reducible refine iok_zip ?_) | (with_reducible refine iok_enum ?_) | (with_reducible refine iok_range1 ?_) | (with_reducible refine sok_next ?_) | (with_reducible refine sok_seq ?_) | (with_reducible refine sok_set ?_) | (with_reducible refine sok_setO ?_) | (with_reducible refine sok_par ?_) | (with_reducible refine sok_to ?_) | (with_reducible refine sok_drop ?_) | (with_reducible refine sok_ret ?_) | (with_reducible refine sok_if ?_) | (refine ⟨(by show List.length _ ≤ 16777216; simp only [List.length_cons, List.length_nil]; decide), ?_⟩)))
      refine ⟨_, eqD_int _ _, _, rfl, fun _ => leaf rfl fun d h => q d h, fun _ => ?_⟩
      refine sok_next ?_
      exact rest _
end L_k12

set_option Elab.async false
set_option linter.all false
set_option maxRecDepth 100000
set_option maxHeartbeats 1000000
namespace L_k12
open PySem PySem.SeqAt PySem.Spec PyProof.Rows L2 DL
mutual
/-- lists as tuples, at every depth -/
def fz : D → D
  | .lst l => .tup (fzs l)
  | .tup l => .tup (fzs l)
  | d => d
def fzs : List D → List D
  | [] => []
  | d :: l => fz d :: fzs l
end
theorem fzs_map : ∀ l : List D, fzs l = l.map fz
  | [] => rfl
  | d :: l => by rw [fzs, fzs_map l]; rfl
theorem fz_lst (l : List D) : fz (.lst l) = .tup (l.map fz) := by rw [fz, fzs_map]
theorem fz_tup (l : List D) : fz (.tup l) = .tup (l.map fz) := by rw [fz, fzs_map]
theorem trd_up {L n : Nat} {d : D} (h : TrD L n d) : ∀ {m : Nat}, n ≤ m → TrD L m d := by
  induction h with
  | non => exact fun _ => .non
  | bl b => exact fun _ => .bl b
  | int i => exact fun _ => .int i
  | str x => exact fun _ => .str x
  | tup hl _ ih =>
    intro m hm
    obtain ⟨k, rfl⟩ : ∃ k, m = k + 1 := ⟨m - 1, by omega⟩
    exact .tup hl fun d hd => ih d hd (by omega)
  | lst hl _ ih =>
    intro m hm
    obtain ⟨k, rfl⟩ : ∃ k, m = k + 1 := ⟨m - 1, by omega⟩
    exact .lst hl fun d hd => ih d hd (by omega)
theorem fz_trd {L n : Nat} {d : D} (h : TrD L n d) : TrD L n (fz d) := by
  induction h with
  | non => exact .non
  | bl b => exact .bl b
  | int i => exact .int i
  | str x => exact .str x
  | tup hl _ ih =>
    rw [fz_tup]
    refine .tup (by simpa using hl) fun d hd => ?_
    obtain ⟨e, he, rfl⟩ := List.mem_map.mp hd
    exact ih e he
  | lst hl _ ih =>
    rw [fz_lst]
    refine .tup (by simpa using hl) fun d hd => ?_
    obtain ⟨e, he, rfl⟩ := List.mem_map.mp hd
    exact ih e he
theorem fz_fl {L n : Nat} {d : D} (h : TrD L n d) : Fl (fz d) := by
  induction h with
  | non => exact .non
  | bl b => exact .bl b
  | int i => exact .int i
  | str x => exact .str x
  | tup hl _ ih =>
    rw [fz_tup]
    refine .tup fun d hd => ?_
    obtain ⟨e, he, rfl⟩ := List.mem_map.mp hd
    exact ih e he
  | lst hl _ ih =>
    rw [fz_lst]
    refine .tup fun d hd => ?_
    obtain ⟨e, he, rfl⟩ := List.mem_map.mp hd
    exact ih e he
theorem fz_id {d : D} (h : Fl d) : fz d = d := by
  induction h with
  | non => rfl
  | bl b => rfl
  | int i => rfl
  | str x => rfl
  | @tup l _ ih =>
    rw [fz_tup]
    congr 1
    exact (List.map_congr_left fun d hd => ih d hd).trans (List.map_id' l)
/-- what is a list or a tuple -/
def rows? : D → Option (List D)
  | .lst l => some l
  | .tup l => some l
  | _ => none
theorem ff {p : Prop} (h : (!true) = true) : p := absurd h Bool.false_ne_true
theorem ft {p : Prop} (h : (!false) = false) : p := absurd h.symm Bool.false_ne_true
theorem tf {p : Prop} (h : true = false) : p := absurd h.symm Bool.false_ne_true
theorem frozen {L : Nat} (hL : L ≤ 1000) : ∀ (m n : Nat) {d : D} {Q : D → Prop}, n < m → TrD L n d → Q (fz d) → FOk (FR__law_frozen m) [d] Q := by
  intro m
  induction m with
  | zero => intro n d Q hn; omega
  | succ m ih =>
    intro n d Q hn h q
    have atom : (d.ty?.bind (isiB ["list"])).map D.bl = some (.bl false) → (d.ty?.bind (isiB ["tuple"])).map D.bl = some (.bl false) → fz d = d → FOk (FR__law_frozen (m + 1)) [d] Q := fun b1 b2 e => by
      refine fok_run ?_
      unfold g__law_frozen
      (repeat (first | (with_reducible refine eok_c ?_) | ((with_reducible refine eok_varX ?_); refine ⟨_, rfl, ?_⟩) | ((with_reducible refine eok_obsX ?_); refine ⟨_, _, rfl, ?_⟩) | (with_reducible refine eok_bin ?_) | (with_reducible refine eok_un ?_) | (with_reducible refine eok_not ?_) | (with_reducible refine eok_and ?_) | (with_reducible refine eok_or ?_) | (with_reducible refine eok_if ?_) | (with_reducible refine eok_chain ?_) | (with_reducible refine iok_nil ?_) | (with_reducible refine iok_cons ?_) | (with_reducible refine eok_tup ?_) | (with_reducible refine eok_lst ?_) | (with_reducible refine eok_call ?_) | (with_reducible refine eok_B ?_) | (with_reducible refine eok_isi ?_) | (with_reducible refine eok_int ?_) | (with_reducible refine eok_sl ?_) | (with_reducible refine eok_lrg ?_) | (with_reducible refine eok_err ?_) | (with_reducible refine eok_fldE ?_) | (with_reducible refine eok_isiE ?_) | (with_reducible refine iok_seq ?_) | (with_reducible refine iok_zip ?_) | (with_reducible refine iok_enum ?_) | (with_reducible refine iok_range1 ?_) | (with_reducible refine sok_next ?_) | (with_reducible refine sok_seq ?_) | (with_reducible refine sok_set ?_) | (with_reducible refine sok_setO ?_) | (with_reducible refine sok_par ?_) | (with_reducible refine sok_to ?_) | (with_reducible refine sok_drop ?_) | (with_reducible refine sok_ret ?_) | (with_reducible refine sok_if ?_) | (refine ⟨(by show List.length _ ≤ 16777216; simp only [List.length_cons, List.length_nil]; decide), ?_⟩)))
      refine ⟨_, b1, _, rfl, _, rfl, fun _ => ?_, ft⟩
      (repeat (first | (with_reducible refine eok_c ?_) | ((with_reducible refine eok_varX ?_); refine ⟨_, rfl, ?_⟩) | ((with_reducible refine eok_obsX ?_); refine ⟨_, _, rfl, ?_⟩) | (with_reducible refine eok_bin ?_) | (with_reducible refine eok_un ?_) | (with_reducible refine eok_not ?_) | (with_reducible refine eok_and ?_) | (with_reducible refine eok_or ?_) | (with_reducible refine eok_if ?_) | (with_reducible refine eok_chain ?_) | (with_reducible refine iok_nil ?_) | (with_reducible refine iok_cons ?_) | (with_reducible refine eok_tup ?_) | (with_reducible refine eok_lst ?_) | (with_reducible refine eok_call ?_) | (with_reducible refine eok_B ?_) | (with_reducible refine eok_isi ?_) | (with_reducible refine eok_int ?_) | (with_reducible refine eok_sl ?_) | (with_reducible refine eok_lrg ?_) | (with_reducible refine eok_err ?_) | (with_reducible refine eok_fldE ?_) | (with_reducible refine eok_isiE ?_) | (with_reducible refine iok_seq ?_) | (with_reducible refine iok_zip ?_) | (with_reducible refine iok_enum ?_) | (with_reducible refine iok_range1 ?_) | (with_reducible refine sok_next ?_) | (with_reducible refine sok_seq ?_) | (with_reducible refine sok_set ?_) | (with_reducible refine sok_setO ?_) | (with_reducible refine sok_par ?_) | (with_reducible refine sok_to ?_) | (with_reducible refine sok_drop ?_) | (with_reducible refine sok_ret ?_) | (with_reducible refine sok_if ?_) | (refine ⟨(by show List.length _ ≤ 16777216; simp only [List.length_cons, List.length_nil]; decide), ?_⟩)))
      refine ⟨_, b2, _, rfl, _, rfl, fun _ => ?_, ft⟩
      (repeat (first | (with_reducible refine eok_c ?_) | ((with_reducible refine eok_varX ?_); refine ⟨_, rfl, ?_⟩) | ((with_reducible refine eok_obsX ?_); refine ⟨_, _, rfl, ?_⟩) | (with_reducible refine eok_bin ?_) | (with_reducible refine eok_un ?_) | (with_reducible refine eok_not ?_) | (with_reducible refine eok_and ?_) | (with_reducible refine eok_or ?_) | (with_reducible refine eok_if ?_) | (with_reducible refine eok_chain ?_) | (with_reducible refine iok_nil ?_) | (with_reducible refine iok_cons ?_) | (with_reducible refine eok_tup ?_) | (with_reducible refine eok_lst ?_) | (with_reducible refine eok_call ?_) | (with_reducible refine eok_B ?_) | (with_reducible refine eok_isi ?_) | (with_reducible refine eok_int ?_) | (with_reducible refine eok_sl ?_) | (with_reducible refine eok_lrg ?_) | (with_reducible refine eok_err ?_) | (with_reducible refine eok_fldE ?_) | (with_reducible refine eok_isiE ?_) | (with_reducible refine iok_seq ?_) | (with_reducible refine iok_zip ?_) | (with_reducible refine iok_enum ?_) | (with_reducible refine iok_range1 ?_) | (with_reducible refine sok_next ?_) | (with_reducible refine sok_seq ?_) | (with_reducible refine sok_set ?_) | (with_reducible refine sok_setO ?_) | (with_reducible refine sok_par ?_) | (with_reducible refine sok_to ?_) | (with_reducible refine sok_drop ?_) | (with_reducible refine sok_ret ?_) | (with_reducible refine sok_if ?_) | (refine ⟨(by show List.length _ ≤ 16777216; simp only [List.length_cons, List.length_nil]; decide), ?_⟩)))
      rw [← e]; exact q
    have row : ∀ (l : List D) (n : Nat), n < m → l.length ≤ L → (∀ x ∈ l, TrD L n x) → itemsD d = some l → Q (.tup (l.map fz)) → SOk (sRet (dB tupleD (aCons (dComp [1] (iSeq (dObs 0)) (gN 1) dYes (dCall (FR__law_frozen m) (aCons (dVar 1) aNil))) aNil))) [some (d, false), none] (fun _ => Q .non) Q := fun l n hn hl hd e q => by
      (repeat (first | (with_reducible refine eok_c ?_) | ((with_reducible refine eok_varX ?_); refine ⟨_, rfl, ?_⟩) | ((with_reducible refine eok_obsX ?_); refine ⟨_, _, rfl, ?_⟩) | (with_reducible refine eok_bin ?_) | (with_reducible refine eok_un ?_) | (with_reducible refine eok_not ?_) | (with_reducible refine eok_and ?_) | (with_reducible refine eok_or ?_) | (with_reducible refine eok_if ?_) | (with_reducible refine eok_chain ?_) | (with_reducible refine iok_nil ?_) | (with_reducible refine iok_cons ?_) | (with_reducible refine eok_tup ?_) | (with_reducible refine eok_lst ?_) | (with_reducible refine eok_call ?_) | (with_reducible refine eok_B ?_) | (with_reducible refine eok_isi ?_) | (with_reducible refine eok_int ?_) | (with_reducible refine eok_sl ?_) | (with_reducible refine eok_lrg ?_) | (with_reducible refine eok_err ?_) | (with_reducible refine eok_fldE ?_) | (with_reducible refine eok_isiE ?_) | (with_reducible refine iok_seq ?_) | (with_reducible refine iok_zip ?_) | (with_reducible refine iok_enum ?_) | (with_reducible refine iok_range1 ?_) | (with_reducible refine sok_next ?_) | (with_reducible refine sok_seq ?_) | (with_reducible refine sok_set ?_) | (with_reducible refine sok_setO ?_) | (with_reducible refine sok_par ?_) | (with_reducible refine sok_to ?_) | (with_reducible refine sok_drop ?_) | (with_reducible refine sok_ret ?_) | (with_reducible refine sok_if ?_) | (refine ⟨(by show List.length _ ≤ 16777216; simp only [List.length_cons, List.length_nil]; decide), ?_⟩)))
      refine eok_map fz ?_
      (repeat (first | (with_reducible refine eok_c ?_) | ((with_reducible refine eok_varX ?_); refine ⟨_, rfl, ?_⟩) | ((with_reducible refine eok_obsX ?_); refine ⟨_, _, rfl, ?_⟩) | (with_reducible refine eok_bin ?_) | (with_reducible refine eok_un ?_) | (with_reducible refine eok_not ?_) | (with_reducible refine eok_and ?_) | (with_reducible refine eok_or ?_) | (with_reducible refine eok_if ?_) | (with_reducible refine eok_chain ?_) | (with_reducible refine iok_nil ?_) | (with_reducible refine iok_cons ?_) | (with_reducible refine eok_tup ?_) | (with_reducible refine eok_lst ?_) | (with_reducible refine eok_call ?_) | (with_reducible refine eok_B ?_) | (with_reducible refine eok_isi ?_) | (with_reducible refine eok_int ?_) | (with_reducible refine eok_sl ?_) | (with_reducible refine eok_lrg ?_) | (with_reducible refine eok_err ?_) | (with_reducible refine eok_fldE ?_) | (with_reducible refine eok_isiE ?_) | (with_reducible refine iok_seq ?_) | (with_reducible refine iok_zip ?_) | (with_reducible refine iok_enum ?_) | (with_reducible refine iok_range1 ?_) | (with_reducible refine sok_next ?_) | (with_reducible refine sok_seq ?_) | (with_reducible refine sok_set ?_) | (with_reducible refine sok_setO ?_) | (with_reducible refine sok_par ?_) | (with_reducible refine sok_to ?_) | (with_reducible refine sok_drop ?_) | (with_reducible refine sok_ret ?_) | (with_reducible refine sok_if ?_) | (refine ⟨(by show List.length _ ≤ 16777216; simp only [List.length_cons, List.length_nil]; decide), ?_⟩)))
      refine ⟨l, e, by omega, fun x hx => ⟨_, rfl, ?_⟩, ?_⟩
      · (repeat (first | (with_reducible refine eok_c ?_) | ((with_reducible refine eok_varX ?_); refine ⟨_, rfl, ?_⟩) | ((with_reducible refine eok_obsX ?_); refine ⟨_, _, rfl, ?_⟩) | (with_reducible refine eok_bin ?_) | (with_reducible refine eok_un ?_) | (with_reducible refine eok_not ?_) | (with_reducible refine eok_and ?_) | (with_reducible refine eok_or ?_) | (with_reducible refine eok_if ?_) | (with_reducible refine eok_chain ?_) | (with_reducible refine iok_nil ?_) | (with_reducible refine iok_cons ?_) | (with_reducible refine eok_tup ?_) | (with_reducible refine eok_lst ?_) | (with_reducible refine eok_call ?_) | (with_reducible refine eok_B ?_) | (with_reducible refine eok_isi ?_) | (with_reducible refine eok_int ?_) | (with_reducible refine eok_sl ?_) | (with_reducible refine eok_lrg ?_) | (with_reducible refine eok_err ?_) | (with_reducible refine eok_fldE ?_) | (with_reducible refine eok_isiE ?_) | (with_reducible refine iok_seq ?_) | (with_reducible refine iok_zip ?_) | (with_reducible refine iok_enum ?_) | (with_reducible refine iok_range1 ?_) | (with_reducible refine sok_next ?_) | (with_reducible refine sok_seq ?_) | (with_reducible refine sok_set ?_) | (with_reducible refine sok_setO ?_) | (with_reducible refine sok_par ?_) | (with_reducible refine sok_to ?_) | (with_reducible refine sok_drop ?_) | (with_reducible refine sok_ret ?_) | (with_reducible refine sok_if ?_) | (refine ⟨(by show List.length _ ≤ 16777216; simp only [List.length_cons, List.length_nil]; decide), ?_⟩)))
        exact ih n hn (hd x hx) rfl
      · (repeat (first | (with_reducible refine eok_c ?_) | ((with_reducible refine eok_varX ?_); refine ⟨_, rfl, ?_⟩) | ((with_reducible refine eok_obsX ?_); refine ⟨_, _, rfl, ?_⟩) | (with_reducible refine eok_bin ?_) | (with_reducible refine eok_un ?_) | (with_reducible refine eok_not ?_) | (with_reducible refine eok_and ?_) | (with_reducible refine eok_or ?_) | (with_reducible refine eok_if ?_) | (with_reducible refine eok_chain ?_) | (with_reducible refine iok_nil ?_) | (with_reducible refine iok_cons ?_) | (with_reducible refine eok_tup ?_) | (with_reducible refine eok_lst ?_) | (with_reducible refine eok_call ?_) | (with_reducible refine eok_B ?_) | (with_reducible refine eok_isi ?_) | (with_reducible refine eok_int ?_) | (with_reducible refine eok_sl ?_) | (with_reducible refine eok_lrg ?_) | (with_reducible refine eok_err ?_) | (with_reducible refine eok_fldE ?_) | (with_reducible refine eok_isiE ?_) | (with_reducible refine iok_seq ?_) | (with_reducible refine iok_zip ?_) | (with_reducible refine iok_enum ?_) | (with_reducible refine iok_range1 ?_) | (with_reducible refine sok_next ?_) | (with_reducible refine sok_seq ?_) | (with_reducible refine sok_set ?_) | (with_reducible refine sok_setO ?_) | (with_reducible refine sok_par ?_) | (with_reducible refine sok_to ?_) | (with_reducible refine sok_drop ?_) | (with_reducible refine sok_ret ?_) | (with_reducible refine sok_if ?_) | (refine ⟨(by show List.length _ ≤ 16777216; simp only [List.length_cons, List.length_nil]; decide), ?_⟩)))
        exact ⟨_, rfl, q⟩
    cases h with
    | non => exact atom rfl rfl rfl
    | bl b => exact atom rfl rfl rfl
    | int i => exact atom rfl rfl rfl
    | str x => exact atom rfl rfl rfl
    | @tup n l hl hd =>
      refine fok_run ?_
      unfold g__law_frozen
      (repeat (first | (with_reducible refine eok_c ?_) | ((with_reducible refine eok_varX ?_); refine ⟨_, rfl, ?_⟩) | ((with_reducible refine eok_obsX ?_); refine ⟨_, _, rfl, ?_⟩) | (with_reducible refine eok_bin ?_) | (with_reducible refine eok_un ?_) | (with_reducible refine eok_not ?_) | (with_reducible refine eok_and ?_) | (with_reducible refine eok_or ?_) | (with_reducible refine eok_if ?_) | (with_reducible refine eok_chain ?_) | (with_reducible refine iok_nil ?_) | (with_reducible refine iok_cons ?_) | (with_reducible refine eok_tup ?_) | (with_reducible refine eok_lst ?_) | (with_reducible refine eok_call ?_) | (with_reducible refine eok_B ?_) | (with_reducible refine eok_isi ?_) | (with_reducible refine eok_int ?_) | (with_reducible refine eok_sl ?_) | (with_reducible refine eok_lrg ?_) | (with_reducible refine eok_err ?_) | (with_reducible refine eok_fldE ?_) | (with_reducible refine eok_isiE ?_) | (with_reducible refine iok_seq ?_) | (with_reducible refine iok_zip ?_) | (with_reducible refine iok_enum ?_) | (with_reducible refine iok_range1 ?_) | (with_reducible refine sok_next ?_) | (with_reducible refine sok_seq ?_) | (with_reducible refine sok_set ?_) | (with_reducible refine sok_setO ?_) | (with_reducible refine sok_par ?_) | (with_reducible refine sok_to ?_) | (with_reducible refine sok_drop ?_) | (with_reducible refine sok_ret ?_) | (with_reducible refine sok_if ?_) | (refine ⟨(by show List.length _ ≤ 16777216; simp only [List.length_cons, List.length_nil]; decide), ?_⟩)))
      refine ⟨_, rfl, _, rfl, _, rfl, fun _ => ?_, ft⟩
      (repeat (first | (with_reducible refine eok_c ?_) | ((with_reducible refine eok_varX ?_); refine ⟨_, rfl, ?_⟩) | ((with_reducible refine eok_obsX ?_); refine ⟨_, _, rfl, ?_⟩) | (with_reducible refine eok_bin ?_) | (with_reducible refine eok_un ?_) | (with_reducible refine eok_not ?_) | (with_reducible refine eok_and ?_) | (with_reducible refine eok_or ?_) | (with_reducible refine eok_if ?_) | (with_reducible refine eok_chain ?_) | (with_reducible refine iok_nil ?_) | (with_reducible refine iok_cons ?_) | (with_reducible refine eok_tup ?_) | (with_reducible refine eok_lst ?_) | (with_reducible refine eok_call ?_) | (with_reducible refine eok_B ?_) | (with_reducible refine eok_isi ?_) | (with_reducible refine eok_int ?_) | (with_reducible refine eok_sl ?_) | (with_reducible refine eok_lrg ?_) | (with_reducible refine eok_err ?_) | (with_reducible refine eok_fldE ?_) | (with_reducible refine eok_isiE ?_) | (with_reducible refine iok_seq ?_) | (with_reducible refine iok_zip ?_) | (with_reducible refine iok_enum ?_) | (with_reducible refine iok_range1 ?_) | (with_reducible refine sok_next ?_) | (with_reducible refine sok_seq ?_) | (with_reducible refine sok_set ?_) | (with_reducible refine sok_setO ?_) | (with_reducible refine sok_par ?_) | (with_reducible refine sok_to ?_) | (with_reducible refine sok_drop ?_) | (with_reducible refine sok_ret ?_) | (with_reducible refine sok_if ?_) | (refine ⟨(by show List.length _ ≤ 16777216; simp only [List.length_cons, List.length_nil]; decide), ?_⟩)))
      refine ⟨_, rfl, _, rfl, _, rfl, ff, fun _ => ?_⟩
      refine sok_next ?_
      exact row l n (by omega) hl hd rfl (by rw [fz_tup] at q; exact q)
    | @lst n l hl hd =>
      refine fok_run ?_
      unfold g__law_frozen
      (repeat (first | (with_reducible refine eok_c ?_) | ((with_reducible refine eok_varX ?_); refine ⟨_, rfl, ?_⟩) | ((with_reducible refine eok_obsX ?_); refine ⟨_, _, rfl, ?_⟩) | (with_reducible refine eok_bin ?_) | (with_reducible refine eok_un ?_) | (with_reducible refine eok_not ?_) | (with_reducible refine eok_and ?_) | (with_reducible refine eok_or ?_) | (with_reducible refine eok_if ?_) | (with_reducible refine eok_chain ?_) | (with_reducible refine iok_nil ?_) | (with_reducible refine iok_cons ?_) | (with_reducible refine eok_tup ?_) | (with_reducible refine eok_lst ?_) | (with_reducible refine eok_call ?_) | (with_reducible refine eok_B ?_) | (with_reducible refine eok_isi ?_) | (with_reducible refine eok_int ?_) | (with_reducible refine eok_sl ?_) | (with_reducible refine eok_lrg ?_) | (with_reducible refine eok_err ?_) | (with_reducible refine eok_fldE ?_) | (with_reducible refine eok_isiE ?_) | (with_reducible refine iok_seq ?_) | (with_reducible refine iok_zip ?_) | (with_reducible refine iok_enum ?_) | (with_reducible refine iok_range1 ?_) | (with_reducible refine sok_next ?_) | (with_reducible refine sok_seq ?_) | (with_reducible refine sok_set ?_) | (with_reducible refine sok_setO ?_) | (with_reducible refine sok_par ?_) | (with_reducible refine sok_to ?_) | (with_reducible refine sok_drop ?_) | (with_reducible refine sok_ret ?_) | (with_reducible refine sok_if ?_) | (refine ⟨(by show List.length _ ≤ 16777216; simp only [List.length_cons, List.length_nil]; decide), ?_⟩)))
      refine ⟨_, rfl, _, rfl, _, rfl, ff, fun _ => ⟨_, rfl, fun h => (nomatch h), fun _ => ?_⟩⟩
      refine sok_next ?_
      exact row l n (by omega) hl hd rfl (by rw [fz_lst] at q; exact q)
theorem as_tuples_R {L : Nat} (hL : L ≤ 1000) : ∀ (m n : Nat) {d : D} {Q : D → Prop}, n < m → TrD L n d → Q (fz d) → FOk (FR_as_tuples m) [d] Q := by
  intro m
  induction m with
  | zero => intro n d Q hn; omega
  | succ m ih =>
    intro n d Q hn h q
    have isrow : ∀ {T : D → Prop} (b : Bool), (d.ty?.bind (isiB ["tuple", "list"])).map D.bl = some (.bl b) → T (.bl b) → FOk F_is_row [d] T := fun b e t => by
      refine fok_run ?_
      unfold g_is_row
      (repeat (first | (with_reducible refine eok_c ?_) | ((with_reducible refine eok_varX ?_); refine ⟨_, rfl, ?_⟩) | ((with_reducible refine eok_obsX ?_); refine ⟨_, _, rfl, ?_⟩) | (with_reducible refine eok_bin ?_) | (with_reducible refine eok_un ?_) | (with_reducible refine eok_not ?_) | (with_reducible refine eok_and ?_) | (with_reducible refine eok_or ?_) | (with_reducible refine eok_if ?_) | (with_reducible refine eok_chain ?_) | (with_reducible refine iok_nil ?_) | (with_reducible refine iok_cons ?_) | (with_reducible refine eok_tup ?_) | (with_reducible refine eok_lst ?_) | (with_reducible refine eok_call ?_) | (with_reducible refine eok_B ?_) | (with_reducible refine eok_isi ?_) | (with_reducible refine eok_int ?_) | (with_reducible refine eok_sl ?_) | (with_reducible refine eok_lrg ?_) | (with_reducible refine eok_err ?_) | (with_reducible refine eok_fldE ?_) | (with_reducible refine eok_isiE ?_) | (with_reducible refine iok_seq ?_) | (with_reducible refine iok_zip ?_) | (with_reducible refine iok_enum ?_) | (with_reducible refine iok_range1 ?_) | (with_reducible refine sok_next ?_) | (with_reducible refine sok_seq ?_) | (with_reducible refine sok_set ?_) | (with_reducible refine sok_setO ?_) | (with_reducible refine sok_par ?_) | (with_reducible refine sok_to ?_) | (with_reducible refine sok_drop ?_) | (with_reducible refine sok_ret ?_) | (with_reducible refine sok_if ?_) | (refine ⟨(by show List.length _ ≤ 16777216; simp only [List.length_cons, List.length_nil]; decide), ?_⟩)))
      exact ⟨_, e, t⟩
    have atom : (d.ty?.bind (isiB ["tuple", "list"])).map D.bl = some (.bl false) → fz d = d → FOk (FR_as_tuples (m + 1)) [d] Q := fun b1 e => by
      refine fok_run ?_
      unfold g_as_tuples
      (repeat (first | (with_reducible refine eok_c ?_) | ((with_reducible refine eok_varX ?_); refine ⟨_, rfl, ?_⟩) | ((with_reducible refine eok_obsX ?_); refine ⟨_, _, rfl, ?_⟩) | (with_reducible refine eok_bin ?_) | (with_reducible refine eok_un ?_) | (with_reducible refine eok_not ?_) | (with_reducible refine eok_and ?_) | (with_reducible refine eok_or ?_) | (with_reducible refine eok_if ?_) | (with_reducible refine eok_chain ?_) | (with_reducible refine iok_nil ?_) | (with_reducible refine iok_cons ?_) | (with_reducible refine eok_tup ?_) | (with_reducible refine eok_lst ?_) | (with_reducible refine eok_call ?_) | (with_reducible refine eok_B ?_) | (with_reducible refine eok_isi ?_) | (with_reducible refine eok_int ?_) | (with_reducible refine eok_sl ?_) | (with_reducible refine eok_lrg ?_) | (with_reducible refine eok_err ?_) | (with_reducible refine eok_fldE ?_) | (with_reducible refine eok_isiE ?_) | (with_reducible refine iok_seq ?_) | (with_reducible refine iok_zip ?_) | (with_reducible refine iok_enum ?_) | (with_reducible refine iok_range1 ?_) | (with_reducible refine sok_next ?_) | (with_reducible refine sok_seq ?_) | (with_reducible refine sok_set ?_) | (with_reducible refine sok_setO ?_) | (with_reducible refine sok_par ?_) | (with_reducible refine sok_to ?_) | (with_reducible refine sok_drop ?_) | (with_reducible refine sok_ret ?_) | (with_reducible refine sok_if ?_) | (refine ⟨(by show List.length _ ≤ 16777216; simp only [List.length_cons, List.length_nil]; decide), ?_⟩)))
      refine isrow false b1 ⟨_, rfl, _, rfl, fun _ => ?_, ft⟩
      (repeat (first | (with_reducible refine eok_c ?_) | ((with_reducible refine eok_varX ?_); refine ⟨_, rfl, ?_⟩) | ((with_reducible refine eok_obsX ?_); refine ⟨_, _, rfl, ?_⟩) | (with_reducible refine eok_bin ?_) | (with_reducible refine eok_un ?_) | (with_reducible refine eok_not ?_) | (with_reducible refine eok_and ?_) | (with_reducible refine eok_or ?_) | (with_reducible refine eok_if ?_) | (with_reducible refine eok_chain ?_) | (with_reducible refine iok_nil ?_) | (with_reducible refine iok_cons ?_) | (with_reducible refine eok_tup ?_) | (with_reducible refine eok_lst ?_) | (with_reducible refine eok_call ?_) | (with_reducible refine eok_B ?_) | (with_reducible refine eok_isi ?_) | (with_reducible refine eok_int ?_) | (with_reducible refine eok_sl ?_) | (with_reducible refine eok_lrg ?_) | (with_reducible refine eok_err ?_) | (with_reducible refine eok_fldE ?_) | (with_reducible refine eok_isiE ?_) | (with_reducible refine iok_seq ?_) | (with_reducible refine iok_zip ?_) | (with_reducible refine iok_enum ?_) | (with_reducible refine iok_range1 ?_) | (with_reducible refine sok_next ?_) | (with_reducible refine sok_seq ?_) | (with_reducible refine sok_set ?_) | (with_reducible refine sok_setO ?_) | (with_reducible refine sok_par ?_) | (with_reducible refine sok_to ?_) | (with_reducible refine sok_drop ?_) | (with_reducible refine sok_ret ?_) | (with_reducible refine sok_if ?_) | (refine ⟨(by show List.length _ ≤ 16777216; simp only [List.length_cons, List.length_nil]; decide), ?_⟩)))
      rw [← e]; exact q
    have row : ∀ (l : List D) (n : Nat), n < m → l.length ≤ L → (∀ x ∈ l, TrD L n x) → itemsD d = some l → (d.ty?.bind (isiB ["tuple", "list"])).map D.bl = some (.bl true) → Q (.tup (l.map fz)) → FOk (FR_as_tuples (m + 1)) [d] Q := fun l n hn hl hd e b1 q => by
      refine fok_run ?_
      unfold g_as_tuples
      (repeat (first | (with_reducible refine eok_c ?_) | ((with_reducible refine eok_varX ?_); refine ⟨_, rfl, ?_⟩) | ((with_reducible refine eok_obsX ?_); refine ⟨_, _, rfl, ?_⟩) | (with_reducible refine eok_bin ?_) | (with_reducible refine eok_un ?_) | (with_reducible refine eok_not ?_) | (with_reducible refine eok_and ?_) | (with_reducible refine eok_or ?_) | (with_reducible refine eok_if ?_) | (with_reducible refine eok_chain ?_) | (with_reducible refine iok_nil ?_) | (with_reducible refine iok_cons ?_) | (with_reducible refine eok_tup ?_) | (with_reducible refine eok_lst ?_) | (with_reducible refine eok_call ?_) | (with_reducible refine eok_B ?_) | (with_reducible refine eok_isi ?_) | (with_reducible refine eok_int ?_) | (with_reducible refine eok_sl ?_) | (with_reducible refine eok_lrg ?_) | (with_reducible refine eok_err ?_) | (with_reducible refine eok_fldE ?_) | (with_reducible refine eok_isiE ?_) | (with_reducible refine iok_seq ?_) | (with_reducible refine iok_zip ?_) | (with_reducible refine iok_enum ?_) | (with_reducible refine iok_range1 ?_) | (with_reducible refine sok_next ?_) | (with_reducible refine sok_seq ?_) | (with_reducible refine sok_set ?_) | (with_reducible refine sok_setO ?_) | (with_reducible refine sok_par ?_) | (with_reducible refine sok_to ?_) | (with_reducible refine sok_drop ?_) | (with_reducible refine sok_ret ?_) | (with_reducible refine sok_if ?_) | (refine ⟨(by show List.length _ ≤ 16777216; simp only [List.length_cons, List.length_nil]; decide), ?_⟩)))
      refine isrow true b1 ⟨_, rfl, _, rfl, ff, fun _ => ?_⟩
      refine sok_next ?_
      (repeat (first | (with_reducible refine eok_c ?_) | ((with_reducible refine eok_varX ?_); refine ⟨_, rfl, ?_⟩) | ((with_reducible refine eok_obsX ?_); refine ⟨_, _, rfl, ?_⟩) | (with_reducible refine eok_bin ?_) | (with_reducible refine eok_un ?_) | (with_reducible refine eok_not ?_) | (with_reducible refine eok_and ?_) | (with_reducible refine eok_or ?_) | (with_reducible refine eok_if ?_) | (with_reducible refine eok_chain ?_) | (with_reducible refine iok_nil ?_) | (with_reducible refine iok_cons ?_) | (with_reducible refine eok_tup ?_) | (with_reducible refine eok_lst ?_) | (with_reducible refine eok_call ?_) | (with_reducible refine eok_B ?_) | (with_reducible refine eok_isi ?_) | (with_reducible refine eok_int ?_) | (with_reducible refine eok_sl ?_) | (with_reducible refine eok_lrg ?_) | (with_reducible refine eok_err ?_) | (with_reducible refine eok_fldE ?_) | (with_reducible refine eok_isiE ?_) | (with_reducible refine iok_seq ?_) | (with_reducible refine iok_zip ?_) | (with_reducible refine iok_enum ?_) | (with_reducible refine iok_range1 ?_) | (with_reducible refine sok_next ?_) | (with_reducible refine sok_seq ?_) | (with_reducible refine sok_set ?_) | (with_reducible refine sok_setO ?_) | (with_reducible refine sok_par ?_) | (with_reducible refine sok_to ?_) | (with_reducible refine sok_drop ?_) | (with_reducible refine sok_ret ?_) | (with_reducible refine sok_if ?_) | (refine ⟨(by show List.length _ ≤ 16777216; simp only [List.length_cons, List.length_nil]; decide), ?_⟩)))
      refine eok_map fz ?_
      (repeat (first | (with_reducible refine eok_c ?_) | ((with_reducible refine eok_varX ?_); refine ⟨_, rfl, ?_⟩) | ((with_reducible refine eok_obsX ?_); refine ⟨_, _, rfl, ?_⟩) | (with_reducible refine eok_bin ?_) | (with_reducible refine eok_un ?_) | (with_reducible refine eok_not ?_) | (with_reducible refine eok_and ?_) | (with_reducible refine eok_or ?_) | (with_reducible refine eok_if ?_) | (with_reducible refine eok_chain ?_) | (with_reducible refine iok_nil ?_) | (with_reducible refine iok_cons ?_) | (with_reducible refine eok_tup ?_) | (with_reducible refine eok_lst ?_) | (with_reducible refine eok_call ?_) | (with_reducible refine eok_B ?_) | (with_reducible refine eok_isi ?_) | (with_reducible refine eok_int ?_) | (with_reducible refine eok_sl ?_) | (with_reducible refine eok_lrg ?_) | (with_reducible refine eok_err ?_) | (with_reducible refine eok_fldE ?_) | (with_reducible refine eok_isiE ?_) | (with_reducible refine iok_seq ?_) | (with_reducible refine iok_zip ?_) | (with_reducible refine iok_enum ?_) | (with_reducible refine iok_range1 ?_) | (with_reducible refine sok_next ?_) | (with_reducible refine sok_seq ?_) | (with_reducible refine sok_set ?_) | (with_reducible refine sok_setO ?_) | (with_reducible refine sok_par ?_) | (with_reducible refine sok_to ?_) | (with_reducible refine sok_drop ?_) | (with_reducible refine sok_ret ?_) | (with_reducible refine sok_if ?_) | (refine ⟨(by show List.length _ ≤ 16777216; simp only [List.length_cons, List.length_nil]; decide), ?_⟩)))
      refine ⟨l, e, by omega, fun x hx => ⟨_, rfl, ?_⟩, ?_⟩
      · (repeat (first | (with_reducible refine eok_c ?_) | ((with_reducible refine eok_varX ?_); refine ⟨_, rfl, ?_⟩) | ((with_reducible refine eok_obsX ?_); refine ⟨_, _, rfl, ?_⟩) | (with_reducible refine eok_bin ?_) | (with_reducible refine eok_un ?_) | (with_reducible refine eok_not ?_) | (with_reducible refine eok_and ?_) | (with_reducible refine eok_or ?_) | (with_reducible refine eok_if ?_) | (with_reducible refine eok_chain ?_) | (with_reducible refine iok_nil ?_) | (with_reducible refine iok_cons ?_) | (with_reducible refine eok_tup ?_) | (with_reducible refine eok_lst ?_) | (with_reducible refine eok_call ?_) | (with_reducible refine eok_B ?_) | (with_reducible refine eok_isi ?_) | (with_reducible refine eok_int ?_) | (with_reducible refine eok_sl ?_) | (with_reducible refine eok_lrg ?_) | (with_reducible refine eok_err ?_) | (with_reducible refine eok_fldE ?_) | (with_reducible refine eok_isiE ?_) | (with_reducible refine iok_seq ?_) | (with_reducible refine iok_zip ?_) | (with_reducible refine iok_enum ?_) | (with_reducible refine iok_range1 ?_) | (with_reducible refine sok_next ?_) | (with_reducible refine sok_seq ?_) | (with_reducible refine sok_set ?_) | (with_reducible refine sok_setO ?_) | (with_reducible refine sok_par ?_) | (with_reducible refine sok_to ?_) | (with_reducible refine sok_drop ?_) | (with_reducible refine sok_ret ?_) | (with_reducible refine sok_if ?_) | (refine ⟨(by show List.length _ ≤ 16777216; simp only [List.length_cons, List.length_nil]; decide), ?_⟩)))
        exact ih n hn (hd x hx) rfl
      · (repeat (first | (with_reducible refine eok_c ?_) | ((with_reducible refine eok_varX ?_); refine ⟨_, rfl, ?_⟩) | ((with_reducible refine eok_obsX ?_); refine ⟨_, _, rfl, ?_⟩) | (with_reducible refine eok_bin ?_) | (with_reducible refine eok_un ?_) | (with_reducible refine eok_not ?_) | (with_reducible refine eok_and ?_) | (with_reducible refine eok_or ?_) | (with_reducible refine eok_if ?_) | (with_reducible refine eok_chain ?_) | (with_reducible refine iok_nil ?_) | (with_reducible refine iok_cons ?_) | (with_reducible refine eok_tup ?_) | (with_reducible refine eok_lst ?_) | (with_reducible refine eok_call ?_) | (with_reducible refine eok_B ?_) | (with_reducible refine eok_isi ?_) | (with_reducible refine eok_int ?_) | (with_reducible refine eok_sl ?_) | (with_reducible refine eok_lrg ?_) | (with_reducible refine eok_err ?_) | (with_reducible refine eok_fldE ?_) | (with_reducible refine eok_isiE ?_) | (with_reducible refine iok_seq ?_) | (with_reducible refine iok_zip ?_) | (with_reducible refine iok_enum ?_) | (with_reducible refine iok_range1 ?_) | (with_reducible refine sok_next ?_) | (with_reducible refine sok_seq ?_) | (with_reducible refine sok_set ?_) | (with_reducible refine sok_setO ?_) | (with_reducible refine sok_par ?_) | (with_reducible refine sok_to ?_) | (with_reducible refine sok_drop ?_) | (with_reducible refine sok_ret ?_) | (with_reducible refine sok_if ?_) | (refine ⟨(by show List.length _ ≤ 16777216; simp only [List.length_cons, List.length_nil]; decide), ?_⟩)))
        exact ⟨_, rfl, q⟩
    cases h with
    | non => exact atom rfl rfl
    | bl b => exact atom rfl rfl
    | int i => exact atom rfl rfl
    | str x => exact atom rfl rfl
    | @tup n l hl hd => exact row l n (by omega) hl hd rfl rfl (by rw [fz_tup] at q; exact q)
    | @lst n l hl hd => exact row l n (by omega) hl hd rfl rfl (by rw [fz_lst] at q; exact q)
/-- as_tuples, of plain data and of what is lent -/
theorem as_tuples {L n : Nat} (hL : L ≤ 1000) (hn : n < 6) {d : D} {Q : D → Prop} (h : TrD L n d) (q : Q (fz d)) : FOk F_as_tuples [d] Q := fun w => by
  obtain ⟨e, w', h1, h2⟩ := as_tuples_R hL 6 n hn h (Q := Q) q w
  refine ⟨e, w', ?_, h2⟩
  unfold F_as_tuples brwF
  cases h <;> exact h1
theorem as_tuples_B {L n : Nat} (hL : L ≤ 1000) (hn : n < 6) {d : D} {Q : D → Prop} (h : TrD L n d) (q : Q (fz d)) : FOk F_as_tuples [.brw d] Q := fun w => by
  obtain ⟨e, w', h1, h2⟩ := as_tuples_R hL 6 n hn h (Q := fun x => x = fz d) rfl w
  refine ⟨e, w', ?_, by rw [h2]; exact q⟩
  unfold F_as_tuples brwF
  simp only
  rw [h1]
  simp only
  rw [if_pos (by rw [h2]; exact fz_fl h)]
/-- lent or not -/
theorem as_tuples_L {L n : Nat} (hL : L ≤ 1000) (hn : n < 6) {d : D} {Q : D → Prop} (h : TrD L n d) (q : Q (fz d)) : FOk F_as_tuples [lent d] Q := by
  cases h with
  | non => exact as_tuples hL hn .non q
  | bl b => exact as_tuples hL hn (.bl b) q
  | int i => exact as_tuples hL hn (.int i) q
  | str x => exact as_tuples hL hn (.str x) q
  | tup a b => exact as_tuples_B hL hn (.tup a b) q
  | lst a b => exact as_tuples_B hL hn (.lst a b) q
end L_k12

set_option Elab.async false
set_option linter.all false
set_option maxRecDepth 100000
set_option maxHeartbeats 1000000
namespace L_k12
open PySem PySem.SeqAt PySem.Spec PyProof.Rows L2 DL
/-- a', a itself or a lent, of at most four storeys -/
structure Arg (a' a : D) : Prop where
  h : TrD 3 4 a
  e : a' = a ∨ a' = lent a
theorem as_t {a' a : D} {Q : D → Prop} (h : Arg a' a) (q : Q (fz a)) : FOk F_as_tuples [a'] Q := by
  rcases h.e with rfl | rfl
  · exact as_tuples (L := 3) (by decide) (by decide) h.h q
  · exact as_tuples_L (L := 3) (by decide) (by decide) h.h q
theorem eok_make {n : Str} {F : List D → Wd → Res} {fs : IM} {r : DL.Env} {Q : D → Prop} (h : IOk fs r fun l => FOk F l fun d => ∃ g, d = .obj n g ∧ Q (.obj n g)) : EOk (dMake n F fs) r Q := fun w => by
  obtain ⟨l, w1, e1, h⟩ := h w
  obtain ⟨d, w2, e2, g, rfl, q⟩ := h w1
  exact ⟨_, w2, by unfold dMake; rw [toR_ok e1, e2]; exact if_pos rfl, q⟩
theorem fok_F {n : Str} {N : Nat} {fl : List Str} {fa : IM} {ds : List D} {Q : D → Prop} (h : IOk fa (startX N ds) fun l => Q (.obj n (fl.zip l))) : FOk (runF n N fl fa) ds Q := fun w => by
  obtain ⟨l, w1, e1, q⟩ := h w
  exact ⟨_, w1, by unfold runF; rw [toR_ok e1], q⟩
theorem eok_fldO {n f : Str} {fe : EM} {r : DL.Env} {Q : D → Prop} (h : EOk fe r fun d => ∃ fs x, d = .obj n fs ∧ fs.lookup f = some x ∧ Q x) : EOk (dFldO n f fe) r Q := fun w => by
  obtain ⟨d, w1, e1, fs, x, rfl, e2, q⟩ := h w
  exact ⟨_, w1, by unfold dFldO fldO; rw [bind_ok e1]; simp only; rw [if_pos trivial, e2]; rfl, q⟩
theorem plus_l {a b : List D} (h : a.length + b.length ≤ 16777216) : plusD (.lst a) (.lst b) = some (.lst (a ++ b)) := if_pos h
def MK (x y z : D) : List D := [.obj "Point" [("tops", x), ("bottom", y)], .obj "Whole" [("numbers", x), ("steps", y)], .obj "NoWhole" [("weights", x), ("divisor", y)], .obj "Endless" [("numbers", x), ("run", y)],
  .obj "Numbers" [("numbers", x)], .obj "Barred" [("tree", x)], .obj "NoPoint" [("weights", x)], .obj "Least" [("number", x), ("numbers", y), ("tree", z)]]
def RO (x y z : D) : List D := [.lst [x, y], .lst [x, y], .lst [x, y], .lst [x, y], .lst [x], .lst [x], .lst [x], .lst [x, y, z]]
section
variable {a' a b' b c' c : D} {Q : D → Prop}
theorem mkPoint (ha : Arg a' a) (hb : Arg b' b) (q : Q (.obj "Point" [("tops", fz a), ("bottom", fz b)])) : FOk F_Point___init__ [a', b'] Q := by
  unfold F_Point___init__ g_Point___init__
  refine fok_F ?_
  (repeat (first | (with_reducible refine eok_c ?_) | ((with_reducible refine eok_varX ?_); refine ⟨_, rfl, ?_⟩) | ((with_reducible refine eok_obsX ?_); refine ⟨_, _, rfl, ?_⟩) | (with_reducible refine eok_bin ?_) | (with_reducible refine eok_un ?_) | (with_reducible refine eok_not ?_) | (with_reducible refine eok_and ?_) | (with_reducible refine eok_or ?_) | (with_reducible refine eok_if ?_) | (with_reducible refine eok_chain ?_) | (with_reducible refine iok_nil ?_) | (with_reducible refine iok_cons ?_) | (with_reducible refine eok_tup ?_) | (with_reducible refine eok_lst ?_) | (with_reducible refine eok_call ?_) | (with_reducible refine eok_B ?_) | (with_reducible refine eok_isi ?_) | (with_reducible refine eok_int ?_) | (with_reducible refine eok_sl ?_) | (with_reducible refine eok_lrg ?_) | (with_reducible refine eok_err ?_) | (with_reducible refine eok_fldE ?_) | (with_reducible refine eok_isiE ?_) | (with_reducible refine iok_seq ?_) | (with_reducible refine iok_zip ?_) | (with_reducible refine iok_enum ?_) | (with_reducible refine iok_range1 ?_) | (with_reducible refine sok_next ?_) | (with_reducible refine sok_seq ?_) | (with_reducible refine sok_set ?_) | (with_reducible refine sok_setO ?_) | (with_reducible refine sok_par ?_) | (with_reducible refine sok_to ?_) | (with_reducible refine sok_drop ?_) | (with_reducible refine sok_ret ?_) | (with_reducible refine sok_if ?_) | (refine ⟨(by show List.length _ ≤ 16777216; simp only [List.length_cons, List.length_nil]; decide), ?_⟩)))
  refine as_t ha ?_
  (repeat (first | (with_reducible refine eok_c ?_) | ((with_reducible refine eok_varX ?_); refine ⟨_, rfl, ?_⟩) | ((with_reducible refine eok_obsX ?_); refine ⟨_, _, rfl, ?_⟩) | (with_reducible refine eok_bin ?_) | (with_reducible refine eok_un ?_) | (with_reducible refine eok_not ?_) | (with_reducible refine eok_and ?_) | (with_reducible refine eok_or ?_) | (with_reducible refine eok_if ?_) | (with_reducible refine eok_chain ?_) | (with_reducible refine iok_nil ?_) | (with_reducible refine iok_cons ?_) | (with_reducible refine eok_tup ?_) | (with_reducible refine eok_lst ?_) | (with_reducible refine eok_call ?_) | (with_reducible refine eok_B ?_) | (with_reducible refine eok_isi ?_) | (with_reducible refine eok_int ?_) | (with_reducible refine eok_sl ?_) | (with_reducible refine eok_lrg ?_) | (with_reducible refine eok_err ?_) | (with_reducible refine eok_fldE ?_) | (with_reducible refine eok_isiE ?_) | (with_reducible refine iok_seq ?_) | (with_reducible refine iok_zip ?_) | (with_reducible refine iok_enum ?_) | (with_reducible refine iok_range1 ?_) | (with_reducible refine sok_next ?_) | (with_reducible refine sok_seq ?_) | (with_reducible refine sok_set ?_) | (with_reducible refine sok_setO ?_) | (with_reducible refine sok_par ?_) | (with_reducible refine sok_to ?_) | (with_reducible refine sok_drop ?_) | (with_reducible refine sok_ret ?_) | (with_reducible refine sok_if ?_) | (refine ⟨(by show List.length _ ≤ 16777216; simp only [List.length_cons, List.length_nil]; decide), ?_⟩)))
  refine as_t hb ?_
  (repeat (first | (with_reducible refine eok_c ?_) | ((with_reducible refine eok_varX ?_); refine ⟨_, rfl, ?_⟩) | ((with_reducible refine eok_obsX ?_); refine ⟨_, _, rfl, ?_⟩) | (with_reducible refine eok_bin ?_) | (with_reducible refine eok_un ?_) | (with_reducible refine eok_not ?_) | (with_reducible refine eok_and ?_) | (with_reducible refine eok_or ?_) | (with_reducible refine eok_if ?_) | (with_reducible refine eok_chain ?_) | (with_reducible refine iok_nil ?_) | (with_reducible refine iok_cons ?_) | (with_reducible refine eok_tup ?_) | (with_reducible refine eok_lst ?_) | (with_reducible refine eok_call ?_) | (with_reducible refine eok_B ?_) | (with_reducible refine eok_isi ?_) | (with_reducible refine eok_int ?_) | (with_reducible refine eok_sl ?_) | (with_reducible refine eok_lrg ?_) | (with_reducible refine eok_err ?_) | (with_reducible refine eok_fldE ?_) | (with_reducible refine eok_isiE ?_) | (with_reducible refine iok_seq ?_) | (with_reducible refine iok_zip ?_) | (with_reducible refine iok_enum ?_) | (with_reducible refine iok_range1 ?_) | (with_reducible refine sok_next ?_) | (with_reducible refine sok_seq ?_) | (with_reducible refine sok_set ?_) | (with_reducible refine sok_setO ?_) | (with_reducible refine sok_par ?_) | (with_reducible refine sok_to ?_) | (with_reducible refine sok_drop ?_) | (with_reducible refine sok_ret ?_) | (with_reducible refine sok_if ?_) | (refine ⟨(by show List.length _ ≤ 16777216; simp only [List.length_cons, List.length_nil]; decide), ?_⟩)))
  exact q
theorem mkWhole (ha : Arg a' a) (hb : Arg b' b) (q : Q (.obj "Whole" [("numbers", fz a), ("steps", fz b)])) : FOk F_Whole___init__ [a', b'] Q := by
  unfold F_Whole___init__ g_Whole___init__
  refine fok_F ?_
  (repeat (first | (with_reducible refine eok_c ?_) | ((with_reducible refine eok_varX ?_); refine ⟨_, rfl, ?_⟩) | ((with_reducible refine eok_obsX ?_); refine ⟨_, _, rfl, ?_⟩) | (with_reducible refine eok_bin ?_) | (with_reducible refine eok_un ?_) | (with_reducible refine eok_not ?_) | (with_reducible refine eok_and ?_) | (with_reducible refine eok_or ?_) | (with_reducible refine eok_if ?_) | (with_reducible refine eok_chain ?_) | (with_reducible refine iok_nil ?_) | (with_reducible refine iok_cons ?_) | (with_reducible refine eok_tup ?_) | (with_reducible refine eok_lst ?_) | (with_reducible refine eok_call ?_) | (with_reducible refine eok_B ?_) | (with_reducible refine eok_isi ?_) | (with_reducible refine eok_int ?_) | (with_reducible refine eok_sl ?_) | (with_reducible refine eok_lrg ?_) | (with_reducible refine eok_err ?_) | (with_reducible refine eok_fldE ?_) | (with_reducible refine eok_isiE ?_) | (with_reducible refine iok_seq ?_) | (with_reducible refine iok_zip ?_) | (with_reducible refine iok_enum ?_) | (with_reducible refine iok_range1 ?_) | (with_reducible refine sok_next ?_) | (with_reducible refine sok_seq ?_) | (with_reducible refine sok_set ?_) | (with_reducible refine sok_setO ?_) | (with_reducible refine sok_par ?_) | (with_reducible refine sok_to ?_) | (with_reducible refine sok_drop ?_) | (with_reducible refine sok_ret ?_) | (with_reducible refine sok_if ?_) | (refine ⟨(by show List.length _ ≤ 16777216; simp only [List.length_cons, List.length_nil]; decide), ?_⟩)))
  refine as_t ha ?_
  (repeat (first | (with_reducible refine eok_c ?_) | ((with_reducible refine eok_varX ?_); refine ⟨_, rfl, ?_⟩) | ((with_reducible refine eok_obsX ?_); refine ⟨_, _, rfl, ?_⟩) | (with_reducible refine eok_bin ?_) | (with_reducible refine eok_un ?_) | (with_reducible refine eok_not ?_) | (with_reducible refine eok_and ?_) | (with_reducible refine eok_or ?_) | (with_reducible refine eok_if ?_) | (with_reducible refine eok_chain ?_) | (with_reducible refine iok_nil ?_) | (with_reducible refine iok_cons ?_) | (with_reducible refine eok_tup ?_) | (with_reducible refine eok_lst ?_) | (with_reducible refine eok_call ?_) | (with_reducible refine eok_B ?_) | (with_reducible refine eok_isi ?_) | (with_reducible refine eok_int ?_) | (with_reducible refine eok_sl ?_) | (with_reducible refine eok_lrg ?_) | (with_reducible refine eok_err ?_) | (with_reducible refine eok_fldE ?_) | (with_reducible refine eok_isiE ?_) | (with_reducible refine iok_seq ?_) | (with_reducible refine iok_zip ?_) | (with_reducible refine iok_enum ?_) | (with_reducible refine iok_range1 ?_) | (with_reducible refine sok_next ?_) | (with_reducible refine sok_seq ?_) | (with_reducible refine sok_set ?_) | (with_reducible refine sok_setO ?_) | (with_reducible refine sok_par ?_) | (with_reducible refine sok_to ?_) | (with_reducible refine sok_drop ?_) | (with_reducible refine sok_ret ?_) | (with_reducible refine sok_if ?_) | (refine ⟨(by show List.length _ ≤ 16777216; simp only [List.length_cons, List.length_nil]; decide), ?_⟩)))
  refine as_t hb ?_
  (repeat (first | (with_reducible refine eok_c ?_) | ((with_reducible refine eok_varX ?_); refine ⟨_, rfl, ?_⟩) | ((with_reducible refine eok_obsX ?_); refine ⟨_, _, rfl, ?_⟩) | (with_reducible refine eok_bin ?_) | (with_reducible refine eok_un ?_) | (with_reducible refine eok_not ?_) | (with_reducible refine eok_and ?_) | (with_reducible refine eok_or ?_) | (with_reducible refine eok_if ?_) | (with_reducible refine eok_chain ?_) | (with_reducible refine iok_nil ?_) | (with_reducible refine iok_cons ?_) | (with_reducible refine eok_tup ?_) | (with_reducible refine eok_lst ?_) | (with_reducible refine eok_call ?_) | (with_reducible refine eok_B ?_) | (with_reducible refine eok_isi ?_) | (with_reducible refine eok_int ?_) | (with_reducible refine eok_sl ?_) | (with_reducible refine eok_lrg ?_) | (with_reducible refine eok_err ?_) | (with_reducible refine eok_fldE ?_) | (with_reducible refine eok_isiE ?_) | (with_reducible refine iok_seq ?_) | (with_reducible refine iok_zip ?_) | (with_reducible refine iok_enum ?_) | (with_reducible refine iok_range1 ?_) | (with_reducible refine sok_next ?_) | (with_reducible refine sok_seq ?_) | (with_reducible refine sok_set ?_) | (with_reducible refine sok_setO ?_) | (with_reducible refine sok_par ?_) | (with_reducible refine sok_to ?_) | (with_reducible refine sok_drop ?_) | (with_reducible refine sok_ret ?_) | (with_reducible refine sok_if ?_) | (refine ⟨(by show List.length _ ≤ 16777216; simp only [List.length_cons, List.length_nil]; decide), ?_⟩)))
  exact q
theorem mkNoWhole (ha : Arg a' a) (hb : Arg b' b) (q : Q (.obj "NoWhole" [("weights", fz a), ("divisor", fz b)])) : FOk F_NoWhole___init__ [a', b'] Q := by
  unfold F_NoWhole___init__ g_NoWhole___init__
  refine fok_F ?_
  (repeat (first | (with_reducible refine eok_c ?_) | ((with_reducible refine eok_varX ?_); refine ⟨_, rfl, ?_⟩) | ((with_reducible refine eok_obsX ?_); refine ⟨_, _, rfl, ?_⟩) | (with_reducible refine eok_bin ?_) | (with_reducible refine eok_un ?_) | (with_reducible refine eok_not ?_) | (with_reducible refine eok_and ?_) | (with_reducible refine eok_or ?_) | (with_reducible refine eok_if ?_) | (with_reducible refine eok_chain ?_) | (with_reducible refine iok_nil ?_) | (with_reducible refine iok_cons ?_) | (with_reducible refine eok_tup ?_) | (with_reducible refine eok_lst ?_) | (with_reducible refine eok_call ?_) | (with_reducible refine eok_B ?_) | (with_reducible refine eok_isi ?_) | (with_reducible refine eok_int ?_) | (with_reducible refine eok_sl ?_) | (with_reducible refine eok_lrg ?_) | (with_reducible refine eok_err ?_) | (with_reducible refine eok_fldE ?_) | (with_reducible refine eok_isiE ?_) | (with_reducible refine iok_seq ?_) | (with_reducible refine iok_zip ?_) | (with_reducible refine iok_enum ?_) | (with_reducible refine iok_range1 ?_) | (with_reducible refine sok_next ?_) | (with_reducible refine sok_seq ?_) | (with_reducible refine sok_set ?_) | (with_reducible refine sok_setO ?_) | (with_reducible refine sok_par ?_) | (with_reducible refine sok_to ?_) | (with_reducible refine sok_drop ?_) | (with_reducible refine sok_ret ?_) | (with_reducible refine sok_if ?_) | (refine ⟨(by show List.length _ ≤ 16777216; simp only [List.length_cons, List.length_nil]; decide), ?_⟩)))
  refine as_t ha ?_
  (repeat (first | (with_reducible refine eok_c ?_) | ((with_reducible refine eok_varX ?_); refine ⟨_, rfl, ?_⟩) | ((with_reducible refine eok_obsX ?_); refine ⟨_, _, rfl, ?_⟩) | (with_reducible refine eok_bin ?_) | (with_reducible refine eok_un ?_) | (with_reducible refine eok_not ?_) | (with_reducible refine eok_and ?_) | (with_reducible refine eok_or ?_) | (with_reducible refine eok_if ?_) | (with_reducible refine eok_chain ?_) | (with_reducible refine iok_nil ?_) | (with_reducible refine iok_cons ?_) | (with_reducible refine eok_tup ?_) | (with_reducible refine eok_lst ?_) | (with_reducible refine eok_call ?_) | (with_reducible refine eok_B ?_) | (with_reducible refine eok_isi ?_) | (with_reducible refine eok_int ?_) | (with_reducible refine eok_sl ?_) | (with_reducible refine eok_lrg ?_) | (with_reducible refine eok_err ?_) | (with_reducible refine eok_fldE ?_) | (with_reducible refine eok_isiE ?_) | (with_reducible refine iok_seq ?_) | (with_reducible refine iok_zip ?_) | (with_reducible refine iok_enum ?_) | (with_reducible refine iok_range1 ?_) | (with_reducible refine sok_next ?_) | (with_reducible refine sok_seq ?_) | (with_reducible refine sok_set ?_) | (with_reducible refine sok_setO ?_) | (with_reducible refine sok_par ?_) | (with_reducible refine sok_to ?_) | (with_reducible refine sok_drop ?_) | (with_reducible refine sok_ret ?_) | (with_reducible refine sok_if ?_) | (refine ⟨(by show List.length _ ≤ 16777216; simp only [List.length_cons, List.length_nil]; decide), ?_⟩)))
  refine as_t hb ?_
  (repeat (first | (with_reducible refine eok_c ?_) | ((with_reducible refine eok_varX ?_); refine ⟨_, rfl, ?_⟩) | ((with_reducible refine eok_obsX ?_); refine ⟨_, _, rfl, ?_⟩) | (with_reducible refine eok_bin ?_) | (with_reducible refine eok_un ?_) | (with_reducible refine eok_not ?_) | (with_reducible refine eok_and ?_) | (with_reducible refine eok_or ?_) | (with_reducible refine eok_if ?_) | (with_reducible refine eok_chain ?_) | (with_reducible refine iok_nil ?_) | (with_reducible refine iok_cons ?_) | (with_reducible refine eok_tup ?_) | (with_reducible refine eok_lst ?_) | (with_reducible refine eok_call ?_) | (with_reducible refine eok_B ?_) | (with_reducible refine eok_isi ?_) | (with_reducible refine eok_int ?_) | (with_reducible refine eok_sl ?_) | (with_reducible refine eok_lrg ?_) | (with_reducible refine eok_err ?_) | (with_reducible refine eok_fldE ?_) | (with_reducible refine eok_isiE ?_) | (with_reducible refine iok_seq ?_) | (with_reducible refine iok_zip ?_) | (with_reducible refine iok_enum ?_) | (with_reducible refine iok_range1 ?_) | (with_reducible refine sok_next ?_) | (with_reducible refine sok_seq ?_) | (with_reducible refine sok_set ?_) | (with_reducible refine sok_setO ?_) | (with_reducible refine sok_par ?_) | (with_reducible refine sok_to ?_) | (with_reducible refine sok_drop ?_) | (with_reducible refine sok_ret ?_) | (with_reducible refine sok_if ?_) | (refine ⟨(by show List.length _ ≤ 16777216; simp only [List.length_cons, List.length_nil]; decide), ?_⟩)))
  exact q
theorem mkEndless (ha : Arg a' a) (hb : Arg b' b) (q : Q (.obj "Endless" [("numbers", fz a), ("run", fz b)])) : FOk F_Endless___init__ [a', b'] Q := by
  unfold F_Endless___init__ g_Endless___init__
  refine fok_F ?_
  (repeat (first | (with_reducible refine eok_c ?_) | ((with_reducible refine eok_varX ?_); refine ⟨_, rfl, ?_⟩) | ((with_reducible refine eok_obsX ?_); refine ⟨_, _, rfl, ?_⟩) | (with_reducible refine eok_bin ?_) | (with_reducible refine eok_un ?_) | (with_reducible refine eok_not ?_) | (with_reducible refine eok_and ?_) | (with_reducible refine eok_or ?_) | (with_reducible refine eok_if ?_) | (with_reducible refine eok_chain ?_) | (with_reducible refine iok_nil ?_) | (with_reducible refine iok_cons ?_) | (with_reducible refine eok_tup ?_) | (with_reducible refine eok_lst ?_) | (with_reducible refine eok_call ?_) | (with_reducible refine eok_B ?_) | (with_reducible refine eok_isi ?_) | (with_reducible refine eok_int ?_) | (with_reducible refine eok_sl ?_) | (with_reducible refine eok_lrg ?_) | (with_reducible refine eok_err ?_) | (with_reducible refine eok_fldE ?_) | (with_reducible refine eok_isiE ?_) | (with_reducible refine iok_seq ?_) | (with_reducible refine iok_zip ?_) | (with_reducible refine iok_enum ?_) | (with_reducible refine iok_range1 ?_) | (with_reducible refine sok_next ?_) | (with_reducible refine sok_seq ?_) | (with_reducible refine sok_set ?_) | (with_reducible refine sok_setO ?_) | (with_reducible refine sok_par ?_) | (with_reducible refine sok_to ?_) | (with_reducible refine sok_drop ?_) | (with_reducible refine sok_ret ?_) | (with_reducible refine sok_if ?_) | (refine ⟨(by show List.length _ ≤ 16777216; simp only [List.length_cons, List.length_nil]; decide), ?_⟩)))
  refine as_t ha ?_
  (repeat (first | (with_reducible refine eok_c ?_) | ((with_reducible refine eok_varX ?_); refine ⟨_, rfl, ?_⟩) | ((with_reducible refine eok_obsX ?_); refine ⟨_, _, rfl, ?_⟩) | (with_reducible refine eok_bin ?_) | (with_reducible refine eok_un ?_) | (with_reducible refine eok_not ?_) | (with_reducible refine eok_and ?_) | (with_reducible refine eok_or ?_) | (with_reducible refine eok_if ?_) | (with_reducible refine eok_chain ?_) | (with_reducible refine iok_nil ?_) | (with_reducible refine iok_cons ?_) | (with_reducible refine eok_tup ?_) | (with_reducible refine eok_lst ?_) | (with_reducible refine eok_call ?_) | (with_reducible refine eok_B ?_) | (with_reducible refine eok_isi ?_) | (with_reducible refine eok_int ?_) | (with_reducible refine eok_sl ?_) | (with_reducible refine eok_lrg ?_) | (with_reducible refine eok_err ?_) | (with_reducible refine eok_fldE ?_) | (with_reducible refine eok_isiE ?_) | (with_reducible refine iok_seq ?_) | (with_reducible refine iok_zip ?_) | (with_reducible refine iok_enum ?_) | (with_reducible refine iok_range1 ?_) | (with_reducible refine sok_next ?_) | (with_reducible refine sok_seq ?_) | (with_reducible refine sok_set ?_) | (with_reducible refine sok_setO ?_) | (with_reducible refine sok_par ?_) | (with_reducible refine sok_to ?_) | (with_reducible refine sok_drop ?_) | (with_reducible refine sok_ret ?_) | (with_reducible refine sok_if ?_) | (refine ⟨(by show List.length _ ≤ 16777216; simp only [List.length_cons, List.length_nil]; decide), ?_⟩)))
  refine as_t hb ?_
  (repeat (first | (with_reducible refine eok_c ?_) | ((with_reducible refine eok_varX ?_); refine ⟨_, rfl, ?_⟩) | ((with_reducible refine eok_obsX ?_); refine ⟨_, _, rfl, ?_⟩) | (with_reducible refine eok_bin ?_) | (with_reducible refine eok_un ?_) | (with_reducible refine eok_not ?_) | (with_reducible refine eok_and ?_) | (with_reducible refine eok_or ?_) | (with_reducible refine eok_if ?_) | (with_reducible refine eok_chain ?_) | (with_reducible refine iok_nil ?_) | (with_reducible refine iok_cons ?_) | (with_reducible refine eok_tup ?_) | (with_reducible refine eok_lst ?_) | (with_reducible refine eok_call ?_) | (with_reducible refine eok_B ?_) | (with_reducible refine eok_isi ?_) | (with_reducible refine eok_int ?_) | (with_reducible refine eok_sl ?_) | (with_reducible refine eok_lrg ?_) | (with_reducible refine eok_err ?_) | (with_reducible refine eok_fldE ?_) | (with_reducible refine eok_isiE ?_) | (with_reducible refine iok_seq ?_) | (with_reducible refine iok_zip ?_) | (with_reducible refine iok_enum ?_) | (with_reducible refine iok_range1 ?_) | (with_reducible refine sok_next ?_) | (with_reducible refine sok_seq ?_) | (with_reducible refine sok_set ?_) | (with_reducible refine sok_setO ?_) | (with_reducible refine sok_par ?_) | (with_reducible refine sok_to ?_) | (with_reducible refine sok_drop ?_) | (with_reducible refine sok_ret ?_) | (with_reducible refine sok_if ?_) | (refine ⟨(by show List.length _ ≤ 16777216; simp only [List.length_cons, List.length_nil]; decide), ?_⟩)))
  exact q
theorem mkNumbers (ha : Arg a' a) (q : Q (.obj "Numbers" [("numbers", fz a)])) : FOk F_Numbers___init__ [a'] Q := by
  unfold F_Numbers___init__ g_Numbers___init__
  refine fok_F ?_
  (repeat (first | (with_reducible refine eok_c ?_) | ((with_reducible refine eok_varX ?_); refine ⟨_, rfl, ?_⟩) | ((with_reducible refine eok_obsX ?_); refine ⟨_, _, rfl, ?_⟩) | (with_reducible refine eok_bin ?_) | (with_reducible refine eok_un ?_) | (with_reducible refine eok_not ?_) | (with_reducible refine eok_and ?_) | (with_reducible refine eok_or ?_) | (with_reducible refine eok_if ?_) | (with_reducible refine eok_chain ?_) | (with_reducible refine iok_nil ?_) | (with_reducible refine iok_cons ?_) | (with_reducible refine eok_tup ?_) | (with_reducible refine eok_lst ?_) | (with_reducible refine eok_call ?_) | (with_reducible refine eok_B ?_) | (with_reducible refine eok_isi ?_) | (with_reducible refine eok_int ?_) | (with_reducible refine eok_sl ?_) | (with_reducible refine eok_lrg ?_) | (with_reducible refine eok_err ?_) | (with_reducible refine eok_fldE ?_) | (with_reducible refine eok_isiE ?_) | (with_reducible refine iok_seq ?_) | (with_reducible refine iok_zip ?_) | (with_reducible refine iok_enum ?_) | (with_reducible refine iok_range1 ?_) | (with_reducible refine sok_next ?_) | (with_reducible refine sok_seq ?_) | (with_reducible refine sok_set ?_) | (with_reducible refine sok_setO ?_) | (with_reducible refine sok_par ?_) | (with_reducible refine sok_to ?_) | (with_reducible refine sok_drop ?_) | (with_reducible refine sok_ret ?_) | (with_reducible refine sok_if ?_) | (refine ⟨(by show List.length _ ≤ 16777216; simp only [List.length_cons, List.length_nil]; decide), ?_⟩)))
  refine as_t ha ?_
  (repeat (first | (with_reducible refine eok_c ?_) | ((with_reducible refine eok_varX ?_); refine ⟨_, rfl, ?_⟩) | ((with_reducible refine eok_obsX ?_); refine ⟨_, _, rfl, ?_⟩) | (with_reducible refine eok_bin ?_) | (with_reducible refine eok_un ?_) | (with_reducible refine eok_not ?_) | (with_reducible refine eok_and ?_) | (with_reducible refine eok_or ?_) | (with_reducible refine eok_if ?_) | (with_reducible refine eok_chain ?_) | (with_reducible refine iok_nil ?_) | (with_reducible refine iok_cons ?_) | (with_reducible refine eok_tup ?_) | (with_reducible refine eok_lst ?_) | (with_reducible refine eok_call ?_) | (with_reducible refine eok_B ?_) | (with_reducible refine eok_isi ?_) | (with_reducible refine eok_int ?_) | (with_reducible refine eok_sl ?_) | (with_reducible refine eok_lrg ?_) | (with_reducible refine eok_err ?_) | (with_reducible refine eok_fldE ?_) | (with_reducible refine eok_isiE ?_) | (with_reducible refine iok_seq ?_) | (with_reducible refine iok_zip ?_) | (with_reducible refine iok_enum ?_) | (with_reducible refine iok_range1 ?_) | (with_reducible refine sok_next ?_) | (with_reducible refine sok_seq ?_) | (with_reducible refine sok_set ?_) | (with_reducible refine sok_setO ?_) | (with_reducible refine sok_par ?_) | (with_reducible refine sok_to ?_) | (with_reducible refine sok_drop ?_) | (with_reducible refine sok_ret ?_) | (with_reducible refine sok_if ?_) | (refine ⟨(by show List.length _ ≤ 16777216; simp only [List.length_cons, List.length_nil]; decide), ?_⟩)))
  exact q
theorem mkBarred (ha : Arg a' a) (q : Q (.obj "Barred" [("tree", fz a)])) : FOk F_Barred___init__ [a'] Q := by
  unfold F_Barred___init__ g_Barred___init__
  refine fok_F ?_
  (repeat (first | (with_reducible refine eok_c ?_) | ((with_reducible refine eok_varX ?_); refine ⟨_, rfl, ?_⟩) | ((with_reducible refine eok_obsX ?_); refine ⟨_, _, rfl, ?_⟩) | (with_reducible refine eok_bin ?_) | (with_reducible refine eok_un ?_) | (with_reducible refine eok_not ?_) | (with_reducible refine eok_and ?_) | (with_reducible refine eok_or ?_) | (with_reducible refine eok_if ?_) | (with_reducible refine eok_chain ?_) | (with_reducible refine iok_nil ?_) | (with_reducible refine iok_cons ?_) | (with_reducible refine eok_tup ?_) | (with_reducible refine eok_lst ?_) | (with_reducible refine eok_call ?_) | (with_reducible refine eok_B ?_) | (with_reducible refine eok_isi ?_) | (with_reducible refine eok_int ?_) | (with_reducible refine eok_sl ?_) | (with_reducible refine eok_lrg ?_) | (with_reducible refine eok_err ?_) | (with_reducible refine eok_fldE ?_) | (with_reducible refine eok_isiE ?_) | (with_reducible refine iok_seq ?_) | (with_reducible refine iok_zip ?_) | (with_reducible refine iok_enum ?_) | (with_reducible refine iok_range1 ?_) | (with_reducible refine sok_next ?_) | (with_reducible refine sok_seq ?_) | (with_reducible refine sok_set ?_) | (with_reducible refine sok_setO ?_) | (with_reducible refine sok_par ?_) | (with_reducible refine sok_to ?_) | (with_reducible refine sok_drop ?_) | (with_reducible refine sok_ret ?_) | (with_reducible refine sok_if ?_) | (refine ⟨(by show List.length _ ≤ 16777216; simp only [List.length_cons, List.length_nil]; decide), ?_⟩)))
  refine as_t ha ?_
  (repeat (first | (with_reducible refine eok_c ?_) | ((with_reducible refine eok_varX ?_); refine ⟨_, rfl, ?_⟩) | ((with_reducible refine eok_obsX ?_); refine ⟨_, _, rfl, ?_⟩) | (with_reducible refine eok_bin ?_) | (with_reducible refine eok_un ?_) | (with_reducible refine eok_not ?_) | (with_reducible refine eok_and ?_) | (with_reducible refine eok_or ?_) | (with_reducible refine eok_if ?_) | (with_reducible refine eok_chain ?_) | (with_reducible refine iok_nil ?_) | (with_reducible refine iok_cons ?_) | (with_reducible refine eok_tup ?_) | (with_reducible refine eok_lst ?_) | (with_reducible refine eok_call ?_) | (with_reducible refine eok_B ?_) | (with_reducible refine eok_isi ?_) | (with_reducible refine eok_int ?_) | (with_reducible refine eok_sl ?_) | (with_reducible refine eok_lrg ?_) | (with_reducible refine eok_err ?_) | (with_reducible refine eok_fldE ?_) | (with_reducible refine eok_isiE ?_) | (with_reducible refine iok_seq ?_) | (with_reducible refine iok_zip ?_) | (with_reducible refine iok_enum ?_) | (with_reducible refine iok_range1 ?_) | (with_reducible refine sok_next ?_) | (with_reducible refine sok_seq ?_) | (with_reducible refine sok_set ?_) | (with_reducible refine sok_setO ?_) | (with_reducible refine sok_par ?_) | (with_reducible refine sok_to ?_) | (with_reducible refine sok_drop ?_) | (with_reducible refine sok_ret ?_) | (with_reducible refine sok_if ?_) | (refine ⟨(by show List.length _ ≤ 16777216; simp only [List.length_cons, List.length_nil]; decide), ?_⟩)))
  exact q
theorem mkNoPoint (ha : Arg a' a) (q : Q (.obj "NoPoint" [("weights", fz a)])) : FOk F_NoPoint___init__ [a'] Q := by
  unfold F_NoPoint___init__ g_NoPoint___init__
  refine fok_F ?_
  (repeat (first | (with_reducible refine eok_c ?_) | ((with_reducible refine eok_varX ?_); refine ⟨_, rfl, ?_⟩) | ((with_reducible refine eok_obsX ?_); refine ⟨_, _, rfl, ?_⟩) | (with_reducible refine eok_bin ?_) | (with_reducible refine eok_un ?_) | (with_reducible refine eok_not ?_) | (with_reducible refine eok_and ?_) | (with_reducible refine eok_or ?_) | (with_reducible refine eok_if ?_) | (with_reducible refine eok_chain ?_) | (with_reducible refine iok_nil ?_) | (with_reducible refine iok_cons ?_) | (with_reducible refine eok_tup ?_) | (with_reducible refine eok_lst ?_) | (with_reducible refine eok_call ?_) | (with_reducible refine eok_B ?_) | (with_reducible refine eok_isi ?_) | (with_reducible refine eok_int ?_) | (with_reducible refine eok_sl ?_) | (with_reducible refine eok_lrg ?_) | (with_reducible refine eok_err ?_) | (with_reducible refine eok_fldE ?_) | (with_reducible refine eok_isiE ?_) | (with_reducible refine iok_seq ?_) | (with_reducible refine iok_zip ?_) | (with_reducible refine iok_enum ?_) | (with_reducible refine iok_range1 ?_) | (with_reducible refine sok_next ?_) | (with_reducible refine sok_seq ?_) | (with_reducible refine sok_set ?_) | (with_reducible refine sok_setO ?_) | (with_reducible refine sok_par ?_) | (with_reducible refine sok_to ?_) | (with_reducible refine sok_drop ?_) | (with_reducible refine sok_ret ?_) | (with_reducible refine sok_if ?_) | (refine ⟨(by show List.length _ ≤ 16777216; simp only [List.length_cons, List.length_nil]; decide), ?_⟩)))
  refine as_t ha ?_
  (repeat (first | (with_reducible refine eok_c ?_) | ((with_reducible refine eok_varX ?_); refine ⟨_, rfl, ?_⟩) | ((with_reducible refine eok_obsX ?_); refine ⟨_, _, rfl, ?_⟩) | (with_reducible refine eok_bin ?_) | (with_reducible refine eok_un ?_) | (with_reducible refine eok_not ?_) | (with_reducible refine eok_and ?_) | (with_reducible refine eok_or ?_) | (with_reducible refine eok_if ?_) | (with_reducible refine eok_chain ?_) | (with_reducible refine iok_nil ?_) | (with_reducible refine iok_cons ?_) | (with_reducible refine eok_tup ?_) | (with_reducible refine eok_lst ?_) | (with_reducible refine eok_call ?_) | (with_reducible refine eok_B ?_) | (with_reducible refine eok_isi ?_) | (with_reducible refine eok_int ?_) | (with_reducible refine eok_sl ?_) | (with_reducible refine eok_lrg ?_) | (with_reducible refine eok_err ?_) | (with_reducible refine eok_fldE ?_) | (with_reducible refine eok_isiE ?_) | (with_reducible refine iok_seq ?_) | (with_reducible refine iok_zip ?_) | (with_reducible refine iok_enum ?_) | (with_reducible refine iok_range1 ?_) | (with_reducible refine sok_next ?_) | (with_reducible refine sok_seq ?_) | (with_reducible refine sok_set ?_) | (with_reducible refine sok_setO ?_) | (with_reducible refine sok_par ?_) | (with_reducible refine sok_to ?_) | (with_reducible refine sok_drop ?_) | (with_reducible refine sok_ret ?_) | (with_reducible refine sok_if ?_) | (refine ⟨(by show List.length _ ≤ 16777216; simp only [List.length_cons, List.length_nil]; decide), ?_⟩)))
  exact q
theorem mkLeast (ha : Arg a' a) (hb : Arg b' b) (hc : Arg c' c) (q : Q (.obj "Least" [("number", fz a), ("numbers", fz b), ("tree", fz c)])) : FOk F_Least___init__ [a', b', c'] Q := by
  unfold F_Least___init__ g_Least___init__
  refine fok_F ?_
  (repeat (first | (with_reducible refine eok_c ?_) | ((with_reducible refine eok_varX ?_); refine ⟨_, rfl, ?_⟩) | ((with_reducible refine eok_obsX ?_); refine ⟨_, _, rfl, ?_⟩) | (with_reducible refine eok_bin ?_) | (with_reducible refine eok_un ?_) | (with_reducible refine eok_not ?_) | (with_reducible refine eok_and ?_) | (with_reducible refine eok_or ?_) | (with_reducible refine eok_if ?_) | (with_reducible refine eok_chain ?_) | (with_reducible refine iok_nil ?_) | (with_reducible refine iok_cons ?_) | (with_reducible refine eok_tup ?_) | (with_reducible refine eok_lst ?_) | (with_reducible refine eok_call ?_) | (with_reducible refine eok_B ?_) | (with_reducible refine eok_isi ?_) | (with_reducible refine eok_int ?_) | (with_reducible refine eok_sl ?_) | (with_reducible refine eok_lrg ?_) | (with_reducible refine eok_err ?_) | (with_reducible refine eok_fldE ?_) | (with_reducible refine eok_isiE ?_) | (with_reducible refine iok_seq ?_) | (with_reducible refine iok_zip ?_) | (with_reducible refine iok_enum ?_) | (with_reducible refine iok_range1 ?_) | (with_reducible refine sok_next ?_) | (with_reducible refine sok_seq ?_) | (with_reducible refine sok_set ?_) | (with_reducible refine sok_setO ?_) | (with_reducible refine sok_par ?_) | (with_reducible refine sok_to ?_) | (with_reducible refine sok_drop ?_) | (with_reducible refine sok_ret ?_) | (with_reducible refine sok_if ?_) | (refine ⟨(by show List.length _ ≤ 16777216; simp only [List.length_cons, List.length_nil]; decide), ?_⟩)))
  refine as_t ha ?_
  (repeat (first | (with_reducible refine eok_c ?_) | ((with_reducible refine eok_varX ?_); refine ⟨_, rfl, ?_⟩) | ((with_reducible refine eok_obsX ?_); refine ⟨_, _, rfl, ?_⟩) | (with_reducible refine eok_bin ?_) | (with_reducible refine eok_un ?_) | (with_reducible refine eok_not ?_) | (with_reducible refine eok_and ?_) | (with_reducible refine eok_or ?_) | (with_reducible refine eok_if ?_) | (with_reducible refine eok_chain ?_) | (with_reducible refine iok_nil ?_) | (with_reducible refine iok_cons ?_) | (with_reducible refine eok_tup ?_) | (with_reducible refine eok_lst ?_) | (with_reducible refine eok_call ?_) | (with_reducible refine eok_B ?_) | (with_reducible refine eok_isi ?_) | (with_reducible refine eok_int ?_) | (with_reducible refine eok_sl ?_) | (with_reducible refine eok_lrg ?_) | (with_reducible refine eok_err ?_) | (with_reducible refine eok_fldE ?_) | (with_reducible refine eok_isiE ?_) | (with_reducible refine iok_seq ?_) | (with_reducible refine iok_zip ?_) | (with_reducible refine iok_enum ?_) | (with_reducible refine iok_range1 ?_) | (with_reducible refine sok_next ?_) | (with_reducible refine sok_seq ?_) | (with_reducible refine sok_set ?_) | (with_reducible refine sok_setO ?_) | (with_reducible refine sok_par ?_) | (with_reducible refine sok_to ?_) | (with_reducible refine sok_drop ?_) | (with_reducible refine sok_ret ?_) | (with_reducible refine sok_if ?_) | (refine ⟨(by show List.length _ ≤ 16777216; simp only [List.length_cons, List.length_nil]; decide), ?_⟩)))
  refine as_t hb ?_
  (repeat (first | (with_reducible refine eok_c ?_) | ((with_reducible refine eok_varX ?_); refine ⟨_, rfl, ?_⟩) | ((with_reducible refine eok_obsX ?_); refine ⟨_, _, rfl, ?_⟩) | (with_reducible refine eok_bin ?_) | (with_reducible refine eok_un ?_) | (with_reducible refine eok_not ?_) | (with_reducible refine eok_and ?_) | (with_reducible refine eok_or ?_) | (with_reducible refine eok_if ?_) | (with_reducible refine eok_chain ?_) | (with_reducible refine iok_nil ?_) | (with_reducible refine iok_cons ?_) | (with_reducible refine eok_tup ?_) | (with_reducible refine eok_lst ?_) | (with_reducible refine eok_call ?_) | (with_reducible refine eok_B ?_) | (with_reducible refine eok_isi ?_) | (with_reducible refine eok_int ?_) | (with_reducible refine eok_sl ?_) | (with_reducible refine eok_lrg ?_) | (with_reducible refine eok_err ?_) | (with_reducible refine eok_fldE ?_) | (with_reducible refine eok_isiE ?_) | (with_reducible refine iok_seq ?_) | (with_reducible refine iok_zip ?_) | (with_reducible refine iok_enum ?_) | (with_reducible refine iok_range1 ?_) | (with_reducible refine sok_next ?_) | (with_reducible refine sok_seq ?_) | (with_reducible refine sok_set ?_) | (with_reducible refine sok_setO ?_) | (with_reducible refine sok_par ?_) | (with_reducible refine sok_to ?_) | (with_reducible refine sok_drop ?_) | (with_reducible refine sok_ret ?_) | (with_reducible refine sok_if ?_) | (refine ⟨(by show List.length _ ≤ 16777216; simp only [List.length_cons, List.length_nil]; decide), ?_⟩)))
  refine as_t hc ?_
  (repeat (first | (with_reducible refine eok_c ?_) | ((with_reducible refine eok_varX ?_); refine ⟨_, rfl, ?_⟩) | ((with_reducible refine eok_obsX ?_); refine ⟨_, _, rfl, ?_⟩) | (with_reducible refine eok_bin ?_) | (with_reducible refine eok_un ?_) | (with_reducible refine eok_not ?_) | (with_reducible refine eok_and ?_) | (with_reducible refine eok_or ?_) | (with_reducible refine eok_if ?_) | (with_reducible refine eok_chain ?_) | (with_reducible refine iok_nil ?_) | (with_reducible refine iok_cons ?_) | (with_reducible refine eok_tup ?_) | (with_reducible refine eok_lst ?_) | (with_reducible refine eok_call ?_) | (with_reducible refine eok_B ?_) | (with_reducible refine eok_isi ?_) | (with_reducible refine eok_int ?_) | (with_reducible refine eok_sl ?_) | (with_reducible refine eok_lrg ?_) | (with_reducible refine eok_err ?_) | (with_reducible refine eok_fldE ?_) | (with_reducible refine eok_isiE ?_) | (with_reducible refine iok_seq ?_) | (with_reducible refine iok_zip ?_) | (with_reducible refine iok_enum ?_) | (with_reducible refine iok_range1 ?_) | (with_reducible refine sok_next ?_) | (with_reducible refine sok_seq ?_) | (with_reducible refine sok_set ?_) | (with_reducible refine sok_setO ?_) | (with_reducible refine sok_par ?_) | (with_reducible refine sok_to ?_) | (with_reducible refine sok_drop ?_) | (with_reducible refine sok_ret ?_) | (with_reducible refine sok_if ?_) | (refine ⟨(by show List.length _ ≤ 16777216; simp only [List.length_cons, List.length_nil]; decide), ?_⟩)))
  exact q
abbrev pl (d : D) : Slot := some (d, false)
theorem ones (ha : Arg a' a) (hb : Arg b' b) (hc : Arg c' c) (q : Q (.tup [.lst (MK (fz a) (fz b) (fz c)), .lst (RO (fz a) (fz b) (fz c))])) : FOk F__law_ones [a', b', c'] Q := by
  refine fok_run ?_
  unfold g__law_ones
  refine sok_cut (fun r => r = [pl a', pl b', pl c', pl (.obj "Point" [("tops", fz a), ("bottom", fz b)]), pl (.obj "Whole" [("numbers", fz a), ("steps", fz b)]), pl (.obj "NoWhole" [("weights", fz a), ("divisor", fz b)]), pl (.obj "Endless" [("numbers", fz a), ("run", fz b)]), none, none, none, none, none]) ?_ ?_
  · refine sok_to ?_
    (repeat (first | (with_reducible refine eok_c ?_) | ((with_reducible refine eok_varX ?_); refine ⟨_, rfl, ?_⟩) | ((with_reducible refine eok_obsX ?_); refine ⟨_, _, rfl, ?_⟩) | (with_reducible refine eok_bin ?_) | (with_reducible refine eok_un ?_) | (with_reducible refine eok_not ?_) | (with_reducible refine eok_and ?_) | (with_reducible refine eok_or ?_) | (with_reducible refine eok_if ?_) | (with_reducible refine eok_chain ?_) | (with_reducible refine iok_nil ?_) | (with_reducible refine iok_cons ?_) | (with_reducible refine eok_tup ?_) | (with_reducible refine eok_lst ?_) | (with_reducible refine eok_call ?_) | (with_reducible refine eok_B ?_) | (with_reducible refine eok_isi ?_) | (with_reducible refine eok_int ?_) | (with_reducible refine eok_sl ?_) | (with_reducible refine eok_lrg ?_) | (with_reducible refine eok_err ?_) | (with_reducible refine eok_fldE ?_) | (with_reducible refine eok_isiE ?_) | (with_reducible refine iok_seq ?_) | (with_reducible refine iok_zip ?_) | (with_reducible refine iok_enum ?_) | (with_reducible refine iok_range1 ?_) | (with_reducible refine sok_next ?_) | (with_reducible refine sok_seq ?_) | (with_reducible refine sok_set ?_) | (with_reducible refine sok_setO ?_) | (with_reducible refine sok_par ?_) | (with_reducible refine sok_to ?_) | (with_reducible refine sok_drop ?_) | (with_reducible refine sok_ret ?_) | (with_reducible refine sok_if ?_) | (refine ⟨(by show List.length _ ≤ 16777216; simp only [List.length_cons, List.length_nil]; decide), ?_⟩)))
    refine eok_make ?_
    (repeat (first | (with_reducible refine eok_c ?_) | ((with_reducible refine eok_varX ?_); refine ⟨_, rfl, ?_⟩) | ((with_reducible refine eok_obsX ?_); refine ⟨_, _, rfl, ?_⟩) | (with_reducible refine eok_bin ?_) | (with_reducible refine eok_un ?_) | (with_reducible refine eok_not ?_) | (with_reducible refine eok_and ?_) | (with_reducible refine eok_or ?_) | (with_reducible refine eok_if ?_) | (with_reducible refine eok_chain ?_) | (with_reducible refine iok_nil ?_) | (with_reducible refine iok_cons ?_) | (with_reducible refine eok_tup ?_) | (with_reducible refine eok_lst ?_) | (with_reducible refine eok_call ?_) | (with_reducible refine eok_B ?_) | (with_reducible refine eok_isi ?_) | (with_reducible refine eok_int ?_) | (with_reducible refine eok_sl ?_) | (with_reducible refine eok_lrg ?_) | (with_reducible refine eok_err ?_) | (with_reducible refine eok_fldE ?_) | (with_reducible refine eok_isiE ?_) | (with_reducible refine iok_seq ?_) | (with_reducible refine iok_zip ?_) | (with_reducible refine iok_enum ?_) | (with_reducible refine iok_range1 ?_) | (with_reducible refine sok_next ?_) | (with_reducible refine sok_seq ?_) | (with_reducible refine sok_set ?_) | (with_reducible refine sok_setO ?_) | (with_reducible refine sok_par ?_) | (with_reducible refine sok_to ?_) | (with_reducible refine sok_drop ?_) | (with_reducible refine sok_ret ?_) | (with_reducible refine sok_if ?_) | (refine ⟨(by show List.length _ ≤ 16777216; simp only [List.length_cons, List.length_nil]; decide), ?_⟩)))
    refine mkPoint ha hb ⟨_, rfl, ?_⟩
    (repeat (first | (with_reducible refine eok_c ?_) | ((with_reducible refine eok_varX ?_); refine ⟨_, rfl, ?_⟩) | ((with_reducible refine eok_obsX ?_); refine ⟨_, _, rfl, ?_⟩) | (with_reducible refine eok_bin ?_) | (with_reducible refine eok_un ?_) | (with_reducible refine eok_not ?_) | (with_reducible refine eok_and ?_) | (with_reducible refine eok_or ?_) | (with_reducible refine eok_if ?_) | (with_reducible refine eok_chain ?_) | (with_reducible refine iok_nil ?_) | (with_reducible refine iok_cons ?_) | (with_reducible refine eok_tup ?_) | (with_reducible refine eok_lst ?_) | (with_reducible refine eok_call ?_) | (with_reducible refine eok_B ?_) | (with_reducible refine eok_isi ?_) | (with_reducible refine eok_int ?_) | (with_reducible refine eok_sl ?_) | (with_reducible refine eok_lrg ?_) | (with_reducible refine eok_err ?_) | (with_reducible refine eok_fldE ?_) | (with_reducible refine eok_isiE ?_) | (with_reducible refine iok_seq ?_) | (with_reducible refine iok_zip ?_) | (with_reducible refine iok_enum ?_) | (with_reducible refine iok_range1 ?_) | (with_reducible refine sok_next ?_) | (with_reducible refine sok_seq ?_) | (with_reducible refine sok_set ?_) | (with_reducible refine sok_setO ?_) | (with_reducible refine sok_par ?_) | (with_reducible refine sok_to ?_) | (with_reducible refine sok_drop ?_) | (with_reducible refine sok_ret ?_) | (with_reducible refine sok_if ?_) | (refine ⟨(by show List.length _ ≤ 16777216; simp only [List.length_cons, List.length_nil]; decide), ?_⟩)))
    refine eok_make ?_
    (repeat (first | (with_reducible refine eok_c ?_) | ((with_reducible refine eok_varX ?_); refine ⟨_, rfl, ?_⟩) | ((with_reducible refine eok_obsX ?_); refine ⟨_, _, rfl, ?_⟩) | (with_reducible refine eok_bin ?_) | (with_reducible refine eok_un ?_) | (with_reducible refine eok_not ?_) | (with_reducible refine eok_and ?_) | (with_reducible refine eok_or ?_) | (with_reducible refine eok_if ?_) | (with_reducible refine eok_chain ?_) | (with_reducible refine iok_nil ?_) | (with_reducible refine iok_cons ?_) | (with_reducible refine eok_tup ?_) | (with_reducible refine eok_lst ?_) | (with_reducible refine eok_call ?_) | (with_reducible refine eok_B ?_) | (with_reducible refine eok_isi ?_) | (with_reducible refine eok_int ?_) | (with_reducible refine eok_sl ?_) | (with_reducible refine eok_lrg ?_) | (with_reducible refine eok_err ?_) | (with_reducible refine eok_fldE ?_) | (with_reducible refine eok_isiE ?_) | (with_reducible refine iok_seq ?_) | (with_reducible refine iok_zip ?_) | (with_reducible refine iok_enum ?_) | (with_reducible refine iok_range1 ?_) | (with_reducible refine sok_next ?_) | (with_reducible refine sok_seq ?_) | (with_reducible refine sok_set ?_) | (with_reducible refine sok_setO ?_) | (with_reducible refine sok_par ?_) | (with_reducible refine sok_to ?_) | (with_reducible refine sok_drop ?_) | (with_reducible refine sok_ret ?_) | (with_reducible refine sok_if ?_) | (refine ⟨(by show List.length _ ≤ 16777216; simp only [List.length_cons, List.length_nil]; decide), ?_⟩)))
    refine mkWhole ha hb ⟨_, rfl, ?_⟩
    (repeat (first | (with_reducible refine eok_c ?_) | ((with_reducible refine eok_varX ?_); refine ⟨_, rfl, ?_⟩) | ((with_reducible refine eok_obsX ?_); refine ⟨_, _, rfl, ?_⟩) | (with_reducible refine eok_bin ?_) | (with_reducible refine eok_un ?_) | (with_reducible refine eok_not ?_) | (with_reducible refine eok_and ?_) | (with_reducible refine eok_or ?_) | (with_reducible refine eok_if ?_) | (with_reducible refine eok_chain ?_) | (with_reducible refine iok_nil ?_) | (with_reducible refine iok_cons ?_) | (with_reducible refine eok_tup ?_) | (with_reducible refine eok_lst ?_) | (with_reducible refine eok_call ?_) | (with_reducible refine eok_B ?_) | (with_reducible refine eok_isi ?_) | (with_reducible refine eok_int ?_) | (with_reducible refine eok_sl ?_) | (with_reducible refine eok_lrg ?_) | (with_reducible refine eok_err ?_) | (with_reducible refine eok_fldE ?_) | (with_reducible refine eok_isiE ?_) | (with_reducible refine iok_seq ?_) | (with_reducible refine iok_zip ?_) | (with_reducible refine iok_enum ?_) | (with_reducible refine iok_range1 ?_) | (with_reducible refine sok_next ?_) | (with_reducible refine sok_seq ?_) | (with_reducible refine sok_set ?_) | (with_reducible refine sok_setO ?_) | (with_reducible refine sok_par ?_) | (with_reducible refine sok_to ?_) | (with_reducible refine sok_drop ?_) | (with_reducible refine sok_ret ?_) | (with_reducible refine sok_if ?_) | (refine ⟨(by show List.length _ ≤ 16777216; simp only [List.length_cons, List.length_nil]; decide), ?_⟩)))
    refine eok_make ?_
    (repeat (first | (with_reducible refine eok_c ?_) | ((with_reducible refine eok_varX ?_); refine ⟨_, rfl, ?_⟩) | ((with_reducible refine eok_obsX ?_); refine ⟨_, _, rfl, ?_⟩) | (with_reducible refine eok_bin ?_) | (with_reducible refine eok_un ?_) | (with_reducible refine eok_not ?_) | (with_reducible refine eok_and ?_) | (with_reducible refine eok_or ?_) | (with_reducible refine eok_if ?_) | (with_reducible refine eok_chain ?_) | (with_reducible refine iok_nil ?_) | (with_reducible refine iok_cons ?_) | (with_reducible refine eok_tup ?_) | (with_reducible refine eok_lst ?_) | (with_reducible refine eok_call ?_) | (with_reducible refine eok_B ?_) | (with_reducible refine eok_isi ?_) | (with_reducible refine eok_int ?_) | (with_reducible refine eok_sl ?_) | (with_reducible refine eok_lrg ?_) | (with_reducible refine eok_err ?_) | (with_reducible refine eok_fldE ?_) | (with_reducible refine eok_isiE ?_) | (with_reducible refine iok_seq ?_) | (with_reducible refine iok_zip ?_) | (with_reducible refine iok_enum ?_) | (with_reducible refine iok_range1 ?_) | (with_reducible refine sok_next ?_) | (with_reducible refine sok_seq ?_) | (with_reducible refine sok_set ?_) | (with_reducible refine sok_setO ?_) | (with_reducible refine sok_par ?_) | (with_reducible refine sok_to ?_) | (with_reducible refine sok_drop ?_) | (with_reducible refine sok_ret ?_) | (with_reducible refine sok_if ?_) | (refine ⟨(by show List.length _ ≤ 16777216; simp only [List.length_cons, List.length_nil]; decide), ?_⟩)))
    refine mkNoWhole ha hb ⟨_, rfl, ?_⟩
    (repeat (first | (with_reducible refine eok_c ?_) | ((with_reducible refine eok_varX ?_); refine ⟨_, rfl, ?_⟩) | ((with_reducible refine eok_obsX ?_); refine ⟨_, _, rfl, ?_⟩) | (with_reducible refine eok_bin ?_) | (with_reducible refine eok_un ?_) | (with_reducible refine eok_not ?_) | (with_reducible refine eok_and ?_) | (with_reducible refine eok_or ?_) | (with_reducible refine eok_if ?_) | (with_reducible refine eok_chain ?_) | (with_reducible refine iok_nil ?_) | (with_reducible refine iok_cons ?_) | (with_reducible refine eok_tup ?_) | (with_reducible refine eok_lst ?_) | (with_reducible refine eok_call ?_) | (with_reducible refine eok_B ?_) | (with_reducible refine eok_isi ?_) | (with_reducible refine eok_int ?_) | (with_reducible refine eok_sl ?_) | (with_reducible refine eok_lrg ?_) | (with_reducible refine eok_err ?_) | (with_reducible refine eok_fldE ?_) | (with_reducible refine eok_isiE ?_) | (with_reducible refine iok_seq ?_) | (with_reducible refine iok_zip ?_) | (with_reducible refine iok_enum ?_) | (with_reducible refine iok_range1 ?_) | (with_reducible refine sok_next ?_) | (with_reducible refine sok_seq ?_) | (with_reducible refine sok_set ?_) | (with_reducible refine sok_setO ?_) | (with_reducible refine sok_par ?_) | (with_reducible refine sok_to ?_) | (with_reducible refine sok_drop ?_) | (with_reducible refine sok_ret ?_) | (with_reducible refine sok_if ?_) | (refine ⟨(by show List.length _ ≤ 16777216; simp only [List.length_cons, List.length_nil]; decide), ?_⟩)))
    refine eok_make ?_
    (repeat (first | (with_reducible refine eok_c ?_) | ((with_reducible refine eok_varX ?_); refine ⟨_, rfl, ?_⟩) | ((with_reducible refine eok_obsX ?_); refine ⟨_, _, rfl, ?_⟩) | (with_reducible refine eok_bin ?_) | (with_reducible refine eok_un ?_) | (with_reducible refine eok_not ?_) | (with_reducible refine eok_and ?_) | (with_reducible refine eok_or ?_) | (with_reducible refine eok_if ?_) | (with_reducible refine eok_chain ?_) | (with_reducible refine iok_nil ?_) | (with_reducible refine iok_cons ?_) | (with_reducible refine eok_tup ?_) | (with_reducible refine eok_lst ?_) | (with_reducible refine eok_call ?_) | (with_reducible refine eok_B ?_) | (with_reducible refine eok_isi ?_) | (with_reducible refine eok_int ?_) | (with_reducible refine eok_sl ?_) | (with_reducible refine eok_lrg ?_) | (with_reducible refine eok_err ?_) | (with_reducible refine eok_fldE ?_) | (with_reducible refine eok_isiE ?_) | (with_reducible refine iok_seq ?_) | (with_reducible refine iok_zip ?_) | (with_reducible refine iok_enum ?_) | (with_reducible refine iok_range1 ?_) | (with_reducible refine sok_next ?_) | (with_reducible refine sok_seq ?_) | (with_reducible refine sok_set ?_) | (with_reducible refine sok_setO ?_) | (with_reducible refine sok_par ?_) | (with_reducible refine sok_to ?_) | (with_reducible refine sok_drop ?_) | (with_reducible refine sok_ret ?_) | (with_reducible refine sok_if ?_) | (refine ⟨(by show List.length _ ≤ 16777216; simp only [List.length_cons, List.length_nil]; decide), ?_⟩)))
    refine mkEndless ha hb ⟨_, rfl, ?_⟩
    (repeat (first | (with_reducible refine eok_c ?_) | ((with_reducible refine eok_varX ?_); refine ⟨_, rfl, ?_⟩) | ((with_reducible refine eok_obsX ?_); refine ⟨_, _, rfl, ?_⟩) | (with_reducible refine eok_bin ?_) | (with_reducible refine eok_un ?_) | (with_reducible refine eok_not ?_) | (with_reducible refine eok_and ?_) | (with_reducible refine eok_or ?_) | (with_reducible refine eok_if ?_) | (with_reducible refine eok_chain ?_) | (with_reducible refine iok_nil ?_) | (with_reducible refine iok_cons ?_) | (with_reducible refine eok_tup ?_) | (with_reducible refine eok_lst ?_) | (with_reducible refine eok_call ?_) | (with_reducible refine eok_B ?_) | (with_reducible refine eok_isi ?_) | (with_reducible refine eok_int ?_) | (with_reducible refine eok_sl ?_) | (with_reducible refine eok_lrg ?_) | (with_reducible refine eok_err ?_) | (with_reducible refine eok_fldE ?_) | (with_reducible refine eok_isiE ?_) | (with_reducible refine iok_seq ?_) | (with_reducible refine iok_zip ?_) | (with_reducible refine iok_enum ?_) | (with_reducible refine iok_range1 ?_) | (with_reducible refine sok_next ?_) | (with_reducible refine sok_seq ?_) | (with_reducible refine sok_set ?_) | (with_reducible refine sok_setO ?_) | (with_reducible refine sok_par ?_) | (with_reducible refine sok_to ?_) | (with_reducible refine sok_drop ?_) | (with_reducible refine sok_ret ?_) | (with_reducible refine sok_if ?_) | (refine ⟨(by show List.length _ ≤ 16777216; simp only [List.length_cons, List.length_nil]; decide), ?_⟩)))
    exact ⟨_, rfl, rfl⟩
  rintro _ rfl
  refine sok_cut (fun r => r = [pl a', pl b', pl c', pl (.obj "Point" [("tops", fz a), ("bottom", fz b)]), pl (.obj "Whole" [("numbers", fz a), ("steps", fz b)]), pl (.obj "NoWhole" [("weights", fz a), ("divisor", fz b)]), pl (.obj "Endless" [("numbers", fz a), ("run", fz b)]), pl (.lst ((RO (fz a) (fz b) (fz c)).take 4)), none, none, none, none]) ?_ ?_
  · (repeat (first | (with_reducible refine eok_c ?_) | ((with_reducible refine eok_varX ?_); refine ⟨_, rfl, ?_⟩) | ((with_reducible refine eok_obsX ?_); refine ⟨_, _, rfl, ?_⟩) | (with_reducible refine eok_bin ?_) | (with_reducible refine eok_un ?_) | (with_reducible refine eok_not ?_) | (with_reducible refine eok_and ?_) | (with_reducible refine eok_or ?_) | (with_reducible refine eok_if ?_) | (with_reducible refine eok_chain ?_) | (with_reducible refine iok_nil ?_) | (with_reducible refine iok_cons ?_) | (with_reducible refine eok_tup ?_) | (with_reducible refine eok_lst ?_) | (with_reducible refine eok_call ?_) | (with_reducible refine eok_B ?_) | (with_reducible refine eok_isi ?_) | (with_reducible refine eok_int ?_) | (with_reducible refine eok_sl ?_) | (with_reducible refine eok_lrg ?_) | (with_reducible refine eok_err ?_) | (with_reducible refine eok_fldE ?_) | (with_reducible refine eok_isiE ?_) | (with_reducible refine iok_seq ?_) | (with_reducible refine iok_zip ?_) | (with_reducible refine iok_enum ?_) | (with_reducible refine iok_range1 ?_) | (with_reducible refine sok_next ?_) | (with_reducible refine sok_seq ?_) | (with_reducible refine sok_set ?_) | (with_reducible refine sok_setO ?_) | (with_reducible refine sok_par ?_) | (with_reducible refine sok_to ?_) | (with_reducible refine sok_drop ?_) | (with_reducible refine sok_ret ?_) | (with_reducible refine sok_if ?_) | (refine ⟨(by show List.length _ ≤ 16777216; simp only [List.length_cons, List.length_nil]; decide), ?_⟩)))
    repeat (first | (first | (with_reducible refine eok_c ?_) | ((with_reducible refine eok_varX ?_); refine ⟨_, rfl, ?_⟩) | ((with_reducible refine eok_obsX ?_); refine ⟨_, _, rfl, ?_⟩) | (with_reducible refine eok_bin ?_) | (with_reducible refine eok_un ?_) | (with_reducible refine eok_not ?_) | (with_reducible refine eok_and ?_) | (with_reducible refine eok_or ?_) | (with_reducible refine eok_if ?_) | (with_reducible refine eok_chain ?_) | (with_reducible refine iok_nil ?_) | (with_reducible refine iok_cons ?_) | (with_reducible refine eok_tup ?_) | (with_reducible refine eok_lst ?_) | (with_reducible refine eok_call ?_) | (with_reducible refine eok_B ?_) | (with_reducible refine eok_isi ?_) | (with_reducible refine eok_int ?_) | (with_reducible refine eok_sl ?_) | (with_reducible refine eok_lrg ?_) | (with_reducible refine eok_err ?_) | (with_reducible refine eok_fldE ?_) | (with_reducible refine eok_isiE ?_) | (with_reducible refine iok_seq ?_) | (with_reducible refine iok_zip ?_) | (with_reducible refine iok_enum ?_) | (with_reducible refine iok_range1 ?_) | (with_reducible refine sok_next ?_) | (with_reducible refine sok_seq ?_) | (with_reducible refine sok_set ?_) | (with_reducible refine sok_setO ?_) | (with_reducible refine sok_par ?_) | (with_reducible refine sok_to ?_) | (with_reducible refine sok_drop ?_) | (with_reducible refine sok_ret ?_) | (with_reducible refine sok_if ?_) | (refine ⟨(by show List.length _ ≤ 16777216; simp only [List.length_cons, List.length_nil]; decide), ?_⟩)) | (refine eok_fldO ?_; (first | (with_reducible refine eok_c ?_) | ((with_reducible refine eok_varX ?_); refine ⟨_, rfl, ?_⟩) | ((with_reducible refine eok_obsX ?_); refine ⟨_, _, rfl, ?_⟩) | (with_reducible refine eok_bin ?_) | (with_reducible refine eok_un ?_) | (with_reducible refine eok_not ?_) | (with_reducible refine eok_and ?_) | (with_reducible refine eok_or ?_) | (with_reducible refine eok_if ?_) | (with_reducible refine eok_chain ?_) | (with_reducible refine iok_nil ?_) | (with_reducible refine iok_cons ?_) | (with_reducible refine eok_tup ?_) | (with_reducible refine eok_lst ?_) | (with_reducible refine eok_call ?_) | (with_reducible refine eok_B ?_) | (with_reducible refine eok_isi ?_) | (with_reducible refine eok_int ?_) | (with_reducible refine eok_sl ?_) | (with_reducible refine eok_lrg ?_) | (with_reducible refine eok_err ?_) | (with_reducible refine eok_fldE ?_) | (with_reducible refine eok_isiE ?_) | (with_reducible refine iok_seq ?_) | (with_reducible refine iok_zip ?_) | (with_reducible refine iok_enum ?_) | (with_reducible refine iok_range1 ?_) | (with_reducible refine sok_next ?_) | (with_reducible refine sok_seq ?_) | (with_reducible refine sok_set ?_) | (with_reducible refine sok_setO ?_) | (with_reducible refine sok_par ?_) | (with_reducible refine sok_to ?_) | (with_reducible refine sok_drop ?_) | (with_reducible refine sok_ret ?_) | (with_reducible refine sok_if ?_) | (refine ⟨(by show List.length _ ≤ 16777216; simp only [List.length_cons, List.length_nil]; decide), ?_⟩)); refine ⟨_, _, rfl, rfl, ?_⟩) | refine ⟨by decide, ?_⟩)
    rfl
  rintro _ rfl
  refine sok_cut (fun r => r = [pl a', pl b', pl c', pl (.obj "Point" [("tops", fz a), ("bottom", fz b)]), pl (.obj "Whole" [("numbers", fz a), ("steps", fz b)]), pl (.obj "NoWhole" [("weights", fz a), ("divisor", fz b)]), pl (.obj "Endless" [("numbers", fz a), ("run", fz b)]), pl (.lst ((RO (fz a) (fz b) (fz c)).take 4)),
    pl (.obj "Numbers" [("numbers", fz a)]), pl (.obj "Barred" [("tree", fz a)]), pl (.obj "NoPoint" [("weights", fz a)]), pl (.obj "Least" [("number", fz a), ("numbers", fz b), ("tree", fz c)])]) ?_ ?_
  · refine sok_to ?_
    (repeat (first | (with_reducible refine eok_c ?_) | ((with_reducible refine eok_varX ?_); refine ⟨_, rfl, ?_⟩) | ((with_reducible refine eok_obsX ?_); refine ⟨_, _, rfl, ?_⟩) | (with_reducible refine eok_bin ?_) | (with_reducible refine eok_un ?_) | (with_reducible refine eok_not ?_) | (with_reducible refine eok_and ?_) | (with_reducible refine eok_or ?_) | (with_reducible refine eok_if ?_) | (with_reducible refine eok_chain ?_) | (with_reducible refine iok_nil ?_) | (with_reducible refine iok_cons ?_) | (with_reducible refine eok_tup ?_) | (with_reducible refine eok_lst ?_) | (with_reducible refine eok_call ?_) | (with_reducible refine eok_B ?_) | (with_reducible refine eok_isi ?_) | (with_reducible refine eok_int ?_) | (with_reducible refine eok_sl ?_) | (with_reducible refine eok_lrg ?_) | (with_reducible refine eok_err ?_) | (with_reducible refine eok_fldE ?_) | (with_reducible refine eok_isiE ?_) | (with_reducible refine iok_seq ?_) | (with_reducible refine iok_zip ?_) | (with_reducible refine iok_enum ?_) | (with_reducible refine iok_range1 ?_) | (with_reducible refine sok_next ?_) | (with_reducible refine sok_seq ?_) | (with_reducible refine sok_set ?_) | (with_reducible refine sok_setO ?_) | (with_reducible refine sok_par ?_) | (with_reducible refine sok_to ?_) | (with_reducible refine sok_drop ?_) | (with_reducible refine sok_ret ?_) | (with_reducible refine sok_if ?_) | (refine ⟨(by show List.length _ ≤ 16777216; simp only [List.length_cons, List.length_nil]; decide), ?_⟩)))
    refine eok_make ?_
    (repeat (first | (with_reducible refine eok_c ?_) | ((with_reducible refine eok_varX ?_); refine ⟨_, rfl, ?_⟩) | ((with_reducible refine eok_obsX ?_); refine ⟨_, _, rfl, ?_⟩) | (with_reducible refine eok_bin ?_) | (with_reducible refine eok_un ?_) | (with_reducible refine eok_not ?_) | (with_reducible refine eok_and ?_) | (with_reducible refine eok_or ?_) | (with_reducible refine eok_if ?_) | (with_reducible refine eok_chain ?_) | (with_reducible refine iok_nil ?_) | (with_reducible refine iok_cons ?_) | (with_reducible refine eok_tup ?_) | (with_reducible refine eok_lst ?_) | (with_reducible refine eok_call ?_) | (with_reducible refine eok_B ?_) | (with_reducible refine eok_isi ?_) | (with_reducible refine eok_int ?_) | (with_reducible refine eok_sl ?_) | (with_reducible refine eok_lrg ?_) | (with_reducible refine eok_err ?_) | (with_reducible refine eok_fldE ?_) | (with_reducible refine eok_isiE ?_) | (with_reducible refine iok_seq ?_) | (with_reducible refine iok_zip ?_) | (with_reducible refine iok_enum ?_) | (with_reducible refine iok_range1 ?_) | (with_reducible refine sok_next ?_) | (with_reducible refine sok_seq ?_) | (with_reducible refine sok_set ?_) | (with_reducible refine sok_setO ?_) | (with_reducible refine sok_par ?_) | (with_reducible refine sok_to ?_) | (with_reducible refine sok_drop ?_) | (with_reducible refine sok_ret ?_) | (with_reducible refine sok_if ?_) | (refine ⟨(by show List.length _ ≤ 16777216; simp only [List.length_cons, List.length_nil]; decide), ?_⟩)))
    refine mkNumbers ha ⟨_, rfl, ?_⟩
    (repeat (first | (with_reducible refine eok_c ?_) | ((with_reducible refine eok_varX ?_); refine ⟨_, rfl, ?_⟩) | ((with_reducible refine eok_obsX ?_); refine ⟨_, _, rfl, ?_⟩) | (with_reducible refine eok_bin ?_) | (with_reducible refine eok_un ?_) | (with_reducible refine eok_not ?_) | (with_reducible refine eok_and ?_) | (with_reducible refine eok_or ?_) | (with_reducible refine eok_if ?_) | (with_reducible refine eok_chain ?_) | (with_reducible refine iok_nil ?_) | (with_reducible refine iok_cons ?_) | (with_reducible refine eok_tup ?_) | (with_reducible refine eok_lst ?_) | (with_reducible refine eok_call ?_) | (with_reducible refine eok_B ?_) | (with_reducible refine eok_isi ?_) | (with_reducible refine eok_int ?_) | (with_reducible refine eok_sl ?_) | (with_reducible refine eok_lrg ?_) | (with_reducible refine eok_err ?_) | (with_reducible refine eok_fldE ?_) | (with_reducible refine eok_isiE ?_) | (with_reducible refine iok_seq ?_) | (with_reducible refine iok_zip ?_) | (with_reducible refine iok_enum ?_) | (with_reducible refine iok_range1 ?_) | (with_reducible refine sok_next ?_) | (with_reducible refine sok_seq ?_) | (with_reducible refine sok_set ?_) | (with_reducible refine sok_setO ?_) | (with_reducible refine sok_par ?_) | (with_reducible refine sok_to ?_) | (with_reducible refine sok_drop ?_) | (with_reducible refine sok_ret ?_) | (with_reducible refine sok_if ?_) | (refine ⟨(by show List.length _ ≤ 16777216; simp only [List.length_cons, List.length_nil]; decide), ?_⟩)))
    refine eok_make ?_
    (repeat (first | (with_reducible refine eok_c ?_) | ((with_reducible refine eok_varX ?_); refine ⟨_, rfl, ?_⟩) | ((with_reducible refine eok_obsX ?_); refine ⟨_, _, rfl, ?_⟩) | (with_reducible refine eok_bin ?_) | (with_reducible refine eok_un ?_) | (with_reducible refine eok_not ?_) | (with_reducible refine eok_and ?_) | (with_reducible refine eok_or ?_) | (with_reducible refine eok_if ?_) | (with_reducible refine eok_chain ?_) | (with_reducible refine iok_nil ?_) | (with_reducible refine iok_cons ?_) | (with_reducible refine eok_tup ?_) | (with_reducible refine eok_lst ?_) | (with_reducible refine eok_call ?_) | (with_reducible refine eok_B ?_) | (with_reducible refine eok_isi ?_) | (with_reducible refine eok_int ?_) | (with_reducible refine eok_sl ?_) | (with_reducible refine eok_lrg ?_) | (with_reducible refine eok_err ?_) | (with_reducible refine eok_fldE ?_) | (with_reducible refine eok_isiE ?_) | (with_reducible refine iok_seq ?_) | (with_reducible refine iok_zip ?_) | (with_reducible refine iok_enum ?_) | (with_reducible refine iok_range1 ?_) | (with_reducible refine sok_next ?_) | (with_reducible refine sok_seq ?_) | (with_reducible refine sok_set ?_) | (with_reducible refine sok_setO ?_) | (with_reducible refine sok_par ?_) | (with_reducible refine sok_to ?_) | (with_reducible refine sok_drop ?_) | (with_reducible refine sok_ret ?_) | (with_reducible refine sok_if ?_) | (refine ⟨(by show List.length _ ≤ 16777216; simp only [List.length_cons, List.length_nil]; decide), ?_⟩)))
    refine mkBarred ha ⟨_, rfl, ?_⟩
    (repeat (first | (with_reducible refine eok_c ?_) | ((with_reducible refine eok_varX ?_); refine ⟨_, rfl, ?_⟩) | ((with_reducible refine eok_obsX ?_); refine ⟨_, _, rfl, ?_⟩) | (with_reducible refine eok_bin ?_) | (with_reducible refine eok_un ?_) | (with_reducible refine eok_not ?_) | (with_reducible refine eok_and ?_) | (with_reducible refine eok_or ?_) | (with_reducible refine eok_if ?_) | (with_reducible refine eok_chain ?_) | (with_reducible refine iok_nil ?_) | (with_reducible refine iok_cons ?_) | (with_reducible refine eok_tup ?_) | (with_reducible refine eok_lst ?_) | (with_reducible refine eok_call ?_) | (with_reducible refine eok_B ?_) | (with_reducible refine eok_isi ?_) | (with_reducible refine eok_int ?_) | (with_reducible refine eok_sl ?_) | (with_reducible refine eok_lrg ?_) | (with_reducible refine eok_err ?_) | (with_reducible refine eok_fldE ?_) | (with_reducible refine eok_isiE ?_) | (with_reducible refine iok_seq ?_) | (with_reducible refine iok_zip ?_) | (with_reducible refine iok_enum ?_) | (with_reducible refine iok_range1 ?_) | (with_reducible refine sok_next ?_) | (with_reducible refine sok_seq ?_) | (with_reducible refine sok_set ?_) | (with_reducible refine sok_setO ?_) | (with_reducible refine sok_par ?_) | (with_reducible refine sok_to ?_) | (with_reducible refine sok_drop ?_) | (with_reducible refine sok_ret ?_) | (with_reducible refine sok_if ?_) | (refine ⟨(by show List.length _ ≤ 16777216; simp only [List.length_cons, List.length_nil]; decide), ?_⟩)))
    refine eok_make ?_
    (repeat (first | (with_reducible refine eok_c ?_) | ((with_reducible refine eok_varX ?_); refine ⟨_, rfl, ?_⟩) | ((with_reducible refine eok_obsX ?_); refine ⟨_, _, rfl, ?_⟩) | (with_reducible refine eok_bin ?_) | (with_reducible refine eok_un ?_) | (with_reducible refine eok_not ?_) | (with_reducible refine eok_and ?_) | (with_reducible refine eok_or ?_) | (with_reducible refine eok_if ?_) | (with_reducible refine eok_chain ?_) | (with_reducible refine iok_nil ?_) | (with_reducible refine iok_cons ?_) | (with_reducible refine eok_tup ?_) | (with_reducible refine eok_lst ?_) | (with_reducible refine eok_call ?_) | (with_reducible refine eok_B ?_) | (with_reducible refine eok_isi ?_) | (with_reducible refine eok_int ?_) | (with_reducible refine eok_sl ?_) | (with_reducible refine eok_lrg ?_) | (with_reducible refine eok_err ?_) | (with_reducible refine eok_fldE ?_) | (with_reducible refine eok_isiE ?_) | (with_reducible refine iok_seq ?_) | (with_reducible refine iok_zip ?_) | (with_reducible refine iok_enum ?_) | (with_reducible refine iok_range1 ?_) | (with_reducible refine sok_next ?_) | (with_reducible refine sok_seq ?_) | (with_reducible refine sok_set ?_) | (with_reducible refine sok_setO ?_) | (with_reducible refine sok_par ?_) | (with_reducible refine sok_to ?_) | (with_reducible refine sok_drop ?_) | (with_reducible refine sok_ret ?_) | (with_reducible refine sok_if ?_) | (refine ⟨(by show List.length _ ≤ 16777216; simp only [List.length_cons, List.length_nil]; decide), ?_⟩)))
    refine mkNoPoint ha ⟨_, rfl, ?_⟩
    (repeat (first | (with_reducible refine eok_c ?_) | ((with_reducible refine eok_varX ?_); refine ⟨_, rfl, ?_⟩) | ((with_reducible refine eok_obsX ?_); refine ⟨_, _, rfl, ?_⟩) | (with_reducible refine eok_bin ?_) | (with_reducible refine eok_un ?_) | (with_reducible refine eok_not ?_) | (with_reducible refine eok_and ?_) | (with_reducible refine eok_or ?_) | (with_reducible refine eok_if ?_) | (with_reducible refine eok_chain ?_) | (with_reducible refine iok_nil ?_) | (with_reducible refine iok_cons ?_) | (with_reducible refine eok_tup ?_) | (with_reducible refine eok_lst ?_) | (with_reducible refine eok_call ?_) | (with_reducible refine eok_B ?_) | (with_reducible refine eok_isi ?_) | (with_reducible refine eok_int ?_) | (with_reducible refine eok_sl ?_) | (with_reducible refine eok_lrg ?_) | (with_reducible refine eok_err ?_) | (with_reducible refine eok_fldE ?_) | (with_reducible refine eok_isiE ?_) | (with_reducible refine iok_seq ?_) | (with_reducible refine iok_zip ?_) | (with_reducible refine iok_enum ?_) | (with_reducible refine iok_range1 ?_) | (with_reducible refine sok_next ?_) | (with_reducible refine sok_seq ?_) | (with_reducible refine sok_set ?_) | (with_reducible refine sok_setO ?_) | (with_reducible refine sok_par ?_) | (with_reducible refine sok_to ?_) | (with_reducible refine sok_drop ?_) | (with_reducible refine sok_ret ?_) | (with_reducible refine sok_if ?_) | (refine ⟨(by show List.length _ ≤ 16777216; simp only [List.length_cons, List.length_nil]; decide), ?_⟩)))
    refine eok_make ?_
    (repeat (first | (with_reducible refine eok_c ?_) | ((with_reducible refine eok_varX ?_); refine ⟨_, rfl, ?_⟩) | ((with_reducible refine eok_obsX ?_); refine ⟨_, _, rfl, ?_⟩) | (with_reducible refine eok_bin ?_) | (with_reducible refine eok_un ?_) | (with_reducible refine eok_not ?_) | (with_reducible refine eok_and ?_) | (with_reducible refine eok_or ?_) | (with_reducible refine eok_if ?_) | (with_reducible refine eok_chain ?_) | (with_reducible refine iok_nil ?_) | (with_reducible refine iok_cons ?_) | (with_reducible refine eok_tup ?_) | (with_reducible refine eok_lst ?_) | (with_reducible refine eok_call ?_) | (with_reducible refine eok_B ?_) | (with_reducible refine eok_isi ?_) | (with_reducible refine eok_int ?_) | (with_reducible refine eok_sl ?_) | (with_reducible refine eok_lrg ?_) | (with_reducible refine eok_err ?_) | (with_reducible refine eok_fldE ?_) | (with_reducible refine eok_isiE ?_) | (with_reducible refine iok_seq ?_) | (with_reducible refine iok_zip ?_) | (with_reducible refine iok_enum ?_) | (with_reducible refine iok_range1 ?_) | (with_reducible refine sok_next ?_) | (with_reducible refine sok_seq ?_) | (with_reducible refine sok_set ?_) | (with_reducible refine sok_setO ?_) | (with_reducible refine sok_par ?_) | (with_reducible refine sok_to ?_) | (with_reducible refine sok_drop ?_) | (with_reducible refine sok_ret ?_) | (with_reducible refine sok_if ?_) | (refine ⟨(by show List.length _ ≤ 16777216; simp only [List.length_cons, List.length_nil]; decide), ?_⟩)))
    refine mkLeast ha hb hc ⟨_, rfl, ?_⟩
    (repeat (first | (with_reducible refine eok_c ?_) | ((with_reducible refine eok_varX ?_); refine ⟨_, rfl, ?_⟩) | ((with_reducible refine eok_obsX ?_); refine ⟨_, _, rfl, ?_⟩) | (with_reducible refine eok_bin ?_) | (with_reducible refine eok_un ?_) | (with_reducible refine eok_not ?_) | (with_reducible refine eok_and ?_) | (with_reducible refine eok_or ?_) | (with_reducible refine eok_if ?_) | (with_reducible refine eok_chain ?_) | (with_reducible refine iok_nil ?_) | (with_reducible refine iok_cons ?_) | (with_reducible refine eok_tup ?_) | (with_reducible refine eok_lst ?_) | (with_reducible refine eok_call ?_) | (with_reducible refine eok_B ?_) | (with_reducible refine eok_isi ?_) | (with_reducible refine eok_int ?_) | (with_reducible refine eok_sl ?_) | (with_reducible refine eok_lrg ?_) | (with_reducible refine eok_err ?_) | (with_reducible refine eok_fldE ?_) | (with_reducible refine eok_isiE ?_) | (with_reducible refine iok_seq ?_) | (with_reducible refine iok_zip ?_) | (with_reducible refine iok_enum ?_) | (with_reducible refine iok_range1 ?_) | (with_reducible refine sok_next ?_) | (with_reducible refine sok_seq ?_) | (with_reducible refine sok_set ?_) | (with_reducible refine sok_setO ?_) | (with_reducible refine sok_par ?_) | (with_reducible refine sok_to ?_) | (with_reducible refine sok_drop ?_) | (with_reducible refine sok_ret ?_) | (with_reducible refine sok_if ?_) | (refine ⟨(by show List.length _ ≤ 16777216; simp only [List.length_cons, List.length_nil]; decide), ?_⟩)))
    exact ⟨_, rfl, rfl⟩
  rintro _ rfl
  refine sok_cut (fun r => r = [pl a', pl b', pl c', pl (.obj "Point" [("tops", fz a), ("bottom", fz b)]), pl (.obj "Whole" [("numbers", fz a), ("steps", fz b)]), pl (.obj "NoWhole" [("weights", fz a), ("divisor", fz b)]), pl (.obj "Endless" [("numbers", fz a), ("run", fz b)]), pl (.lst (RO (fz a) (fz b) (fz c))),
    pl (.obj "Numbers" [("numbers", fz a)]), pl (.obj "Barred" [("tree", fz a)]), pl (.obj "NoPoint" [("weights", fz a)]), pl (.obj "Least" [("number", fz a), ("numbers", fz b), ("tree", fz c)])]) ?_ ?_
  · (repeat (first | (with_reducible refine eok_c ?_) | ((with_reducible refine eok_varX ?_); refine ⟨_, rfl, ?_⟩) | ((with_reducible refine eok_obsX ?_); refine ⟨_, _, rfl, ?_⟩) | (with_reducible refine eok_bin ?_) | (with_reducible refine eok_un ?_) | (with_reducible refine eok_not ?_) | (with_reducible refine eok_and ?_) | (with_reducible refine eok_or ?_) | (with_reducible refine eok_if ?_) | (with_reducible refine eok_chain ?_) | (with_reducible refine iok_nil ?_) | (with_reducible refine iok_cons ?_) | (with_reducible refine eok_tup ?_) | (with_reducible refine eok_lst ?_) | (with_reducible refine eok_call ?_) | (with_reducible refine eok_B ?_) | (with_reducible refine eok_isi ?_) | (with_reducible refine eok_int ?_) | (with_reducible refine eok_sl ?_) | (with_reducible refine eok_lrg ?_) | (with_reducible refine eok_err ?_) | (with_reducible refine eok_fldE ?_) | (with_reducible refine eok_isiE ?_) | (with_reducible refine iok_seq ?_) | (with_reducible refine iok_zip ?_) | (with_reducible refine iok_enum ?_) | (with_reducible refine iok_range1 ?_) | (with_reducible refine sok_next ?_) | (with_reducible refine sok_seq ?_) | (with_reducible refine sok_set ?_) | (with_reducible refine sok_setO ?_) | (with_reducible refine sok_par ?_) | (with_reducible refine sok_to ?_) | (with_reducible refine sok_drop ?_) | (with_reducible refine sok_ret ?_) | (with_reducible refine sok_if ?_) | (refine ⟨(by show List.length _ ≤ 16777216; simp only [List.length_cons, List.length_nil]; decide), ?_⟩)))
    repeat (first | (first | (with_reducible refine eok_c ?_) | ((with_reducible refine eok_varX ?_); refine ⟨_, rfl, ?_⟩) | ((with_reducible refine eok_obsX ?_); refine ⟨_, _, rfl, ?_⟩) | (with_reducible refine eok_bin ?_) | (with_reducible refine eok_un ?_) | (with_reducible refine eok_not ?_) | (with_reducible refine eok_and ?_) | (with_reducible refine eok_or ?_) | (with_reducible refine eok_if ?_) | (with_reducible refine eok_chain ?_) | (with_reducible refine iok_nil ?_) | (with_reducible refine iok_cons ?_) | (with_reducible refine eok_tup ?_) | (with_reducible refine eok_lst ?_) | (with_reducible refine eok_call ?_) | (with_reducible refine eok_B ?_) | (with_reducible refine eok_isi ?_) | (with_reducible refine eok_int ?_) | (with_reducible refine eok_sl ?_) | (with_reducible refine eok_lrg ?_) | (with_reducible refine eok_err ?_) | (with_reducible refine eok_fldE ?_) | (with_reducible refine eok_isiE ?_) | (with_reducible refine iok_seq ?_) | (with_reducible refine iok_zip ?_) | (with_reducible refine iok_enum ?_) | (with_reducible refine iok_range1 ?_) | (with_reducible refine sok_next ?_) | (with_reducible refine sok_seq ?_) | (with_reducible refine sok_set ?_) | (with_reducible refine sok_setO ?_) | (with_reducible refine sok_par ?_) | (with_reducible refine sok_to ?_) | (with_reducible refine sok_drop ?_) | (with_reducible refine sok_ret ?_) | (with_reducible refine sok_if ?_) | (refine ⟨(by show List.length _ ≤ 16777216; simp only [List.length_cons, List.length_nil]; decide), ?_⟩)) | (refine eok_fldO ?_; (first | (with_reducible refine eok_c ?_) | ((with_reducible refine eok_varX ?_); refine ⟨_, rfl, ?_⟩) | ((with_reducible refine eok_obsX ?_); refine ⟨_, _, rfl, ?_⟩) | (with_reducible refine eok_bin ?_) | (with_reducible refine eok_un ?_) | (with_reducible refine eok_not ?_) | (with_reducible refine eok_and ?_) | (with_reducible refine eok_or ?_) | (with_reducible refine eok_if ?_) | (with_reducible refine eok_chain ?_) | (with_reducible refine iok_nil ?_) | (with_reducible refine iok_cons ?_) | (with_reducible refine eok_tup ?_) | (with_reducible refine eok_lst ?_) | (with_reducible refine eok_call ?_) | (with_reducible refine eok_B ?_) | (with_reducible refine eok_isi ?_) | (with_reducible refine eok_int ?_) | (with_reducible refine eok_sl ?_) | (with_reducible refine eok_lrg ?_) | (with_reducible refine eok_err ?_) | (with_reducible refine eok_fldE ?_) | (with_reducible refine eok_isiE ?_) | (with_reducible refine iok_seq ?_) | (with_reducible refine iok_zip ?_) | (with_reducible refine iok_enum ?_) | (with_reducible refine iok_range1 ?_) | (with_reducible refine sok_next ?_) | (with_reducible refine sok_seq ?_) | (with_reducible refine sok_set ?_) | (with_reducible refine sok_setO ?_) | (with_reducible refine sok_par ?_) | (with_reducible refine sok_to ?_) | (with_reducible refine sok_drop ?_) | (with_reducible refine sok_ret ?_) | (with_reducible refine sok_if ?_) | (refine ⟨(by show List.length _ ≤ 16777216; simp only [List.length_cons, List.length_nil]; decide), ?_⟩)); refine ⟨_, _, rfl, rfl, ?_⟩) | refine ⟨by decide, ?_⟩)
    exact ⟨_, plus_l (by show 4 + 4 ≤ 16777216; decide), rfl⟩
  rintro _ rfl
  (repeat (first | (with_reducible refine eok_c ?_) | ((with_reducible refine eok_varX ?_); refine ⟨_, rfl, ?_⟩) | ((with_reducible refine eok_obsX ?_); refine ⟨_, _, rfl, ?_⟩) | (with_reducible refine eok_bin ?_) | (with_reducible refine eok_un ?_) | (with_reducible refine eok_not ?_) | (with_reducible refine eok_and ?_) | (with_reducible refine eok_or ?_) | (with_reducible refine eok_if ?_) | (with_reducible refine eok_chain ?_) | (with_reducible refine iok_nil ?_) | (with_reducible refine iok_cons ?_) | (with_reducible refine eok_tup ?_) | (with_reducible refine eok_lst ?_) | (with_reducible refine eok_call ?_) | (with_reducible refine eok_B ?_) | (with_reducible refine eok_isi ?_) | (with_reducible refine eok_int ?_) | (with_reducible refine eok_sl ?_) | (with_reducible refine eok_lrg ?_) | (with_reducible refine eok_err ?_) | (with_reducible refine eok_fldE ?_) | (with_reducible refine eok_isiE ?_) | (with_reducible refine iok_seq ?_) | (with_reducible refine iok_zip ?_) | (with_reducible refine iok_enum ?_) | (with_reducible refine iok_range1 ?_) | (with_reducible refine sok_next ?_) | (with_reducible refine sok_seq ?_) | (with_reducible refine sok_set ?_) | (with_reducible refine sok_setO ?_) | (with_reducible refine sok_par ?_) | (with_reducible refine sok_to ?_) | (with_reducible refine sok_drop ?_) | (with_reducible refine sok_ret ?_) | (with_reducible refine sok_if ?_) | (refine ⟨(by show List.length _ ≤ 16777216; simp only [List.length_cons, List.length_nil]; decide), ?_⟩)))
  exact q
end
end L_k12

set_option Elab.async false
set_option linter.all false
set_option maxRecDepth 100000
set_option maxHeartbeats 1000000
namespace L_k12
open PySem PySem.SeqAt PySem.Spec PyProof.Rows L2 DL
/-! ### == of flat data -/
theorem pls_all {l : List D} (h : ∀ d ∈ l, d.pl = true) : D.pls l = true := pls_of h
theorem fl_pl {d : D} (h : Fl d) : d.pl = true := by
  induction h with
  | non => rfl
  | bl b => rfl
  | int i => rfl
  | str x => rfl
  | tup _ ih => exact pls_of ih
theorem depthAll_le {n : Nat} : ∀ {l : List D}, (∀ d ∈ l, d.py.depth ≤ n) → PyData.depthAll (D.pys l) ≤ n
  | [], _ => Nat.zero_le _
  | d :: l, h => Nat.max_le.mpr ⟨h d List.mem_cons_self, depthAll_le fun x hx => h x (List.mem_cons_of_mem _ hx)⟩
theorem trd_depth {L n : Nat} {d : D} (h : TrD L n d) : d.py.depth ≤ n := by
  induction h with
  | non => exact Nat.zero_le _
  | bl b => exact Nat.zero_le _
  | int i => exact Nat.zero_le _
  | str x => exact Nat.zero_le _
  | tup _ _ ih => exact Nat.succ_le_succ (depthAll_le ih)
  | lst _ _ ih => exact Nat.succ_le_succ (depthAll_le ih)
def ev (a b : D) : Bool := PyData.eqv a.py b.py
theorem eqD_f {a b : D} (ha : Fl a) (hb : Fl b) (h : a.py.depth ≤ 64) : eqD a b = some (.bl (ev a b)) := by
  unfold eqD
  rw [if_pos]
  · rfl
  · unfold eqOk
    rw [fl_pl ha, fl_pl hb]
    simp
    omega
theorem ev_refl {a : D} (ha : Fl a) : ev a a = true := eqv_self a (fl_pl ha)
mutual
theorem eqv_depth : ∀ (a b : PyData), PyData.eqv a b = true → a.depth = b.depth
  | .none, b, h => by cases b <;> first | rfl | (simp [PyData.eqv] at h)
  | .bool _, b, h => by cases b <;> first | rfl | (simp [PyData.eqv] at h)
  | .int _, b, h => by cases b <;> first | rfl | (simp [PyData.eqv] at h)
  | .str _, b, h => by cases b <;> first | rfl | (simp [PyData.eqv] at h)
  | .list xs, b, h => by
    cases b <;> first | (simp only [PyData.eqv] at h; exact congrArg (· + 1) (eqvAll_depth xs _ h)) | (simp [PyData.eqv] at h)
  | .tuple xs, b, h => by
    cases b <;> first | (simp only [PyData.eqv] at h; exact congrArg (· + 1) (eqvAll_depth xs _ h)) | (simp [PyData.eqv] at h)
  | .dict xs, b, h => by cases b <;> simp [PyData.eqv] at h
theorem eqvAll_depth : ∀ (a b : List PyData), PyData.eqvAll a b = true → PyData.depthAll a = PyData.depthAll b
  | [], [], _ => rfl
  | [], _ :: _, h => by simp [PyData.eqvAll] at h
  | _ :: _, [], h => by simp [PyData.eqvAll] at h
  | x :: xs, y :: ys, h => by
    simp only [PyData.eqvAll, Bool.and_eq_true] at h
    show max _ _ = max _ _
    rw [eqv_depth x y h.1, eqvAll_depth xs ys h.2]
end
/-- a tuple around it is another -/
theorem ev_bent (x : D) : ev x (.tup [.str "other", x]) = false := by
  cases h : ev x (.tup [.str "other", x]) with
  | false => rfl
  | true =>
    have := eqv_depth _ _ h
    have e : (D.tup [.str "other", x]).py.depth = max 0 (max x.py.depth 0) + 1 := rfl
    rw [e] at this
    omega
/-! ### the rules -/
theorem eok_isO {ns : List Str} {n : Str} {fe : EM} {r : DL.Env} {Q : D → Prop} (h : EOk fe r fun d => tyKn ns d = true ∧ Q (.bl (decide (d.clsOf = some n)))) : EOk (dIsO ns n fe) r Q := fun w => by
  obtain ⟨d, w1, e1, h1, q⟩ := h w
  exact ⟨_, w1, by unfold dIsO isoD; rw [bind_ok e1, if_pos h1]; rfl, q⟩
theorem eok_eqM {T : EqT} {ns : List Str} {neg : Bool} {fa fb : EM} {r : DL.Env} {Q : D → Prop} (h : EOk fa r fun x => EOk fb r fun y => ∃ n fds F, x = .obj n fds ∧ T.lookup n = some F ∧ tyKn ns y = true ∧ FOk F [x, y] fun d => ∃ c, d = .bl c ∧ Q (.bl (c != neg))) : EOk (dEqM T ns neg fa fb) r Q := fun w => by
  obtain ⟨x, w1, e1, h⟩ := h w
  obtain ⟨y, w2, e2, n, fds, F, rfl, e3, e4, h⟩ := h w1
  obtain ⟨d, w3, e5, c, rfl, q⟩ := h w2
  exact ⟨_, w3, by unfold dEqM eqMr; rw [bind_ok e1, bind_ok e2]; simp only; rw [e3]; simp only; rw [if_pos e4, e5], q⟩
/-! ### __eq__ -/
/-- of no own class, or of another -/
structure Oth (n : Str) (o : D) : Prop where
  t : tyKn ONS o = true
  c : o.clsOf ≠ some n
abbrev sEq2 (n f g : Str) : SM := sRet (dAnd (dIsO ONS n (dVar 1)) (dAnd (dBin eqD (dFldO n f (dObs 0)) (dFldO n f (dObs 1))) (dBin eqD (dFldO n g (dObs 0)) (dFldO n g (dObs 1)))))
abbrev sEq1 (n f : Str) : SM := sRet (dAnd (dIsO ONS n (dVar 1)) (dBin eqD (dFldO n f (dObs 0)) (dFldO n f (dObs 1))))
structure Gd (x : D) : Prop where
  f : Fl x
  d : x.py.depth ≤ 10
section
variable {n f g : Str} {x y z x' y' z' o : D} {fs : List (Str × D)} {Q : D → Prop}
theorem eq2_o (h : Oth n o) (q : Q (.bl false)) : FOk (runD 2 (sEq2 n f g)) [.obj n fs, o] Q := by
  refine fok_run ?_
  (repeat (first | (with_reducible refine eok_c ?_) | ((with_reducible refine eok_varX ?_); refine ⟨_, rfl, ?_⟩) | ((with_reducible refine eok_obsX ?_); refine ⟨_, _, rfl, ?_⟩) | (with_reducible refine eok_bin ?_) | (with_reducible refine eok_un ?_) | (with_reducible refine eok_not ?_) | (with_reducible refine eok_and ?_) | (with_reducible refine eok_or ?_) | (with_reducible refine eok_if ?_) | (with_reducible refine eok_chain ?_) | (with_reducible refine iok_nil ?_) | (with_reducible refine iok_cons ?_) | (with_reducible refine eok_tup ?_) | (with_reducible refine eok_lst ?_) | (with_reducible refine eok_call ?_) | (with_reducible refine eok_B ?_) | (with_reducible refine eok_isi ?_) | (with_reducible refine eok_int ?_) | (with_reducible refine eok_sl ?_) | (with_reducible refine eok_lrg ?_) | (with_reducible refine eok_err ?_) | (with_reducible refine eok_fldE ?_) | (with_reducible refine eok_isiE ?_) | (with_reducible refine iok_seq ?_) | (with_reducible refine iok_zip ?_) | (with_reducible refine iok_enum ?_) | (with_reducible refine iok_range1 ?_) | (with_reducible refine sok_next ?_) | (with_reducible refine sok_seq ?_) | (with_reducible refine sok_set ?_) | (with_reducible refine sok_setO ?_) | (with_reducible refine sok_par ?_) | (with_reducible refine sok_to ?_) | (with_reducible refine sok_drop ?_) | (with_reducible refine sok_ret ?_) | (with_reducible refine sok_if ?_) | (refine ⟨(by show List.length _ ≤ 16777216; simp only [List.length_cons, List.length_nil]; decide), ?_⟩)))
  refine eok_isO ?_
  (repeat (first | (with_reducible refine eok_c ?_) | ((with_reducible refine eok_varX ?_); refine ⟨_, rfl, ?_⟩) | ((with_reducible refine eok_obsX ?_); refine ⟨_, _, rfl, ?_⟩) | (with_reducible refine eok_bin ?_) | (with_reducible refine eok_un ?_) | (with_reducible refine eok_not ?_) | (with_reducible refine eok_and ?_) | (with_reducible refine eok_or ?_) | (with_reducible refine eok_if ?_) | (with_reducible refine eok_chain ?_) | (with_reducible refine iok_nil ?_) | (with_reducible refine iok_cons ?_) | (with_reducible refine eok_tup ?_) | (with_reducible refine eok_lst ?_) | (with_reducible refine eok_call ?_) | (with_reducible refine eok_B ?_) | (with_reducible refine eok_isi ?_) | (with_reducible refine eok_int ?_) | (with_reducible refine eok_sl ?_) | (with_reducible refine eok_lrg ?_) | (with_reducible refine eok_err ?_) | (with_reducible refine eok_fldE ?_) | (with_reducible refine eok_isiE ?_) | (with_reducible refine iok_seq ?_) | (with_reducible refine iok_zip ?_) | (with_reducible refine iok_enum ?_) | (with_reducible refine iok_range1 ?_) | (with_reducible refine sok_next ?_) | (with_reducible refine sok_seq ?_) | (with_reducible refine sok_set ?_) | (with_reducible refine sok_setO ?_) | (with_reducible refine sok_par ?_) | (with_reducible refine sok_to ?_) | (with_reducible refine sok_drop ?_) | (with_reducible refine sok_ret ?_) | (with_reducible refine sok_if ?_) | (refine ⟨(by show List.length _ ≤ 16777216; simp only [List.length_cons, List.length_nil]; decide), ?_⟩)))
  refine ⟨h.t, _, rfl, fun z => absurd (of_decide_eq_true z) h.c, fun _ => q⟩
theorem eq1_o (h : Oth n o) (q : Q (.bl false)) : FOk (runD 2 (sEq1 n f)) [.obj n fs, o] Q := by
  refine fok_run ?_
  (repeat (first | (with_reducible refine eok_c ?_) | ((with_reducible refine eok_varX ?_); refine ⟨_, rfl, ?_⟩) | ((with_reducible refine eok_obsX ?_); refine ⟨_, _, rfl, ?_⟩) | (with_reducible refine eok_bin ?_) | (with_reducible refine eok_un ?_) | (with_reducible refine eok_not ?_) | (with_reducible refine eok_and ?_) | (with_reducible refine eok_or ?_) | (with_reducible refine eok_if ?_) | (with_reducible refine eok_chain ?_) | (with_reducible refine iok_nil ?_) | (with_reducible refine iok_cons ?_) | (with_reducible refine eok_tup ?_) | (with_reducible refine eok_lst ?_) | (with_reducible refine eok_call ?_) | (with_reducible refine eok_B ?_) | (with_reducible refine eok_isi ?_) | (with_reducible refine eok_int ?_) | (with_reducible refine eok_sl ?_) | (with_reducible refine eok_lrg ?_) | (with_reducible refine eok_err ?_) | (with_reducible refine eok_fldE ?_) | (with_reducible refine eok_isiE ?_) | (with_reducible refine iok_seq ?_) | (with_reducible refine iok_zip ?_) | (with_reducible refine iok_enum ?_) | (with_reducible refine iok_range1 ?_) | (with_reducible refine sok_next ?_) | (with_reducible refine sok_seq ?_) | (with_reducible refine sok_set ?_) | (with_reducible refine sok_setO ?_) | (with_reducible refine sok_par ?_) | (with_reducible refine sok_to ?_) | (with_reducible refine sok_drop ?_) | (with_reducible refine sok_ret ?_) | (with_reducible refine sok_if ?_) | (refine ⟨(by show List.length _ ≤ 16777216; simp only [List.length_cons, List.length_nil]; decide), ?_⟩)))
  refine eok_isO ?_
  (repeat (first | (with_reducible refine eok_c ?_) | ((with_reducible refine eok_varX ?_); refine ⟨_, rfl, ?_⟩) | ((with_reducible refine eok_obsX ?_); refine ⟨_, _, rfl, ?_⟩) | (with_reducible refine eok_bin ?_) | (with_reducible refine eok_un ?_) | (with_reducible refine eok_not ?_) | (with_reducible refine eok_and ?_) | (with_reducible refine eok_or ?_) | (with_reducible refine eok_if ?_) | (with_reducible refine eok_chain ?_) | (with_reducible refine iok_nil ?_) | (with_reducible refine iok_cons ?_) | (with_reducible refine eok_tup ?_) | (with_reducible refine eok_lst ?_) | (with_reducible refine eok_call ?_) | (with_reducible refine eok_B ?_) | (with_reducible refine eok_isi ?_) | (with_reducible refine eok_int ?_) | (with_reducible refine eok_sl ?_) | (with_reducible refine eok_lrg ?_) | (with_reducible refine eok_err ?_) | (with_reducible refine eok_fldE ?_) | (with_reducible refine eok_isiE ?_) | (with_reducible refine iok_seq ?_) | (with_reducible refine iok_zip ?_) | (with_reducible refine iok_enum ?_) | (with_reducible refine iok_range1 ?_) | (with_reducible refine sok_next ?_) | (with_reducible refine sok_seq ?_) | (with_reducible refine sok_set ?_) | (with_reducible refine sok_setO ?_) | (with_reducible refine sok_par ?_) | (with_reducible refine sok_to ?_) | (with_reducible refine sok_drop ?_) | (with_reducible refine sok_ret ?_) | (with_reducible refine sok_if ?_) | (refine ⟨(by show List.length _ ≤ 16777216; simp only [List.length_cons, List.length_nil]; decide), ?_⟩)))
  refine ⟨h.t, _, rfl, fun z => absurd (of_decide_eq_true z) h.c, fun _ => q⟩
theorem lk0 {f : Str} {x : D} {l : List (Str × D)} : ((f, x) :: l).lookup f = some x := by rw [List.lookup_cons, beq_self_eq_true]
theorem lk1 {f g : Str} {x : D} {l : List (Str × D)} (h : (g == f) = false) : ((f, x) :: l).lookup g = l.lookup g := by rw [List.lookup_cons, h]
theorem eq1_s (hn : n ∈ ONS) (hx : Gd x) (hx' : Gd x') (q : Q (.bl (ev x x'))) : FOk (runD 2 (sEq1 n f)) [.obj n [(f, x)], .obj n [(f, x')]] Q := by
  refine fok_run ?_
  (repeat (first | (with_reducible refine eok_c ?_) | ((with_reducible refine eok_varX ?_); refine ⟨_, rfl, ?_⟩) | ((with_reducible refine eok_obsX ?_); refine ⟨_, _, rfl, ?_⟩) | (with_reducible refine eok_bin ?_) | (with_reducible refine eok_un ?_) | (with_reducible refine eok_not ?_) | (with_reducible refine eok_and ?_) | (with_reducible refine eok_or ?_) | (with_reducible refine eok_if ?_) | (with_reducible refine eok_chain ?_) | (with_reducible refine iok_nil ?_) | (with_reducible refine iok_cons ?_) | (with_reducible refine eok_tup ?_) | (with_reducible refine eok_lst ?_) | (with_reducible refine eok_call ?_) | (with_reducible refine eok_B ?_) | (with_reducible refine eok_isi ?_) | (with_reducible refine eok_int ?_) | (with_reducible refine eok_sl ?_) | (with_reducible refine eok_lrg ?_) | (with_reducible refine eok_err ?_) | (with_reducible refine eok_fldE ?_) | (with_reducible refine eok_isiE ?_) | (with_reducible refine iok_seq ?_) | (with_reducible refine iok_zip ?_) | (with_reducible refine iok_enum ?_) | (with_reducible refine iok_range1 ?_) | (with_reducible refine sok_next ?_) | (with_reducible refine sok_seq ?_) | (with_reducible refine sok_set ?_) | (with_reducible refine sok_setO ?_) | (with_reducible refine sok_par ?_) | (with_reducible refine sok_to ?_) | (with_reducible refine sok_drop ?_) | (with_reducible refine sok_ret ?_) | (with_reducible refine sok_if ?_) | (refine ⟨(by show List.length _ ≤ 16777216; simp only [List.length_cons, List.length_nil]; decide), ?_⟩)))
  refine eok_isO ?_
  (repeat (first | (with_reducible refine eok_c ?_) | ((with_reducible refine eok_varX ?_); refine ⟨_, rfl, ?_⟩) | ((with_reducible refine eok_obsX ?_); refine ⟨_, _, rfl, ?_⟩) | (with_reducible refine eok_bin ?_) | (with_reducible refine eok_un ?_) | (with_reducible refine eok_not ?_) | (with_reducible refine eok_and ?_) | (with_reducible refine eok_or ?_) | (with_reducible refine eok_if ?_) | (with_reducible refine eok_chain ?_) | (with_reducible refine iok_nil ?_) | (with_reducible refine iok_cons ?_) | (with_reducible refine eok_tup ?_) | (with_reducible refine eok_lst ?_) | (with_reducible refine eok_call ?_) | (with_reducible refine eok_B ?_) | (with_reducible refine eok_isi ?_) | (with_reducible refine eok_int ?_) | (with_reducible refine eok_sl ?_) | (with_reducible refine eok_lrg ?_) | (with_reducible refine eok_err ?_) | (with_reducible refine eok_fldE ?_) | (with_reducible refine eok_isiE ?_) | (with_reducible refine iok_seq ?_) | (with_reducible refine iok_zip ?_) | (with_reducible refine iok_enum ?_) | (with_reducible refine iok_range1 ?_) | (with_reducible refine sok_next ?_) | (with_reducible refine sok_seq ?_) | (with_reducible refine sok_set ?_) | (with_reducible refine sok_setO ?_) | (with_reducible refine sok_par ?_) | (with_reducible refine sok_to ?_) | (with_reducible refine sok_drop ?_) | (with_reducible refine sok_ret ?_) | (with_reducible refine sok_if ?_) | (refine ⟨(by show List.length _ ≤ 16777216; simp only [List.length_cons, List.length_nil]; decide), ?_⟩)))
  refine ⟨decide_eq_true hn, _, rfl, fun _ => ?_, fun z => absurd z (by simp [D.clsOf])⟩
  (repeat (first | (with_reducible refine eok_c ?_) | ((with_reducible refine eok_varX ?_); refine ⟨_, rfl, ?_⟩) | ((with_reducible refine eok_obsX ?_); refine ⟨_, _, rfl, ?_⟩) | (with_reducible refine eok_bin ?_) | (with_reducible refine eok_un ?_) | (with_reducible refine eok_not ?_) | (with_reducible refine eok_and ?_) | (with_reducible refine eok_or ?_) | (with_reducible refine eok_if ?_) | (with_reducible refine eok_chain ?_) | (with_reducible refine iok_nil ?_) | (with_reducible refine iok_cons ?_) | (with_reducible refine eok_tup ?_) | (with_reducible refine eok_lst ?_) | (with_reducible refine eok_call ?_) | (with_reducible refine eok_B ?_) | (with_reducible refine eok_isi ?_) | (with_reducible refine eok_int ?_) | (with_reducible refine eok_sl ?_) | (with_reducible refine eok_lrg ?_) | (with_reducible refine eok_err ?_) | (with_reducible refine eok_fldE ?_) | (with_reducible refine eok_isiE ?_) | (with_reducible refine iok_seq ?_) | (with_reducible refine iok_zip ?_) | (with_reducible refine iok_enum ?_) | (with_reducible refine iok_range1 ?_) | (with_reducible refine sok_next ?_) | (with_reducible refine sok_seq ?_) | (with_reducible refine sok_set ?_) | (with_reducible refine sok_setO ?_) | (with_reducible refine sok_par ?_) | (with_reducible refine sok_to ?_) | (with_reducible refine sok_drop ?_) | (with_reducible refine sok_ret ?_) | (with_reducible refine sok_if ?_) | (refine ⟨(by show List.length _ ≤ 16777216; simp only [List.length_cons, List.length_nil]; decide), ?_⟩)))
  refine eok_fldO ?_
  (repeat (first | (with_reducible refine eok_c ?_) | ((with_reducible refine eok_varX ?_); refine ⟨_, rfl, ?_⟩) | ((with_reducible refine eok_obsX ?_); refine ⟨_, _, rfl, ?_⟩) | (with_reducible refine eok_bin ?_) | (with_reducible refine eok_un ?_) | (with_reducible refine eok_not ?_) | (with_reducible refine eok_and ?_) | (with_reducible refine eok_or ?_) | (with_reducible refine eok_if ?_) | (with_reducible refine eok_chain ?_) | (with_reducible refine iok_nil ?_) | (with_reducible refine iok_cons ?_) | (with_reducible refine eok_tup ?_) | (with_reducible refine eok_lst ?_) | (with_reducible refine eok_call ?_) | (with_reducible refine eok_B ?_) | (with_reducible refine eok_isi ?_) | (with_reducible refine eok_int ?_) | (with_reducible refine eok_sl ?_) | (with_reducible refine eok_lrg ?_) | (with_reducible refine eok_err ?_) | (with_reducible refine eok_fldE ?_) | (with_reducible refine eok_isiE ?_) | (with_reducible refine iok_seq ?_) | (with_reducible refine iok_zip ?_) | (with_reducible refine iok_enum ?_) | (with_reducible refine iok_range1 ?_) | (with_reducible refine sok_next ?_) | (with_reducible refine sok_seq ?_) | (with_reducible refine sok_set ?_) | (with_reducible refine sok_setO ?_) | (with_reducible refine sok_par ?_) | (with_reducible refine sok_to ?_) | (with_reducible refine sok_drop ?_) | (with_reducible refine sok_ret ?_) | (with_reducible refine sok_if ?_) | (refine ⟨(by show List.length _ ≤ 16777216; simp only [List.length_cons, List.length_nil]; decide), ?_⟩)))
  refine ⟨_, _, rfl, lk0, ?_⟩
  (repeat (first | (with_reducible refine eok_c ?_) | ((with_reducible refine eok_varX ?_); refine ⟨_, rfl, ?_⟩) | ((with_reducible refine eok_obsX ?_); refine ⟨_, _, rfl, ?_⟩) | (with_reducible refine eok_bin ?_) | (with_reducible refine eok_un ?_) | (with_reducible refine eok_not ?_) | (with_reducible refine eok_and ?_) | (with_reducible refine eok_or ?_) | (with_reducible refine eok_if ?_) | (with_reducible refine eok_chain ?_) | (with_reducible refine iok_nil ?_) | (with_reducible refine iok_cons ?_) | (with_reducible refine eok_tup ?_) | (with_reducible refine eok_lst ?_) | (with_reducible refine eok_call ?_) | (with_reducible refine eok_B ?_) | (with_reducible refine eok_isi ?_) | (with_reducible refine eok_int ?_) | (with_reducible refine eok_sl ?_) | (with_reducible refine eok_lrg ?_) | (with_reducible refine eok_err ?_) | (with_reducible refine eok_fldE ?_) | (with_reducible refine eok_isiE ?_) | (with_reducible refine iok_seq ?_) | (with_reducible refine iok_zip ?_) | (with_reducible refine iok_enum ?_) | (with_reducible refine iok_range1 ?_) | (with_reducible refine sok_next ?_) | (with_reducible refine sok_seq ?_) | (with_reducible refine sok_set ?_) | (with_reducible refine sok_setO ?_) | (with_reducible refine sok_par ?_) | (with_reducible refine sok_to ?_) | (with_reducible refine sok_drop ?_) | (with_reducible refine sok_ret ?_) | (with_reducible refine sok_if ?_) | (refine ⟨(by show List.length _ ≤ 16777216; simp only [List.length_cons, List.length_nil]; decide), ?_⟩)))
  refine eok_fldO ?_
  (repeat (first | (with_reducible refine eok_c ?_) | ((with_reducible refine eok_varX ?_); refine ⟨_, rfl, ?_⟩) | ((with_reducible refine eok_obsX ?_); refine ⟨_, _, rfl, ?_⟩) | (with_reducible refine eok_bin ?_) | (with_reducible refine eok_un ?_) | (with_reducible refine eok_not ?_) | (with_reducible refine eok_and ?_) | (with_reducible refine eok_or ?_) | (with_reducible refine eok_if ?_) | (with_reducible refine eok_chain ?_) | (with_reducible refine iok_nil ?_) | (with_reducible refine iok_cons ?_) | (with_reducible refine eok_tup ?_) | (with_reducible refine eok_lst ?_) | (with_reducible refine eok_call ?_) | (with_reducible refine eok_B ?_) | (with_reducible refine eok_isi ?_) | (with_reducible refine eok_int ?_) | (with_reducible refine eok_sl ?_) | (with_reducible refine eok_lrg ?_) | (with_reducible refine eok_err ?_) | (with_reducible refine eok_fldE ?_) | (with_reducible refine eok_isiE ?_) | (with_reducible refine iok_seq ?_) | (with_reducible refine iok_zip ?_) | (with_reducible refine iok_enum ?_) | (with_reducible refine iok_range1 ?_) | (with_reducible refine sok_next ?_) | (with_reducible refine sok_seq ?_) | (with_reducible refine sok_set ?_) | (with_reducible refine sok_setO ?_) | (with_reducible refine sok_par ?_) | (with_reducible refine sok_to ?_) | (with_reducible refine sok_drop ?_) | (with_reducible refine sok_ret ?_) | (with_reducible refine sok_if ?_) | (refine ⟨(by show List.length _ ≤ 16777216; simp only [List.length_cons, List.length_nil]; decide), ?_⟩)))
  exact ⟨_, _, rfl, lk0, _, eqD_f hx.f hx'.f (Nat.le_trans hx.d (by decide)), q⟩
theorem eq2_s (hn : n ∈ ONS) (hfg : (g == f) = false) (hx : Gd x) (hx' : Gd x') (hy : Gd y) (hy' : Gd y') (q : Q (.bl (ev x x' && ev y y'))) : FOk (runD 2 (sEq2 n f g)) [.obj n [(f, x), (g, y)], .obj n [(f, x'), (g, y')]] Q := by
  refine fok_run ?_
  (repeat (first | (with_reducible refine eok_c ?_) | ((with_reducible refine eok_varX ?_); refine ⟨_, rfl, ?_⟩) | ((with_reducible refine eok_obsX ?_); refine ⟨_, _, rfl, ?_⟩) | (with_reducible refine eok_bin ?_) | (with_reducible refine eok_un ?_) | (with_reducible refine eok_not ?_) | (with_reducible refine eok_and ?_) | (with_reducible refine eok_or ?_) | (with_reducible refine eok_if ?_) | (with_reducible refine eok_chain ?_) | (with_reducible refine iok_nil ?_) | (with_reducible refine iok_cons ?_) | (with_reducible refine eok_tup ?_) | (with_reducible refine eok_lst ?_) | (with_reducible refine eok_call ?_) | (with_reducible refine eok_B ?_) | (with_reducible refine eok_isi ?_) | (with_reducible refine eok_int ?_) | (with_reducible refine eok_sl ?_) | (with_reducible refine eok_lrg ?_) | (with_reducible refine eok_err ?_) | (with_reducible refine eok_fldE ?_) | (with_reducible refine eok_isiE ?_) | (with_reducible refine iok_seq ?_) | (with_reducible refine iok_zip ?_) | (with_reducible refine iok_enum ?_) | (with_reducible refine iok_range1 ?_) | (with_reducible refine sok_next ?_) | (with_reducible refine sok_seq ?_) | (with_reducible refine sok_set ?_) | (with_reducible refine sok_setO ?_) | (with_reducible refine sok_par ?_) | (with_reducible refine sok_to ?_) | (with_reducible refine sok_drop ?_) | (with_reducible refine sok_ret ?_) | (with_reducible refine sok_if ?_) | (refine ⟨(by show List.length _ ≤ 16777216; simp only [List.length_cons, List.length_nil]; decide), ?_⟩)))
  refine eok_isO ?_
  (repeat (first | (with_reducible refine eok_c ?_) | ((with_reducible refine eok_varX ?_); refine ⟨_, rfl, ?_⟩) | ((with_reducible refine eok_obsX ?_); refine ⟨_, _, rfl, ?_⟩) | (with_reducible refine eok_bin ?_) | (with_reducible refine eok_un ?_) | (with_reducible refine eok_not ?_) | (with_reducible refine eok_and ?_) | (with_reducible refine eok_or ?_) | (with_reducible refine eok_if ?_) | (with_reducible refine eok_chain ?_) | (with_reducible refine iok_nil ?_) | (with_reducible refine iok_cons ?_) | (with_reducible refine eok_tup ?_) | (with_reducible refine eok_lst ?_) | (with_reducible refine eok_call ?_) | (with_reducible refine eok_B ?_) | (with_reducible refine eok_isi ?_) | (with_reducible refine eok_int ?_) | (with_reducible refine eok_sl ?_) | (with_reducible refine eok_lrg ?_) | (with_reducible refine eok_err ?_) | (with_reducible refine eok_fldE ?_) | (with_reducible refine eok_isiE ?_) | (with_reducible refine iok_seq ?_) | (with_reducible refine iok_zip ?_) | (with_reducible refine iok_enum ?_) | (with_reducible refine iok_range1 ?_) | (with_reducible refine sok_next ?_) | (with_reducible refine sok_seq ?_) | (with_reducible refine sok_set ?_) | (with_reducible refine sok_setO ?_) | (with_reducible refine sok_par ?_) | (with_reducible refine sok_to ?_) | (with_reducible refine sok_drop ?_) | (with_reducible refine sok_ret ?_) | (with_reducible refine sok_if ?_) | (refine ⟨(by show List.length _ ≤ 16777216; simp only [List.length_cons, List.length_nil]; decide), ?_⟩)))
  refine ⟨decide_eq_true hn, _, rfl, fun _ => ?_, fun z => absurd z (by simp [D.clsOf])⟩
  (repeat (first | (with_reducible refine eok_c ?_) | ((with_reducible refine eok_varX ?_); refine ⟨_, rfl, ?_⟩) | ((with_reducible refine eok_obsX ?_); refine ⟨_, _, rfl, ?_⟩) | (with_reducible refine eok_bin ?_) | (with_reducible refine eok_un ?_) | (with_reducible refine eok_not ?_) | (with_reducible refine eok_and ?_) | (with_reducible refine eok_or ?_) | (with_reducible refine eok_if ?_) | (with_reducible refine eok_chain ?_) | (with_reducible refine iok_nil ?_) | (with_reducible refine iok_cons ?_) | (with_reducible refine eok_tup ?_) | (with_reducible refine eok_lst ?_) | (with_reducible refine eok_call ?_) | (with_reducible refine eok_B ?_) | (with_reducible refine eok_isi ?_) | (with_reducible refine eok_int ?_) | (with_reducible refine eok_sl ?_) | (with_reducible refine eok_lrg ?_) | (with_reducible refine eok_err ?_) | (with_reducible refine eok_fldE ?_) | (with_reducible refine eok_isiE ?_) | (with_reducible refine iok_seq ?_) | (with_reducible refine iok_zip ?_) | (with_reducible refine iok_enum ?_) | (with_reducible refine iok_range1 ?_) | (with_reducible refine sok_next ?_) | (with_reducible refine sok_seq ?_) | (with_reducible refine sok_set ?_) | (with_reducible refine sok_setO ?_) | (with_reducible refine sok_par ?_) | (with_reducible refine sok_to ?_) | (with_reducible refine sok_drop ?_) | (with_reducible refine sok_ret ?_) | (with_reducible refine sok_if ?_) | (refine ⟨(by show List.length _ ≤ 16777216; simp only [List.length_cons, List.length_nil]; decide), ?_⟩)))
  refine eok_fldO ?_
  (repeat (first | (with_reducible refine eok_c ?_) | ((with_reducible refine eok_varX ?_); refine ⟨_, rfl, ?_⟩) | ((with_reducible refine eok_obsX ?_); refine ⟨_, _, rfl, ?_⟩) | (with_reducible refine eok_bin ?_) | (with_reducible refine eok_un ?_) | (with_reducible refine eok_not ?_) | (with_reducible refine eok_and ?_) | (with_reducible refine eok_or ?_) | (with_reducible refine eok_if ?_) | (with_reducible refine eok_chain ?_) | (with_reducible refine iok_nil ?_) | (with_reducible refine iok_cons ?_) | (with_reducible refine eok_tup ?_) | (with_reducible refine eok_lst ?_) | (with_reducible refine eok_call ?_) | (with_reducible refine eok_B ?_) | (with_reducible refine eok_isi ?_) | (with_reducible refine eok_int ?_) | (with_reducible refine eok_sl ?_) | (with_reducible refine eok_lrg ?_) | (with_reducible refine eok_err ?_) | (with_reducible refine eok_fldE ?_) | (with_reducible refine eok_isiE ?_) | (with_reducible refine iok_seq ?_) | (with_reducible refine iok_zip ?_) | (with_reducible refine iok_enum ?_) | (with_reducible refine iok_range1 ?_) | (with_reducible refine sok_next ?_) | (with_reducible refine sok_seq ?_) | (with_reducible refine sok_set ?_) | (with_reducible refine sok_setO ?_) | (with_reducible refine sok_par ?_) | (with_reducible refine sok_to ?_) | (with_reducible refine sok_drop ?_) | (with_reducible refine sok_ret ?_) | (with_reducible refine sok_if ?_) | (refine ⟨(by show List.length _ ≤ 16777216; simp only [List.length_cons, List.length_nil]; decide), ?_⟩)))
  refine ⟨_, _, rfl, lk0, ?_⟩
  (repeat (first | (with_reducible refine eok_c ?_) | ((with_reducible refine eok_varX ?_); refine ⟨_, rfl, ?_⟩) | ((with_reducible refine eok_obsX ?_); refine ⟨_, _, rfl, ?_⟩) | (with_reducible refine eok_bin ?_) | (with_reducible refine eok_un ?_) | (with_reducible refine eok_not ?_) | (with_reducible refine eok_and ?_) | (with_reducible refine eok_or ?_) | (with_reducible refine eok_if ?_) | (with_reducible refine eok_chain ?_) | (with_reducible refine iok_nil ?_) | (with_reducible refine iok_cons ?_) | (with_reducible refine eok_tup ?_) | (with_reducible refine eok_lst ?_) | (with_reducible refine eok_call ?_) | (with_reducible refine eok_B ?_) | (with_reducible refine eok_isi ?_) | (with_reducible refine eok_int ?_) | (with_reducible refine eok_sl ?_) | (with_reducible refine eok_lrg ?_) | (with_reducible refine eok_err ?_) | (with_reducible refine eok_fldE ?_) | (with_reducible refine eok_isiE ?_) | (with_reducible refine iok_seq ?_) | (with_reducible refine iok_zip ?_) | (with_reducible refine iok_enum ?_) | (with_reducible refine iok_range1 ?_) | (with_reducible refine sok_next ?_) | (with_reducible refine sok_seq ?_) | (with_reducible refine sok_set ?_) | (with_reducible refine sok_setO ?_) | (with_reducible refine sok_par ?_) | (with_reducible refine sok_to ?_) | (with_reducible refine sok_drop ?_) | (with_reducible refine sok_ret ?_) | (with_reducible refine sok_if ?_) | (refine ⟨(by show List.length _ ≤ 16777216; simp only [List.length_cons, List.length_nil]; decide), ?_⟩)))
  refine eok_fldO ?_
  (repeat (first | (with_reducible refine eok_c ?_) | ((with_reducible refine eok_varX ?_); refine ⟨_, rfl, ?_⟩) | ((with_reducible refine eok_obsX ?_); refine ⟨_, _, rfl, ?_⟩) | (with_reducible refine eok_bin ?_) | (with_reducible refine eok_un ?_) | (with_reducible refine eok_not ?_) | (with_reducible refine eok_and ?_) | (with_reducible refine eok_or ?_) | (with_reducible refine eok_if ?_) | (with_reducible refine eok_chain ?_) | (with_reducible refine iok_nil ?_) | (with_reducible refine iok_cons ?_) | (with_reducible refine eok_tup ?_) | (with_reducible refine eok_lst ?_) | (with_reducible refine eok_call ?_) | (with_reducible refine eok_B ?_) | (with_reducible refine eok_isi ?_) | (with_reducible refine eok_int ?_) | (with_reducible refine eok_sl ?_) | (with_reducible refine eok_lrg ?_) | (with_reducible refine eok_err ?_) | (with_reducible refine eok_fldE ?_) | (with_reducible refine eok_isiE ?_) | (with_reducible refine iok_seq ?_) | (with_reducible refine iok_zip ?_) | (with_reducible refine iok_enum ?_) | (with_reducible refine iok_range1 ?_) | (with_reducible refine sok_next ?_) | (with_reducible refine sok_seq ?_) | (with_reducible refine sok_set ?_) | (with_reducible refine sok_setO ?_) | (with_reducible refine sok_par ?_) | (with_reducible refine sok_to ?_) | (with_reducible refine sok_drop ?_) | (with_reducible refine sok_ret ?_) | (with_reducible refine sok_if ?_) | (refine ⟨(by show List.length _ ≤ 16777216; simp only [List.length_cons, List.length_nil]; decide), ?_⟩)))
  refine ⟨_, _, rfl, lk0, _, eqD_f hx.f hx'.f (Nat.le_trans hx.d (by decide)), _, rfl, fun e => ?_, fun e => by rw [e] at q; exact q⟩
  (repeat (first | (with_reducible refine eok_c ?_) | ((with_reducible refine eok_varX ?_); refine ⟨_, rfl, ?_⟩) | ((with_reducible refine eok_obsX ?_); refine ⟨_, _, rfl, ?_⟩) | (with_reducible refine eok_bin ?_) | (with_reducible refine eok_un ?_) | (with_reducible refine eok_not ?_) | (with_reducible refine eok_and ?_) | (with_reducible refine eok_or ?_) | (with_reducible refine eok_if ?_) | (with_reducible refine eok_chain ?_) | (with_reducible refine iok_nil ?_) | (with_reducible refine iok_cons ?_) | (with_reducible refine eok_tup ?_) | (with_reducible refine eok_lst ?_) | (with_reducible refine eok_call ?_) | (with_reducible refine eok_B ?_) | (with_reducible refine eok_isi ?_) | (with_reducible refine eok_int ?_) | (with_reducible refine eok_sl ?_) | (with_reducible refine eok_lrg ?_) | (with_reducible refine eok_err ?_) | (with_reducible refine eok_fldE ?_) | (with_reducible refine eok_isiE ?_) | (with_reducible refine iok_seq ?_) | (with_reducible refine iok_zip ?_) | (with_reducible refine iok_enum ?_) | (with_reducible refine iok_range1 ?_) | (with_reducible refine sok_next ?_) | (with_reducible refine sok_seq ?_) | (with_reducible refine sok_set ?_) | (with_reducible refine sok_setO ?_) | (with_reducible refine sok_par ?_) | (with_reducible refine sok_to ?_) | (with_reducible refine sok_drop ?_) | (with_reducible refine sok_ret ?_) | (with_reducible refine sok_if ?_) | (refine ⟨(by show List.length _ ≤ 16777216; simp only [List.length_cons, List.length_nil]; decide), ?_⟩)))
  refine eok_fldO ?_
  (repeat (first | (with_reducible refine eok_c ?_) | ((with_reducible refine eok_varX ?_); refine ⟨_, rfl, ?_⟩) | ((with_reducible refine eok_obsX ?_); refine ⟨_, _, rfl, ?_⟩) | (with_reducible refine eok_bin ?_) | (with_reducible refine eok_un ?_) | (with_reducible refine eok_not ?_) | (with_reducible refine eok_and ?_) | (with_reducible refine eok_or ?_) | (with_reducible refine eok_if ?_) | (with_reducible refine eok_chain ?_) | (with_reducible refine iok_nil ?_) | (with_reducible refine iok_cons ?_) | (with_reducible refine eok_tup ?_) | (with_reducible refine eok_lst ?_) | (with_reducible refine eok_call ?_) | (with_reducible refine eok_B ?_) | (with_reducible refine eok_isi ?_) | (with_reducible refine eok_int ?_) | (with_reducible refine eok_sl ?_) | (with_reducible refine eok_lrg ?_) | (with_reducible refine eok_err ?_) | (with_reducible refine eok_fldE ?_) | (with_reducible refine eok_isiE ?_) | (with_reducible refine iok_seq ?_) | (with_reducible refine iok_zip ?_) | (with_reducible refine iok_enum ?_) | (with_reducible refine iok_range1 ?_) | (with_reducible refine sok_next ?_) | (with_reducible refine sok_seq ?_) | (with_reducible refine sok_set ?_) | (with_reducible refine sok_setO ?_) | (with_reducible refine sok_par ?_) | (with_reducible refine sok_to ?_) | (with_reducible refine sok_drop ?_) | (with_reducible refine sok_ret ?_) | (with_reducible refine sok_if ?_) | (refine ⟨(by show List.length _ ≤ 16777216; simp only [List.length_cons, List.length_nil]; decide), ?_⟩)))
  refine ⟨_, _, rfl, (lk1 hfg).trans lk0, ?_⟩
  (repeat (first | (with_reducible refine eok_c ?_) | ((with_reducible refine eok_varX ?_); refine ⟨_, rfl, ?_⟩) | ((with_reducible refine eok_obsX ?_); refine ⟨_, _, rfl, ?_⟩) | (with_reducible refine eok_bin ?_) | (with_reducible refine eok_un ?_) | (with_reducible refine eok_not ?_) | (with_reducible refine eok_and ?_) | (with_reducible refine eok_or ?_) | (with_reducible refine eok_if ?_) | (with_reducible refine eok_chain ?_) | (with_reducible refine iok_nil ?_) | (with_reducible refine iok_cons ?_) | (with_reducible refine eok_tup ?_) | (with_reducible refine eok_lst ?_) | (with_reducible refine eok_call ?_) | (with_reducible refine eok_B ?_) | (with_reducible refine eok_isi ?_) | (with_reducible refine eok_int ?_) | (with_reducible refine eok_sl ?_) | (with_reducible refine eok_lrg ?_) | (with_reducible refine eok_err ?_) | (with_reducible refine eok_fldE ?_) | (with_reducible refine eok_isiE ?_) | (with_reducible refine iok_seq ?_) | (with_reducible refine iok_zip ?_) | (with_reducible refine iok_enum ?_) | (with_reducible refine iok_range1 ?_) | (with_reducible refine sok_next ?_) | (with_reducible refine sok_seq ?_) | (with_reducible refine sok_set ?_) | (with_reducible refine sok_setO ?_) | (with_reducible refine sok_par ?_) | (with_reducible refine sok_to ?_) | (with_reducible refine sok_drop ?_) | (with_reducible refine sok_ret ?_) | (with_reducible refine sok_if ?_) | (refine ⟨(by show List.length _ ≤ 16777216; simp only [List.length_cons, List.length_nil]; decide), ?_⟩)))
  refine eok_fldO ?_
  (repeat (first | (with_reducible refine eok_c ?_) | ((with_reducible refine eok_varX ?_); refine ⟨_, rfl, ?_⟩) | ((with_reducible refine eok_obsX ?_); refine ⟨_, _, rfl, ?_⟩) | (with_reducible refine eok_bin ?_) | (with_reducible refine eok_un ?_) | (with_reducible refine eok_not ?_) | (with_reducible refine eok_and ?_) | (with_reducible refine eok_or ?_) | (with_reducible refine eok_if ?_) | (with_reducible refine eok_chain ?_) | (with_reducible refine iok_nil ?_) | (with_reducible refine iok_cons ?_) | (with_reducible refine eok_tup ?_) | (with_reducible refine eok_lst ?_) | (with_reducible refine eok_call ?_) | (with_reducible refine eok_B ?_) | (with_reducible refine eok_isi ?_) | (with_reducible refine eok_int ?_) | (with_reducible refine eok_sl ?_) | (with_reducible refine eok_lrg ?_) | (with_reducible refine eok_err ?_) | (with_reducible refine eok_fldE ?_) | (with_reducible refine eok_isiE ?_) | (with_reducible refine iok_seq ?_) | (with_reducible refine iok_zip ?_) | (with_reducible refine iok_enum ?_) | (with_reducible refine iok_range1 ?_) | (with_reducible refine sok_next ?_) | (with_reducible refine sok_seq ?_) | (with_reducible refine sok_set ?_) | (with_reducible refine sok_setO ?_) | (with_reducible refine sok_par ?_) | (with_reducible refine sok_to ?_) | (with_reducible refine sok_drop ?_) | (with_reducible refine sok_ret ?_) | (with_reducible refine sok_if ?_) | (refine ⟨(by show List.length _ ≤ 16777216; simp only [List.length_cons, List.length_nil]; decide), ?_⟩)))
  exact ⟨_, _, rfl, (lk1 hfg).trans lk0, _, eqD_f hy.f hy'.f (Nat.le_trans hy.d (by decide)), by rw [e] at q; exact q⟩
theorem least_o (h : Oth "Least" o) (q : Q (.bl false)) : FOk F_Least___eq__ [.obj "Least" fs, o] Q := by
  refine fok_run ?_
  unfold g_Least___eq__
  (repeat (first | (with_reducible refine eok_c ?_) | ((with_reducible refine eok_varX ?_); refine ⟨_, rfl, ?_⟩) | ((with_reducible refine eok_obsX ?_); refine ⟨_, _, rfl, ?_⟩) | (with_reducible refine eok_bin ?_) | (with_reducible refine eok_un ?_) | (with_reducible refine eok_not ?_) | (with_reducible refine eok_and ?_) | (with_reducible refine eok_or ?_) | (with_reducible refine eok_if ?_) | (with_reducible refine eok_chain ?_) | (with_reducible refine iok_nil ?_) | (with_reducible refine iok_cons ?_) | (with_reducible refine eok_tup ?_) | (with_reducible refine eok_lst ?_) | (with_reducible refine eok_call ?_) | (with_reducible refine eok_B ?_) | (with_reducible refine eok_isi ?_) | (with_reducible refine eok_int ?_) | (with_reducible refine eok_sl ?_) | (with_reducible refine eok_lrg ?_) | (with_reducible refine eok_err ?_) | (with_reducible refine eok_fldE ?_) | (with_reducible refine eok_isiE ?_) | (with_reducible refine iok_seq ?_) | (with_reducible refine iok_zip ?_) | (with_reducible refine iok_enum ?_) | (with_reducible refine iok_range1 ?_) | (with_reducible refine sok_next ?_) | (with_reducible refine sok_seq ?_) | (with_reducible refine sok_set ?_) | (with_reducible refine sok_setO ?_) | (with_reducible refine sok_par ?_) | (with_reducible refine sok_to ?_) | (with_reducible refine sok_drop ?_) | (with_reducible refine sok_ret ?_) | (with_reducible refine sok_if ?_) | (refine ⟨(by show List.length _ ≤ 16777216; simp only [List.length_cons, List.length_nil]; decide), ?_⟩)))
  refine eok_isO ?_
  (repeat (first | (with_reducible refine eok_c ?_) | ((with_reducible refine eok_varX ?_); refine ⟨_, rfl, ?_⟩) | ((with_reducible refine eok_obsX ?_); refine ⟨_, _, rfl, ?_⟩) | (with_reducible refine eok_bin ?_) | (with_reducible refine eok_un ?_) | (with_reducible refine eok_not ?_) | (with_reducible refine eok_and ?_) | (with_reducible refine eok_or ?_) | (with_reducible refine eok_if ?_) | (with_reducible refine eok_chain ?_) | (with_reducible refine iok_nil ?_) | (with_reducible refine iok_cons ?_) | (with_reducible refine eok_tup ?_) | (with_reducible refine eok_lst ?_) | (with_reducible refine eok_call ?_) | (with_reducible refine eok_B ?_) | (with_reducible refine eok_isi ?_) | (with_reducible refine eok_int ?_) | (with_reducible refine eok_sl ?_) | (with_reducible refine eok_lrg ?_) | (with_reducible refine eok_err ?_) | (with_reducible refine eok_fldE ?_) | (with_reducible refine eok_isiE ?_) | (with_reducible refine iok_seq ?_) | (with_reducible refine iok_zip ?_) | (with_reducible refine iok_enum ?_) | (with_reducible refine iok_range1 ?_) | (with_reducible refine sok_next ?_) | (with_reducible refine sok_seq ?_) | (with_reducible refine sok_set ?_) | (with_reducible refine sok_setO ?_) | (with_reducible refine sok_par ?_) | (with_reducible refine sok_to ?_) | (with_reducible refine sok_drop ?_) | (with_reducible refine sok_ret ?_) | (with_reducible refine sok_if ?_) | (refine ⟨(by show List.length _ ≤ 16777216; simp only [List.length_cons, List.length_nil]; decide), ?_⟩)))
  refine ⟨h.t, _, rfl, _, rfl, fun _ => ?_, fun z => ?_⟩
  · (repeat (first | (with_reducible refine eok_c ?_) | ((with_reducible refine eok_varX ?_); refine ⟨_, rfl, ?_⟩) | ((with_reducible refine eok_obsX ?_); refine ⟨_, _, rfl, ?_⟩) | (with_reducible refine eok_bin ?_) | (with_reducible refine eok_un ?_) | (with_reducible refine eok_not ?_) | (with_reducible refine eok_and ?_) | (with_reducible refine eok_or ?_) | (with_reducible refine eok_if ?_) | (with_reducible refine eok_chain ?_) | (with_reducible refine iok_nil ?_) | (with_reducible refine iok_cons ?_) | (with_reducible refine eok_tup ?_) | (with_reducible refine eok_lst ?_) | (with_reducible refine eok_call ?_) | (with_reducible refine eok_B ?_) | (with_reducible refine eok_isi ?_) | (with_reducible refine eok_int ?_) | (with_reducible refine eok_sl ?_) | (with_reducible refine eok_lrg ?_) | (with_reducible refine eok_err ?_) | (with_reducible refine eok_fldE ?_) | (with_reducible refine eok_isiE ?_) | (with_reducible refine iok_seq ?_) | (with_reducible refine iok_zip ?_) | (with_reducible refine iok_enum ?_) | (with_reducible refine iok_range1 ?_) | (with_reducible refine sok_next ?_) | (with_reducible refine sok_seq ?_) | (with_reducible refine sok_set ?_) | (with_reducible refine sok_setO ?_) | (with_reducible refine sok_par ?_) | (with_reducible refine sok_to ?_) | (with_reducible refine sok_drop ?_) | (with_reducible refine sok_ret ?_) | (with_reducible refine sok_if ?_) | (refine ⟨(by show List.length _ ≤ 16777216; simp only [List.length_cons, List.length_nil]; decide), ?_⟩))); exact q
  · rw [decide_eq_false h.c] at z; exact absurd z (by decide)
theorem least_s (hx : Gd x) (hx' : Gd x') (hy : Gd y) (hy' : Gd y') (hz : Gd z) (hz' : Gd z') (q : Q (.bl (ev x x' && (ev y y' && ev z z')))) :
    FOk F_Least___eq__ [.obj "Least" [("number", x), ("numbers", y), ("tree", z)], .obj "Least" [("number", x'), ("numbers", y'), ("tree", z')]] Q := by
  refine fok_run ?_
  unfold g_Least___eq__
  (repeat (first | (with_reducible refine eok_c ?_) | ((with_reducible refine eok_varX ?_); refine ⟨_, rfl, ?_⟩) | ((with_reducible refine eok_obsX ?_); refine ⟨_, _, rfl, ?_⟩) | (with_reducible refine eok_bin ?_) | (with_reducible refine eok_un ?_) | (with_reducible refine eok_not ?_) | (with_reducible refine eok_and ?_) | (with_reducible refine eok_or ?_) | (with_reducible refine eok_if ?_) | (with_reducible refine eok_chain ?_) | (with_reducible refine iok_nil ?_) | (with_reducible refine iok_cons ?_) | (with_reducible refine eok_tup ?_) | (with_reducible refine eok_lst ?_) | (with_reducible refine eok_call ?_) | (with_reducible refine eok_B ?_) | (with_reducible refine eok_isi ?_) | (with_reducible refine eok_int ?_) | (with_reducible refine eok_sl ?_) | (with_reducible refine eok_lrg ?_) | (with_reducible refine eok_err ?_) | (with_reducible refine eok_fldE ?_) | (with_reducible refine eok_isiE ?_) | (with_reducible refine iok_seq ?_) | (with_reducible refine iok_zip ?_) | (with_reducible refine iok_enum ?_) | (with_reducible refine iok_range1 ?_) | (with_reducible refine sok_next ?_) | (with_reducible refine sok_seq ?_) | (with_reducible refine sok_set ?_) | (with_reducible refine sok_setO ?_) | (with_reducible refine sok_par ?_) | (with_reducible refine sok_to ?_) | (with_reducible refine sok_drop ?_) | (with_reducible refine sok_ret ?_) | (with_reducible refine sok_if ?_) | (refine ⟨(by show List.length _ ≤ 16777216; simp only [List.length_cons, List.length_nil]; decide), ?_⟩)))
  refine eok_isO ?_
  (repeat (first | (with_reducible refine eok_c ?_) | ((with_reducible refine eok_varX ?_); refine ⟨_, rfl, ?_⟩) | ((with_reducible refine eok_obsX ?_); refine ⟨_, _, rfl, ?_⟩) | (with_reducible refine eok_bin ?_) | (with_reducible refine eok_un ?_) | (with_reducible refine eok_not ?_) | (with_reducible refine eok_and ?_) | (with_reducible refine eok_or ?_) | (with_reducible refine eok_if ?_) | (with_reducible refine eok_chain ?_) | (with_reducible refine iok_nil ?_) | (with_reducible refine iok_cons ?_) | (with_reducible refine eok_tup ?_) | (with_reducible refine eok_lst ?_) | (with_reducible refine eok_call ?_) | (with_reducible refine eok_B ?_) | (with_reducible refine eok_isi ?_) | (with_reducible refine eok_int ?_) | (with_reducible refine eok_sl ?_) | (with_reducible refine eok_lrg ?_) | (with_reducible refine eok_err ?_) | (with_reducible refine eok_fldE ?_) | (with_reducible refine eok_isiE ?_) | (with_reducible refine iok_seq ?_) | (with_reducible refine iok_zip ?_) | (with_reducible refine iok_enum ?_) | (with_reducible refine iok_range1 ?_) | (with_reducible refine sok_next ?_) | (with_reducible refine sok_seq ?_) | (with_reducible refine sok_set ?_) | (with_reducible refine sok_setO ?_) | (with_reducible refine sok_par ?_) | (with_reducible refine sok_to ?_) | (with_reducible refine sok_drop ?_) | (with_reducible refine sok_ret ?_) | (with_reducible refine sok_if ?_) | (refine ⟨(by show List.length _ ≤ 16777216; simp only [List.length_cons, List.length_nil]; decide), ?_⟩)))
  refine ⟨decide_eq_true (show ("Least" : Str) ∈ ONS by decide), _, rfl, _, rfl, fun e => absurd e (by simp [D.clsOf]), fun _ => ?_⟩
  refine sok_next ?_
  (repeat (first | (with_reducible refine eok_c ?_) | ((with_reducible refine eok_varX ?_); refine ⟨_, rfl, ?_⟩) | ((with_reducible refine eok_obsX ?_); refine ⟨_, _, rfl, ?_⟩) | (with_reducible refine eok_bin ?_) | (with_reducible refine eok_un ?_) | (with_reducible refine eok_not ?_) | (with_reducible refine eok_and ?_) | (with_reducible refine eok_or ?_) | (with_reducible refine eok_if ?_) | (with_reducible refine eok_chain ?_) | (with_reducible refine iok_nil ?_) | (with_reducible refine iok_cons ?_) | (with_reducible refine eok_tup ?_) | (with_reducible refine eok_lst ?_) | (with_reducible refine eok_call ?_) | (with_reducible refine eok_B ?_) | (with_reducible refine eok_isi ?_) | (with_reducible refine eok_int ?_) | (with_reducible refine eok_sl ?_) | (with_reducible refine eok_lrg ?_) | (with_reducible refine eok_err ?_) | (with_reducible refine eok_fldE ?_) | (with_reducible refine eok_isiE ?_) | (with_reducible refine iok_seq ?_) | (with_reducible refine iok_zip ?_) | (with_reducible refine iok_enum ?_) | (with_reducible refine iok_range1 ?_) | (with_reducible refine sok_next ?_) | (with_reducible refine sok_seq ?_) | (with_reducible refine sok_set ?_) | (with_reducible refine sok_setO ?_) | (with_reducible refine sok_par ?_) | (with_reducible refine sok_to ?_) | (with_reducible refine sok_drop ?_) | (with_reducible refine sok_ret ?_) | (with_reducible refine sok_if ?_) | (refine ⟨(by show List.length _ ≤ 16777216; simp only [List.length_cons, List.length_nil]; decide), ?_⟩)))
  repeat (first | (first | (with_reducible refine eok_c ?_) | ((with_reducible refine eok_varX ?_); refine ⟨_, rfl, ?_⟩) | ((with_reducible refine eok_obsX ?_); refine ⟨_, _, rfl, ?_⟩) | (with_reducible refine eok_bin ?_) | (with_reducible refine eok_un ?_) | (with_reducible refine eok_not ?_) | (with_reducible refine eok_and ?_) | (with_reducible refine eok_or ?_) | (with_reducible refine eok_if ?_) | (with_reducible refine eok_chain ?_) | (with_reducible refine iok_nil ?_) | (with_reducible refine iok_cons ?_) | (with_reducible refine eok_tup ?_) | (with_reducible refine eok_lst ?_) | (with_reducible refine eok_call ?_) | (with_reducible refine eok_B ?_) | (with_reducible refine eok_isi ?_) | (with_reducible refine eok_int ?_) | (with_reducible refine eok_sl ?_) | (with_reducible refine eok_lrg ?_) | (with_reducible refine eok_err ?_) | (with_reducible refine eok_fldE ?_) | (with_reducible refine eok_isiE ?_) | (with_reducible refine iok_seq ?_) | (with_reducible refine iok_zip ?_) | (with_reducible refine iok_enum ?_) | (with_reducible refine iok_range1 ?_) | (with_reducible refine sok_next ?_) | (with_reducible refine sok_seq ?_) | (with_reducible refine sok_set ?_) | (with_reducible refine sok_setO ?_) | (with_reducible refine sok_par ?_) | (with_reducible refine sok_to ?_) | (with_reducible refine sok_drop ?_) | (with_reducible refine sok_ret ?_) | (with_reducible refine sok_if ?_) | (refine ⟨(by show List.length _ ≤ 16777216; simp only [List.length_cons, List.length_nil]; decide), ?_⟩)) | (refine eok_fldO ?_; (first | (with_reducible refine eok_c ?_) | ((with_reducible refine eok_varX ?_); refine ⟨_, rfl, ?_⟩) | ((with_reducible refine eok_obsX ?_); refine ⟨_, _, rfl, ?_⟩) | (with_reducible refine eok_bin ?_) | (with_reducible refine eok_un ?_) | (with_reducible refine eok_not ?_) | (with_reducible refine eok_and ?_) | (with_reducible refine eok_or ?_) | (with_reducible refine eok_if ?_) | (with_reducible refine eok_chain ?_) | (with_reducible refine iok_nil ?_) | (with_reducible refine iok_cons ?_) | (with_reducible refine eok_tup ?_) | (with_reducible refine eok_lst ?_) | (with_reducible refine eok_call ?_) | (with_reducible refine eok_B ?_) | (with_reducible refine eok_isi ?_) | (with_reducible refine eok_int ?_) | (with_reducible refine eok_sl ?_) | (with_reducible refine eok_lrg ?_) | (with_reducible refine eok_err ?_) | (with_reducible refine eok_fldE ?_) | (with_reducible refine eok_isiE ?_) | (with_reducible refine iok_seq ?_) | (with_reducible refine iok_zip ?_) | (with_reducible refine iok_enum ?_) | (with_reducible refine iok_range1 ?_) | (with_reducible refine sok_next ?_) | (with_reducible refine sok_seq ?_) | (with_reducible refine sok_set ?_) | (with_reducible refine sok_setO ?_) | (with_reducible refine sok_par ?_) | (with_reducible refine sok_to ?_) | (with_reducible refine sok_drop ?_) | (with_reducible refine sok_ret ?_) | (with_reducible refine sok_if ?_) | (refine ⟨(by show List.length _ ≤ 16777216; simp only [List.length_cons, List.length_nil]; decide), ?_⟩)); refine ⟨_, _, rfl, rfl, ?_⟩) | refine ⟨by decide, ?_⟩)
  have g3 : ∀ {a b c : D}, Gd a → Gd b → Gd c → Fl (.tup [a, b, c]) := fun ha hb hc => .tup fun d hd => by
    simp only [List.mem_cons, List.not_mem_nil, or_false] at hd
    rcases hd with rfl | rfl | rfl
    · exact ha.f
    · exact hb.f
    · exact hc.f
  refine ⟨_, eqD_f (g3 hx hy hz) (g3 hx' hy' hz') ?_, ?_⟩
  · show max _ (max _ (max _ 0)) + 1 ≤ 64
    have := hx.d
    have := hy.d
    have := hz.d
    omega
  · have e : ev (.tup [x, y, z]) (.tup [x', y', z']) = (ev x x' && (ev y y' && ev z z')) := by
      show PyData.eqv (.tuple [x.py, y.py, z.py]) (.tuple [x'.py, y'.py, z'.py]) = _
      simp only [PyData.eqv, PyData.eqvAll, Bool.and_true]
      rfl
    rw [e]; exact q
end
end L_k12

set_option Elab.async false
set_option linter.all false
set_option maxRecDepth 100000
set_option maxHeartbeats 1000000
namespace L_k12
open PySem PySem.SeqAt PySem.Spec PyProof.Rows L2 DL
/-! ### == of what was made -/
def agree (k : Nat) (x y z x' y' z' : D) : Bool := if k < 4 then ev x x' && ev y y' else if k < 7 then ev x x' else ev x x' && (ev y y' && ev z z')
theorem lt8 {k : Nat} (h : k < 8) : k = 0 ∨ k = 1 ∨ k = 2 ∨ k = 3 ∨ k = 4 ∨ k = 5 ∨ k = 6 ∨ k = 7 := by omega
theorem oth {n m : Str} {fs : List (Str × D)} (h : m ∈ ONS) (h2 : m ≠ n) : Oth n (.obj m fs) := ⟨decide_eq_true h, fun e => h2 (Option.some.inj e)⟩
def NM : List Str := ["Point", "Whole", "NoWhole", "Endless", "Numbers", "Barred", "NoPoint", "Least"]
theorem mk_ty {x y z : D} {j : Nat} (hj : j < 8) : tyKn ONS ((MK x y z).getD j .non) = true := by
  rcases lt8 hj with rfl | rfl | rfl | rfl | rfl | rfl | rfl | rfl
  · exact decide_eq_true (show ("Point" : Str) ∈ ONS by decide)
  · exact decide_eq_true (show ("Whole" : Str) ∈ ONS by decide)
  · exact decide_eq_true (show ("NoWhole" : Str) ∈ ONS by decide)
  · exact decide_eq_true (show ("Endless" : Str) ∈ ONS by decide)
  · exact decide_eq_true (show ("Numbers" : Str) ∈ ONS by decide)
  · exact decide_eq_true (show ("Barred" : Str) ∈ ONS by decide)
  · exact decide_eq_true (show ("NoPoint" : Str) ∈ ONS by decide)
  · exact decide_eq_true (show ("Least" : Str) ∈ ONS by decide)
theorem mk_cls {x y z : D} {j : Nat} (hj : j < 8) : ((MK x y z).getD j .non).clsOf = some (NM.getD j "") := by
  rcases lt8 hj with rfl | rfl | rfl | rfl | rfl | rfl | rfl | rfl <;> rfl
theorem mk_oth {x y z : D} {j : Nat} {n : Str} (hj : j < 8) (h : NM.getD j "" ≠ n) : Oth n ((MK x y z).getD j .non) := ⟨mk_ty hj, by rw [mk_cls hj]; exact fun e => h (Option.some.inj e)⟩
/-- what an object's own == tells -/
def Tells (one o : D) (Q : D → Prop) : Prop := ∃ n fds F, one = .obj n fds ∧ EQT.lookup n = some F ∧ tyKn ONS o = true ∧ FOk F [one, o] Q
structure G3 (x y z : D) : Prop where
  x : Gd x
  y : Gd y
  z : Gd z
theorem mk_eq {x y z x' y' z' : D} (g : G3 x y z) (g' : G3 x' y' z') {k j : Nat} (hk : k < 8) (hj : j < 8) {Q : D → Prop} (q : Q (.bl (decide (k = j) && agree k x y z x' y' z'))) : Tells ((MK x y z).getD k .non) ((MK x' y' z').getD j .non) Q := by
  rcases lt8 hk with rfl | rfl | rfl | rfl | rfl | rfl | rfl | rfl
  · rcases lt8 hj with rfl | rfl | rfl | rfl | rfl | rfl | rfl | rfl
    · exact ⟨"Point", _, F_Point___eq__, rfl, rfl, mk_ty hj, eq2_s (by decide) (by decide) g.x g'.x g.y g'.y q⟩
    all_goals exact ⟨"Point", _, F_Point___eq__, rfl, rfl, mk_ty hj, eq2_o (mk_oth hj (by decide)) q⟩
  · rcases lt8 hj with rfl | rfl | rfl | rfl | rfl | rfl | rfl | rfl
    case inr.inl => exact ⟨"Whole", _, F_Whole___eq__, rfl, rfl, mk_ty hj, eq2_s (by decide) (by decide) g.x g'.x g.y g'.y q⟩
    all_goals exact ⟨"Whole", _, F_Whole___eq__, rfl, rfl, mk_ty hj, eq2_o (mk_oth hj (by decide)) q⟩
  · rcases lt8 hj with rfl | rfl | rfl | rfl | rfl | rfl | rfl | rfl
    case inr.inr.inl => exact ⟨"NoWhole", _, F_NoWhole___eq__, rfl, rfl, mk_ty hj, eq2_s (by decide) (by decide) g.x g'.x g.y g'.y q⟩
    all_goals exact ⟨"NoWhole", _, F_NoWhole___eq__, rfl, rfl, mk_ty hj, eq2_o (mk_oth hj (by decide)) q⟩
  · rcases lt8 hj with rfl | rfl | rfl | rfl | rfl | rfl | rfl | rfl
    case inr.inr.inr.inl => exact ⟨"Endless", _, F_Endless___eq__, rfl, rfl, mk_ty hj, eq2_s (by decide) (by decide) g.x g'.x g.y g'.y q⟩
    all_goals exact ⟨"Endless", _, F_Endless___eq__, rfl, rfl, mk_ty hj, eq2_o (mk_oth hj (by decide)) q⟩
  · rcases lt8 hj with rfl | rfl | rfl | rfl | rfl | rfl | rfl | rfl
    case inr.inr.inr.inr.inl => exact ⟨"Numbers", _, F_Numbers___eq__, rfl, rfl, mk_ty hj, eq1_s (by decide) g.x g'.x q⟩
    all_goals exact ⟨"Numbers", _, F_Numbers___eq__, rfl, rfl, mk_ty hj, eq1_o (mk_oth hj (by decide)) q⟩
  · rcases lt8 hj with rfl | rfl | rfl | rfl | rfl | rfl | rfl | rfl
    case inr.inr.inr.inr.inr.inl => exact ⟨"Barred", _, F_Barred___eq__, rfl, rfl, mk_ty hj, eq1_s (by decide) g.x g'.x q⟩
    all_goals exact ⟨"Barred", _, F_Barred___eq__, rfl, rfl, mk_ty hj, eq1_o (mk_oth hj (by decide)) q⟩
  · rcases lt8 hj with rfl | rfl | rfl | rfl | rfl | rfl | rfl | rfl
    case inr.inr.inr.inr.inr.inr.inl => exact ⟨"NoPoint", _, F_NoPoint___eq__, rfl, rfl, mk_ty hj, eq1_s (by decide) g.x g'.x q⟩
    all_goals exact ⟨"NoPoint", _, F_NoPoint___eq__, rfl, rfl, mk_ty hj, eq1_o (mk_oth hj (by decide)) q⟩
  · rcases lt8 hj with rfl | rfl | rfl | rfl | rfl | rfl | rfl | rfl
    case inr.inr.inr.inr.inr.inr.inr => exact ⟨"Least", _, F_Least___eq__, rfl, rfl, mk_ty hj, least_s g.x g'.x g.y g'.y g.z g'.z q⟩
    all_goals exact ⟨"Least", _, F_Least___eq__, rfl, rfl, mk_ty hj, least_o (mk_oth hj (by decide)) q⟩
theorem mk_ne {x y z o : D} (h : tyKn ONS o = true) (hc : o.clsOf = none) {k : Nat} (hk : k < 8) {Q : D → Prop} (q : Q (.bl false)) : Tells ((MK x y z).getD k .non) o Q := by
  have ho : ∀ n, Oth n o := fun n => ⟨h, by rw [hc]; exact fun e => nomatch e⟩
  rcases lt8 hk with rfl | rfl | rfl | rfl | rfl | rfl | rfl | rfl
  · exact ⟨"Point", _, F_Point___eq__, rfl, rfl, h, eq2_o (ho _) q⟩
  · exact ⟨"Whole", _, F_Whole___eq__, rfl, rfl, h, eq2_o (ho _) q⟩
  · exact ⟨"NoWhole", _, F_NoWhole___eq__, rfl, rfl, h, eq2_o (ho _) q⟩
  · exact ⟨"Endless", _, F_Endless___eq__, rfl, rfl, h, eq2_o (ho _) q⟩
  · exact ⟨"Numbers", _, F_Numbers___eq__, rfl, rfl, h, eq1_o (ho _) q⟩
  · exact ⟨"Barred", _, F_Barred___eq__, rfl, rfl, h, eq1_o (ho _) q⟩
  · exact ⟨"NoPoint", _, F_NoPoint___eq__, rfl, rfl, h, eq1_o (ho _) q⟩
  · exact ⟨"Least", _, F_Least___eq__, rfl, rfl, h, least_o (ho _) q⟩
end L_k12

set_option Elab.async false
set_option linter.all false
set_option maxRecDepth 100000
set_option maxHeartbeats 1000000
namespace L_k12
open PySem PySem.SeqAt PySem.Spec PyProof.Rows L2 DL
theorem sok_deep {L N i iv : Nat} {fm fr : SM} {r : DL.Env} {M : DL.Env → Prop} {NX : DL.Env → Prop} {T : D → Prop} (so : SealOk i r) (hm : SOk fm (sealE i r) M (fun _ => False)) (hk : ∀ r2, M r2 → SpOk L N i iv r2 ∧ SOk fr (spE i iv r2) NX T) : SOk (sDeep L N i iv fm fr) r NX T := fun w => by
  rcases hm w with ⟨r2, w2, e, hM⟩ | ⟨_, _, _, h⟩
  · obtain ⟨sp, h⟩ := hk r2 hM
    have : sDeep L N i iv fm fr r w = fr (spE i iv r2) w2 := by
      unfold sDeep
      rw [if_pos so, e]
      simp only
      rw [if_pos sp]
    rw [this]
    exact h w2
  · exact h.elim
abbrev po (x : Option D) : Slot := x.map fun d => (d, false)
/-- the environment behind the spoil -/
abbrev LE (x y z : D) (s7 s8 s9 s10 s11 s12 s13 s14 s15 : Slot) : DL.Env := [none, pl .pen, none, pl (.lst [x, y, z]), pl (.lst (MK x y z)), pl (.lst (RO x y z)), none, s7, s8, s9, s10, s11, s12, s13, s14, s15]
structure Vs (x y z a b c : D) : Prop where
  ha : TrD 3 3 a
  hb : TrD 3 3 b
  hc : TrD 3 3 c
  ex : x = fz a
  ey : y = fz b
  ez : z = fz c
theorem seal1 {a b c x y z : D} (ha : Tr a) (hb : Tr b) (hc : Tr c) (hx : Fl x) (hy : Fl y) (hz : Fl z) :
    SealOk 2 [none, pl .pen, some (.lst [a, b, c], true), some (.lst [x, y, z], true), none, none, none, none, none, none, none, none, none, none, none, none] := by
  refine ⟨⟨[a, b, c], rfl, fun d hd => ?_⟩, fun j d o h hj => ?_⟩
  · simp only [List.mem_cons, List.not_mem_nil, or_false] at hd
    rcases hd with rfl | rfl | rfl <;> assumption
  · match j, h with
    | 0, h => cases h
    | 1, h => cases h; exact .inl ⟨rfl, .inr rfl⟩
    | 2, h => exact absurd rfl hj
    | 3, h =>
      cases h
      refine .inr ⟨rfl, _, rfl, fun e he => ?_⟩
      simp only [List.mem_cons, List.not_mem_nil, or_false] at he
      rcases he with rfl | rfl | rfl <;> assumption
    | 4, h => cases h
    | 5, h => cases h
    | 6, h => cases h
    | 7, h => cases h
    | 8, h => cases h
    | 9, h => cases h
    | 10, h => cases h
    | 11, h => cases h
    | 12, h => cases h
    | 13, h => cases h
    | 14, h => cases h
    | 15, h => cases h
    | j + 16, h => simp at h
theorem nb_l {l : List D} (h : ∀ d ∈ l, Nb d) : Nb (.lst l) := .lst h
theorem nb_mk {x y z : D} (hx : Fl x) (hy : Fl y) (hz : Fl z) : Nb (.lst (MK x y z)) := by
  refine .lst fun d hd => ?_
  have hx := hx.nb
  have hy := hy.nb
  have hz := hz.nb
  simp only [MK, List.mem_cons, List.not_mem_nil, or_false] at hd
  rcases hd with rfl | rfl | rfl | rfl | rfl | rfl | rfl | rfl
  all_goals
    refine .obj fun e he => ?_
    simp only [List.map_cons, List.map_nil, List.mem_cons, List.not_mem_nil, or_false] at he
    first
      | (rcases he with rfl | rfl | rfl <;> assumption)
      | (rcases he with rfl | rfl <;> assumption)
      | (rw [he]; assumption)
theorem nb_ro {x y z : D} (hx : Fl x) (hy : Fl y) (hz : Fl z) : Nb (.lst (RO x y z)) := by
  refine .lst fun d hd => ?_
  have hx := hx.nb
  have hy := hy.nb
  have hz := hz.nb
  simp only [RO, List.mem_cons, List.not_mem_nil, or_false] at hd
  rcases hd with rfl | rfl | rfl | rfl | rfl | rfl | rfl | rfl
  all_goals
    refine .lst fun e he => ?_
    simp only [List.mem_cons, List.not_mem_nil, or_false] at he
    first
      | (rcases he with rfl | rfl | rfl <;> assumption)
      | (rcases he with rfl | rfl <;> assumption)
      | (rw [he]; assumption)
theorem sp1 {a b c x y z : D} (ha : TrD 3 3 a) (hb : TrD 3 3 b) (hc : TrD 3 3 c) (hx : Fl x) (hy : Fl y) (hz : Fl z) :
    SpOk 3 3 2 6 [none, pl .pen, pl (.brw (.lst [a, b, c])), pl (.lst [x, y, z]), pl (.lst (MK x y z)), pl (.lst (RO x y z)), none, none, none, none, none, none, none, none, none, none] := by
  refine ⟨⟨[a, b, c], rfl, Nat.le_refl 3, fun d hd => ?_⟩, fun j d o h hj hv => ?_, by show 6 < 16; decide⟩
  · simp only [List.mem_cons, List.not_mem_nil, or_false] at hd
    rcases hd with rfl | rfl | rfl <;> assumption
  · match j, h with
    | 0, h => cases h
    | 1, h => cases h; exact ⟨rfl, .pen⟩
    | 2, h => exact absurd rfl hj
    | 3, h =>
      cases h
      refine ⟨rfl, .lst fun e he => ?_⟩
      simp only [List.mem_cons, List.not_mem_nil, or_false] at he
      rcases he with rfl | rfl | rfl
      · exact hx.nb
      · exact hy.nb
      · exact hz.nb
    | 4, h => cases h; exact ⟨rfl, nb_mk hx hy hz⟩
    | 5, h => cases h; exact ⟨rfl, nb_ro hx hy hz⟩
    | 6, h => cases h
    | 7, h => cases h
    | 8, h => cases h
    | 9, h => cases h
    | 10, h => cases h
    | 11, h => cases h
    | 12, h => cases h
    | 13, h => cases h
    | 14, h => cases h
    | 15, h => cases h
    | j + 16, h => simp at h
end L_k12

set_option Elab.async false
set_option linter.all false
set_option maxRecDepth 100000
set_option maxHeartbeats 1000000
namespace L_k12
open PySem PySem.SeqAt PySem.Spec PyProof.Rows L2 DL
theorem three {P : D → Prop} {ys : List D} (h : ys.length = 3) (hp : ∀ y ∈ ys, P y) : ∃ a b c, ys = [a, b, c] ∧ P a ∧ P b ∧ P c := by
  match ys, h with
  | [a, b, c], _ => exact ⟨a, b, c, rfl, hp a (by simp), hp b (by simp), hp c (by simp)⟩
theorem gd {a : D} (h : TrD 3 3 a) : Gd (fz a) := ⟨fz_fl h, Nat.le_trans (trd_depth (fz_trd h)) (by decide)⟩
theorem argL {a : D} (h : TrD 3 3 a) : Arg (lent a) a := ⟨trd_up h (by decide), .inr rfl⟩
theorem argF {a : D} (h : TrD 3 3 a) : Arg (fz a) (fz a) := ⟨trd_up (fz_trd h) (by decide), .inl rfl⟩
theorem fzz {a : D} (h : TrD 3 3 a) : fz (fz a) = fz a := fz_id (fz_fl h)
theorem fl3 {x y z : D} (hx : Fl x) (hy : Fl y) (hz : Fl z) : ∀ d ∈ [x, y, z], d.pl = true := fun d hd => by
  simp only [List.mem_cons, List.not_mem_nil, or_false] at hd
  rcases hd with rfl | rfl | rfl
  · exact fl_pl hx
  · exact fl_pl hy
  · exact fl_pl hz
theorem ne_bl (a b : Bool) : neD (.bl a) (.bl b) = some (.bl (!(a == b))) := by cases a <;> cases b <;> rfl
theorem ro_ne {x y z : D} (g : G3 x y z) : neD (.lst (RO x y z)) (.lst (RO x y z)) = some (.bl false) := by
  have hx := fl_pl g.x.f
  have hy := fl_pl g.y.f
  have hz := fl_pl g.z.f
  refine neD_self ?_ ?_
  · refine pls_of fun d hd => ?_
    simp only [RO, List.mem_cons, List.not_mem_nil, or_false] at hd
    rcases hd with rfl | rfl | rfl | rfl | rfl | rfl | rfl | rfl
    all_goals
      refine pls_of fun e he => ?_
      simp only [List.mem_cons, List.not_mem_nil, or_false] at he
      first
        | (rcases he with rfl | rfl | rfl <;> assumption)
        | (rcases he with rfl | rfl <;> assumption)
        | (rw [he]; assumption)
  · refine Nat.succ_le_succ (Nat.le_trans (depthAll_le (n := 11) fun d hd => ?_) (by decide))
    have gx := g.x.d
    have gy := g.y.d
    have gz := g.z.d
    simp only [RO, List.mem_cons, List.not_mem_nil, or_false] at hd
    rcases hd with rfl | rfl | rfl | rfl | rfl | rfl | rfl | rfl
    all_goals
      refine Nat.succ_le_succ (depthAll_le fun e he => ?_)
      simp only [List.mem_cons, List.not_mem_nil, or_false] at he
      first
        | (rcases he with rfl | rfl | rfl <;> assumption)
        | (rcases he with rfl | rfl <;> assumption)
        | (rw [he]; assumption)
theorem times_l {l : List D} {k : Int} (h0 : 0 ≤ k) (h1 : k ≤ 1000) (hl : l.length ≤ 1000) : timesD (.lst l) (.int k) = some (.lst (repL k l)) := by
  have h2 : l.length * k.toNat ≤ 1000 * 1000 := Nat.mul_le_mul hl (by omega)
  exact if_pos ⟨by omega, by omega, by rw [sizeLine_eq]; omega⟩
theorem rep4 (x : D) : timesD (.lst [x]) (.int 4) = some (.lst [x, x, x, x]) := times_l (l := [x]) (k := 4) (by decide) (by decide) (by simp)
theorem rep3 (x : D) : timesD (.lst [x]) (.int 3) = some (.lst [x, x, x]) := times_l (l := [x]) (k := 3) (by decide) (by decide) (by simp)
theorem mk_len (x y z : D) : (MK x y z).length = 8 := rfl
theorem enum_at {x y z : D} {j : Nat} {d : D} (h : (enumL 0 (MK x y z))[j]? = some d) : j < 8 ∧ d = .tup [.int (j : Nat), (MK x y z).getD j .non] := by
  rw [enumL_at] at h
  cases e : (MK x y z)[j]? with
  | none => rw [e] at h; cases h
  | some a =>
    rw [e] at h
    cases h
    have hj : j < 8 := (List.getElem?_eq_some_iff.mp e).1
    refine ⟨hj, ?_⟩
    rw [List.getD_eq_getElem?_getD, e, Nat.zero_add]
    rfl
theorem fl_ty {d : D} (h : Fl d) : tyKn ONS d = true ∧ d.clsOf = none := by cases h <;> exact ⟨rfl, rfl⟩
def nat_ (k : Nat) : Nat := if k < 4 then 2 else if k < 7 then 1 else 3
theorem ro_at {x y z : D} {k : Nat} (hk : k < 8) : ∃ l, ixD (.lst (RO x y z)) (.int (k : Nat)) = some (.lst l) ∧ l.length = nat_ k := by
  rcases lt8 hk with rfl | rfl | rfl | rfl | rfl | rfl | rfl | rfl <;> exact ⟨_, rfl, rfl⟩
theorem mk_at {x y z : D} {k : Nat} (hk : k < 8) : ixD (.lst (MK x y z)) (.int (k : Nat)) = some ((MK x y z).getD k .non) := by
  rcases lt8 hk with rfl | rfl | rfl | rfl | rfl | rfl | rfl | rfl <;> rfl
theorem agree_self {k : Nat} {x y z : D} (g : G3 x y z) : agree k x y z x y z = true := by
  unfold agree
  rw [ev_refl g.x.f, ev_refl g.y.f, ev_refl g.z.f]
  split
  · rfl
  · split <;> rfl
theorem dec_int (k j : Nat) : decide ((k : Int) = (j : Int)) = decide (k = j) := decide_eq_decide.mpr (by omega)
/-- one value in a tuple -/
def Bn (v : D) : D := .tup [.str "other", v]
def Bent (t : Int) (x y z x' y' z' : D) : Prop := (t = 0 ∧ x' = Bn x ∧ y' = y ∧ z' = z) ∨ (t = 1 ∧ x' = x ∧ y' = Bn y ∧ z' = z) ∨ (t = 2 ∧ x' = x ∧ y' = y ∧ z' = Bn z)
theorem tr_bn {v : D} (h : TrD 3 3 v) : TrD 3 4 (Bn v) := .tup (show 2 ≤ 3 by decide) fun d hd => by
  simp only [List.mem_cons, List.not_mem_nil, or_false] at hd
  rcases hd with rfl | rfl
  · exact .str _
  · exact h
theorem fl_bn {v : D} (h : Fl v) : Fl (Bn v) := .tup fun d hd => by
  simp only [List.mem_cons, List.not_mem_nil, or_false] at hd
  rcases hd with rfl | rfl
  · exact .str _
  · exact h
theorem bent_all {t : Int} {x y z x' y' z' : D} (h : Bent t x y z x' y' z') (tx : TrD 3 3 x) (ty : TrD 3 3 y) (tz : TrD 3 3 z) (fx : Fl x) (fy : Fl y) (fz : Fl z) : (TrD 3 4 x' ∧ TrD 3 4 y' ∧ TrD 3 4 z') ∧ Fl x' ∧ Fl y' ∧ Fl z' := by
  have ux := trd_up tx (show 3 ≤ 4 by decide)
  have uy := trd_up ty (show 3 ≤ 4 by decide)
  have uz := trd_up tz (show 3 ≤ 4 by decide)
  rcases h with ⟨_, rfl, rfl, rfl⟩ | ⟨_, rfl, rfl, rfl⟩ | ⟨_, rfl, rfl, rfl⟩
  · exact ⟨⟨tr_bn tx, uy, uz⟩, fl_bn fx, fy, fz⟩
  · exact ⟨⟨ux, tr_bn ty, uz⟩, fx, fl_bn fy, fz⟩
  · exact ⟨⟨ux, uy, tr_bn tz⟩, fx, fy, fl_bn fz⟩
theorem gd4 {v : D} (h : TrD 3 4 v) (f : Fl v) : Gd v := ⟨f, Nat.le_trans (trd_depth h) (by decide)⟩
theorem agree_bent {t : Int} {k : Nat} {x y z x' y' z' : D} (hk : k < 8) (g : G3 x y z) (h : Bent t x y z x' y' z') : agree k x y z x' y' z' = decide (t ≥ (nat_ k : Nat)) := by
  have rx := ev_refl g.x.f
  have ry := ev_refl g.y.f
  have rz := ev_refl g.z.f
  have bx : ev x (Bn x) = false := ev_bent x
  have by_ : ev y (Bn y) = false := ev_bent y
  have bz : ev z (Bn z) = false := ev_bent z
  unfold agree nat_
  rcases h with ⟨rfl, rfl, rfl, rfl⟩ | ⟨rfl, rfl, rfl, rfl⟩ | ⟨rfl, rfl, rfl, rfl⟩ <;> rcases lt8 hk with rfl | rfl | rfl | rfl | rfl | rfl | rfl | rfl <;> simp [rx, ry, rz, bx, by_, bz]
theorem geD_i {a b : Int} : geD (.int a) (.int b) = some (.bl (decide (a ≥ b))) := rfl
theorem law_ok_ : SOk g_law (lawE 16) (fun _ => False) (· = .bl true) := by
  unfold g_law
  refine sok_cut (fun r => ∃ a b c, TrD 3 3 a ∧ TrD 3 3 b ∧ TrD 3 3 c ∧ r = [none, pl .pen, some (.lst [a, b, c], true), none, none, none, none, none, none, none, none, none, none, none, none, none]) ?_ ?_
  · (repeat (first | (with_reducible refine eok_c ?_) | ((with_reducible refine eok_varX ?_); refine ⟨_, rfl, ?_⟩) | ((with_reducible refine eok_obsX ?_); refine ⟨_, _, rfl, ?_⟩) | (with_reducible refine eok_bin ?_) | (with_reducible refine eok_un ?_) | (with_reducible refine eok_not ?_) | (with_reducible refine eok_and ?_) | (with_reducible refine eok_or ?_) | (with_reducible refine eok_if ?_) | (with_reducible refine eok_chain ?_) | (with_reducible refine iok_nil ?_) | (with_reducible refine iok_cons ?_) | (with_reducible refine eok_tup ?_) | (with_reducible refine eok_lst ?_) | (with_reducible refine eok_call ?_) | (with_reducible refine eok_B ?_) | (with_reducible refine eok_isi ?_) | (with_reducible refine eok_int ?_) | (with_reducible refine eok_sl ?_) | (with_reducible refine eok_lrg ?_) | (with_reducible refine eok_err ?_) | (with_reducible refine eok_fldE ?_) | (with_reducible refine eok_isiE ?_) | (with_reducible refine iok_seq ?_) | (with_reducible refine iok_zip ?_) | (with_reducible refine iok_enum ?_) | (with_reducible refine iok_range1 ?_) | (with_reducible refine sok_next ?_) | (with_reducible refine sok_seq ?_) | (with_reducible refine sok_set ?_) | (with_reducible refine sok_setO ?_) | (with_reducible refine sok_par ?_) | (with_reducible refine sok_to ?_) | (with_reducible refine sok_drop ?_) | (with_reducible refine sok_ret ?_) | (with_reducible refine sok_if ?_) | (refine ⟨(by show List.length _ ≤ 16777216; simp only [List.length_cons, List.length_nil]; decide), ?_⟩)))
    refine eok_draws (TrD 3 3) ?_
    (repeat (first | (with_reducible refine eok_c ?_) | ((with_reducible refine eok_varX ?_); refine ⟨_, rfl, ?_⟩) | ((with_reducible refine eok_obsX ?_); refine ⟨_, _, rfl, ?_⟩) | (with_reducible refine eok_bin ?_) | (with_reducible refine eok_un ?_) | (with_reducible refine eok_not ?_) | (with_reducible refine eok_and ?_) | (with_reducible refine eok_or ?_) | (with_reducible refine eok_if ?_) | (with_reducible refine eok_chain ?_) | (with_reducible refine iok_nil ?_) | (with_reducible refine iok_cons ?_) | (with_reducible refine eok_tup ?_) | (with_reducible refine eok_lst ?_) | (with_reducible refine eok_call ?_) | (with_reducible refine eok_B ?_) | (with_reducible refine eok_isi ?_) | (with_reducible refine eok_int ?_) | (with_reducible refine eok_sl ?_) | (with_reducible refine eok_lrg ?_) | (with_reducible refine eok_err ?_) | (with_reducible refine eok_fldE ?_) | (with_reducible refine eok_isiE ?_) | (with_reducible refine iok_seq ?_) | (with_reducible refine iok_zip ?_) | (with_reducible refine iok_enum ?_) | (with_reducible refine iok_range1 ?_) | (with_reducible refine sok_next ?_) | (with_reducible refine sok_seq ?_) | (with_reducible refine sok_set ?_) | (with_reducible refine sok_setO ?_) | (with_reducible refine sok_par ?_) | (with_reducible refine sok_to ?_) | (with_reducible refine sok_drop ?_) | (with_reducible refine sok_ret ?_) | (with_reducible refine sok_if ?_) | (refine ⟨(by show List.length _ ≤ 16777216; simp only [List.length_cons, List.length_nil]; decide), ?_⟩)))
    refine ⟨3, rfl, ⟨by decide, by decide⟩, by decide, fun d hd => ⟨_, rfl, ?_⟩, fun ys hy hp => ?_⟩
    · (repeat (first | (with_reducible refine eok_c ?_) | ((with_reducible refine eok_varX ?_); refine ⟨_, rfl, ?_⟩) | ((with_reducible refine eok_obsX ?_); refine ⟨_, _, rfl, ?_⟩) | (with_reducible refine eok_bin ?_) | (with_reducible refine eok_un ?_) | (with_reducible refine eok_not ?_) | (with_reducible refine eok_and ?_) | (with_reducible refine eok_or ?_) | (with_reducible refine eok_if ?_) | (with_reducible refine eok_chain ?_) | (with_reducible refine iok_nil ?_) | (with_reducible refine iok_cons ?_) | (with_reducible refine eok_tup ?_) | (with_reducible refine eok_lst ?_) | (with_reducible refine eok_call ?_) | (with_reducible refine eok_B ?_) | (with_reducible refine eok_isi ?_) | (with_reducible refine eok_int ?_) | (with_reducible refine eok_sl ?_) | (with_reducible refine eok_lrg ?_) | (with_reducible refine eok_err ?_) | (with_reducible refine eok_fldE ?_) | (with_reducible refine eok_isiE ?_) | (with_reducible refine iok_seq ?_) | (with_reducible refine iok_zip ?_) | (with_reducible refine iok_enum ?_) | (with_reducible refine iok_range1 ?_) | (with_reducible refine sok_next ?_) | (with_reducible refine sok_seq ?_) | (with_reducible refine sok_set ?_) | (with_reducible refine sok_setO ?_) | (with_reducible refine sok_par ?_) | (with_reducible refine sok_to ?_) | (with_reducible refine sok_drop ?_) | (with_reducible refine sok_ret ?_) | (with_reducible refine sok_if ?_) | (refine ⟨(by show List.length _ ≤ 16777216; simp only [List.length_cons, List.length_nil]; decide), ?_⟩)))
      exact thing 3 (by decide) fun d h => h
    · obtain ⟨a, b, c, rfl, h1, h2, h3⟩ := three (P := TrD 3 3) hy hp
      exact ⟨a, b, c, h1, h2, h3, rfl⟩
  rintro _ ⟨a, b, c, ha, hb, hc, rfl⟩
  refine sok_cut (fun r => r = [none, pl .pen, some (.lst [a, b, c], true), some (.lst [fz a, fz b, fz c], true), none, none, none, none, none, none, none, none, none, none, none, none]) ?_ ?_
  · (repeat (first | (with_reducible refine eok_c ?_) | ((with_reducible refine eok_varX ?_); refine ⟨_, rfl, ?_⟩) | ((with_reducible refine eok_obsX ?_); refine ⟨_, _, rfl, ?_⟩) | (with_reducible refine eok_bin ?_) | (with_reducible refine eok_un ?_) | (with_reducible refine eok_not ?_) | (with_reducible refine eok_and ?_) | (with_reducible refine eok_or ?_) | (with_reducible refine eok_if ?_) | (with_reducible refine eok_chain ?_) | (with_reducible refine iok_nil ?_) | (with_reducible refine iok_cons ?_) | (with_reducible refine eok_tup ?_) | (with_reducible refine eok_lst ?_) | (with_reducible refine eok_call ?_) | (with_reducible refine eok_B ?_) | (with_reducible refine eok_isi ?_) | (with_reducible refine eok_int ?_) | (with_reducible refine eok_sl ?_) | (with_reducible refine eok_lrg ?_) | (with_reducible refine eok_err ?_) | (with_reducible refine eok_fldE ?_) | (with_reducible refine eok_isiE ?_) | (with_reducible refine iok_seq ?_) | (with_reducible refine iok_zip ?_) | (with_reducible refine iok_enum ?_) | (with_reducible refine iok_range1 ?_) | (with_reducible refine sok_next ?_) | (with_reducible refine sok_seq ?_) | (with_reducible refine sok_set ?_) | (with_reducible refine sok_setO ?_) | (with_reducible refine sok_par ?_) | (with_reducible refine sok_to ?_) | (with_reducible refine sok_drop ?_) | (with_reducible refine sok_ret ?_) | (with_reducible refine sok_if ?_) | (refine ⟨(by show List.length _ ≤ 16777216; simp only [List.length_cons, List.length_nil]; decide), ?_⟩)))
    refine eok_map fz ?_
    (repeat (first | (with_reducible refine eok_c ?_) | ((with_reducible refine eok_varX ?_); refine ⟨_, rfl, ?_⟩) | ((with_reducible refine eok_obsX ?_); refine ⟨_, _, rfl, ?_⟩) | (with_reducible refine eok_bin ?_) | (with_reducible refine eok_un ?_) | (with_reducible refine eok_not ?_) | (with_reducible refine eok_and ?_) | (with_reducible refine eok_or ?_) | (with_reducible refine eok_if ?_) | (with_reducible refine eok_chain ?_) | (with_reducible refine iok_nil ?_) | (with_reducible refine iok_cons ?_) | (with_reducible refine eok_tup ?_) | (with_reducible refine eok_lst ?_) | (with_reducible refine eok_call ?_) | (with_reducible refine eok_B ?_) | (with_reducible refine eok_isi ?_) | (with_reducible refine eok_int ?_) | (with_reducible refine eok_sl ?_) | (with_reducible refine eok_lrg ?_) | (with_reducible refine eok_err ?_) | (with_reducible refine eok_fldE ?_) | (with_reducible refine eok_isiE ?_) | (with_reducible refine iok_seq ?_) | (with_reducible refine iok_zip ?_) | (with_reducible refine iok_enum ?_) | (with_reducible refine iok_range1 ?_) | (with_reducible refine sok_next ?_) | (with_reducible refine sok_seq ?_) | (with_reducible refine sok_set ?_) | (with_reducible refine sok_setO ?_) | (with_reducible refine sok_par ?_) | (with_reducible refine sok_to ?_) | (with_reducible refine sok_drop ?_) | (with_reducible refine sok_ret ?_) | (with_reducible refine sok_if ?_) | (refine ⟨(by show List.length _ ≤ 16777216; simp only [List.length_cons, List.length_nil]; decide), ?_⟩)))
    refine ⟨[a, b, c], rfl, by show 3 ≤ 16777216; decide, fun d hd => ⟨_, rfl, ?_⟩, rfl⟩
    (repeat (first | (with_reducible refine eok_c ?_) | ((with_reducible refine eok_varX ?_); refine ⟨_, rfl, ?_⟩) | ((with_reducible refine eok_obsX ?_); refine ⟨_, _, rfl, ?_⟩) | (with_reducible refine eok_bin ?_) | (with_reducible refine eok_un ?_) | (with_reducible refine eok_not ?_) | (with_reducible refine eok_and ?_) | (with_reducible refine eok_or ?_) | (with_reducible refine eok_if ?_) | (with_reducible refine eok_chain ?_) | (with_reducible refine iok_nil ?_) | (with_reducible refine iok_cons ?_) | (with_reducible refine eok_tup ?_) | (with_reducible refine eok_lst ?_) | (with_reducible refine eok_call ?_) | (with_reducible refine eok_B ?_) | (with_reducible refine eok_isi ?_) | (with_reducible refine eok_int ?_) | (with_reducible refine eok_sl ?_) | (with_reducible refine eok_lrg ?_) | (with_reducible refine eok_err ?_) | (with_reducible refine eok_fldE ?_) | (with_reducible refine eok_isiE ?_) | (with_reducible refine iok_seq ?_) | (with_reducible refine iok_zip ?_) | (with_reducible refine iok_enum ?_) | (with_reducible refine iok_range1 ?_) | (with_reducible refine sok_next ?_) | (with_reducible refine sok_seq ?_) | (with_reducible refine sok_set ?_) | (with_reducible refine sok_setO ?_) | (with_reducible refine sok_par ?_) | (with_reducible refine sok_to ?_) | (with_reducible refine sok_drop ?_) | (with_reducible refine sok_ret ?_) | (with_reducible refine sok_if ?_) | (refine ⟨(by show List.length _ ≤ 16777216; simp only [List.length_cons, List.length_nil]; decide), ?_⟩)))
    have hd3 : TrD 3 3 d := by
      simp only [List.mem_cons, List.not_mem_nil, or_false] at hd
      rcases hd with rfl | rfl | rfl <;> assumption
    exact frozen (L := 3) (by decide) 5 3 (by decide) hd3 rfl
  rintro _ rfl
  have fa := fz_fl ha
  have fb := fz_fl hb
  have fc := fz_fl hc
  have g : G3 (fz a) (fz b) (fz c) := ⟨gd ha, gd hb, gd hc⟩
  refine sok_deep (M := fun r => r = [none, pl .pen, pl (.brw (.lst [a, b, c])), pl (.lst [fz a, fz b, fz c]), pl (.lst (MK (fz a) (fz b) (fz c))), pl (.lst (RO (fz a) (fz b) (fz c))), none, none, none, none, none, none, none, none, none, none]) (seal1 ha.tr hb.tr hc.tr fa fb fc) ?_ ?_
  · refine sok_to ?_
    have e : sealE 2 [none, pl .pen, some (.lst [a, b, c], true), some (.lst [fz a, fz b, fz c], true), none, none, none, none, none, none, none, none, none, none, none, none] = [none, pl .pen, pl (.brw (.lst [a, b, c])), pl (.lst [fz a, fz b, fz c]), none, none, none, none, none, none, none, none, none, none, none, none] := rfl
    rw [e]
    (repeat (first | (with_reducible refine eok_c ?_) | ((with_reducible refine eok_varX ?_); refine ⟨_, rfl, ?_⟩) | ((with_reducible refine eok_obsX ?_); refine ⟨_, _, rfl, ?_⟩) | (with_reducible refine eok_bin ?_) | (with_reducible refine eok_un ?_) | (with_reducible refine eok_not ?_) | (with_reducible refine eok_and ?_) | (with_reducible refine eok_or ?_) | (with_reducible refine eok_if ?_) | (with_reducible refine eok_chain ?_) | (with_reducible refine iok_nil ?_) | (with_reducible refine iok_cons ?_) | (with_reducible refine eok_tup ?_) | (with_reducible refine eok_lst ?_) | (with_reducible refine eok_call ?_) | (with_reducible refine eok_B ?_) | (with_reducible refine eok_isi ?_) | (with_reducible refine eok_int ?_) | (with_reducible refine eok_sl ?_) | (with_reducible refine eok_lrg ?_) | (with_reducible refine eok_err ?_) | (with_reducible refine eok_fldE ?_) | (with_reducible refine eok_isiE ?_) | (with_reducible refine iok_seq ?_) | (with_reducible refine iok_zip ?_) | (with_reducible refine iok_enum ?_) | (with_reducible refine iok_range1 ?_) | (with_reducible refine sok_next ?_) | (with_reducible refine sok_seq ?_) | (with_reducible refine sok_set ?_) | (with_reducible refine sok_setO ?_) | (with_reducible refine sok_par ?_) | (with_reducible refine sok_to ?_) | (with_reducible refine sok_drop ?_) | (with_reducible refine sok_ret ?_) | (with_reducible refine sok_if ?_) | (refine ⟨(by show List.length _ ≤ 16777216; simp only [List.length_cons, List.length_nil]; decide), ?_⟩)))
    refine ⟨lent a, rfl, ?_⟩
    (repeat (first | (with_reducible refine eok_c ?_) | ((with_reducible refine eok_varX ?_); refine ⟨_, rfl, ?_⟩) | ((with_reducible refine eok_obsX ?_); refine ⟨_, _, rfl, ?_⟩) | (with_reducible refine eok_bin ?_) | (with_reducible refine eok_un ?_) | (with_reducible refine eok_not ?_) | (with_reducible refine eok_and ?_) | (with_reducible refine eok_or ?_) | (with_reducible refine eok_if ?_) | (with_reducible refine eok_chain ?_) | (with_reducible refine iok_nil ?_) | (with_reducible refine iok_cons ?_) | (with_reducible refine eok_tup ?_) | (with_reducible refine eok_lst ?_) | (with_reducible refine eok_call ?_) | (with_reducible refine eok_B ?_) | (with_reducible refine eok_isi ?_) | (with_reducible refine eok_int ?_) | (with_reducible refine eok_sl ?_) | (with_reducible refine eok_lrg ?_) | (with_reducible refine eok_err ?_) | (with_reducible refine eok_fldE ?_) | (with_reducible refine eok_isiE ?_) | (with_reducible refine iok_seq ?_) | (with_reducible refine iok_zip ?_) | (with_reducible refine iok_enum ?_) | (with_reducible refine iok_range1 ?_) | (with_reducible refine sok_next ?_) | (with_reducible refine sok_seq ?_) | (with_reducible refine sok_set ?_) | (with_reducible refine sok_setO ?_) | (with_reducible refine sok_par ?_) | (with_reducible refine sok_to ?_) | (with_reducible refine sok_drop ?_) | (with_reducible refine sok_ret ?_) | (with_reducible refine sok_if ?_) | (refine ⟨(by show List.length _ ≤ 16777216; simp only [List.length_cons, List.length_nil]; decide), ?_⟩)))
    refine ⟨lent b, rfl, ?_⟩
    (repeat (first | (with_reducible refine eok_c ?_) | ((with_reducible refine eok_varX ?_); refine ⟨_, rfl, ?_⟩) | ((with_reducible refine eok_obsX ?_); refine ⟨_, _, rfl, ?_⟩) | (with_reducible refine eok_bin ?_) | (with_reducible refine eok_un ?_) | (with_reducible refine eok_not ?_) | (with_reducible refine eok_and ?_) | (with_reducible refine eok_or ?_) | (with_reducible refine eok_if ?_) | (with_reducible refine eok_chain ?_) | (with_reducible refine iok_nil ?_) | (with_reducible refine iok_cons ?_) | (with_reducible refine eok_tup ?_) | (with_reducible refine eok_lst ?_) | (with_reducible refine eok_call ?_) | (with_reducible refine eok_B ?_) | (with_reducible refine eok_isi ?_) | (with_reducible refine eok_int ?_) | (with_reducible refine eok_sl ?_) | (with_reducible refine eok_lrg ?_) | (with_reducible refine eok_err ?_) | (with_reducible refine eok_fldE ?_) | (with_reducible refine eok_isiE ?_) | (with_reducible refine iok_seq ?_) | (with_reducible refine iok_zip ?_) | (with_reducible refine iok_enum ?_) | (with_reducible refine iok_range1 ?_) | (with_reducible refine sok_next ?_) | (with_reducible refine sok_seq ?_) | (with_reducible refine sok_set ?_) | (with_reducible refine sok_setO ?_) | (with_reducible refine sok_par ?_) | (with_reducible refine sok_to ?_) | (with_reducible refine sok_drop ?_) | (with_reducible refine sok_ret ?_) | (with_reducible refine sok_if ?_) | (refine ⟨(by show List.length _ ≤ 16777216; simp only [List.length_cons, List.length_nil]; decide), ?_⟩)))
    refine ⟨lent c, rfl, ?_⟩
    (repeat (first | (with_reducible refine eok_c ?_) | ((with_reducible refine eok_varX ?_); refine ⟨_, rfl, ?_⟩) | ((with_reducible refine eok_obsX ?_); refine ⟨_, _, rfl, ?_⟩) | (with_reducible refine eok_bin ?_) | (with_reducible refine eok_un ?_) | (with_reducible refine eok_not ?_) | (with_reducible refine eok_and ?_) | (with_reducible refine eok_or ?_) | (with_reducible refine eok_if ?_) | (with_reducible refine eok_chain ?_) | (with_reducible refine iok_nil ?_) | (with_reducible refine iok_cons ?_) | (with_reducible refine eok_tup ?_) | (with_reducible refine eok_lst ?_) | (with_reducible refine eok_call ?_) | (with_reducible refine eok_B ?_) | (with_reducible refine eok_isi ?_) | (with_reducible refine eok_int ?_) | (with_reducible refine eok_sl ?_) | (with_reducible refine eok_lrg ?_) | (with_reducible refine eok_err ?_) | (with_reducible refine eok_fldE ?_) | (with_reducible refine eok_isiE ?_) | (with_reducible refine iok_seq ?_) | (with_reducible refine iok_zip ?_) | (with_reducible refine iok_enum ?_) | (with_reducible refine iok_range1 ?_) | (with_reducible refine sok_next ?_) | (with_reducible refine sok_seq ?_) | (with_reducible refine sok_set ?_) | (with_reducible refine sok_setO ?_) | (with_reducible refine sok_par ?_) | (with_reducible refine sok_to ?_) | (with_reducible refine sok_drop ?_) | (with_reducible refine sok_ret ?_) | (with_reducible refine sok_if ?_) | (refine ⟨(by show List.length _ ≤ 16777216; simp only [List.length_cons, List.length_nil]; decide), ?_⟩)))
    refine ones (argL ha) (argL hb) (argL hc) ?_
    exact ⟨_, rfl, rfl⟩
  rintro _ rfl
  refine ⟨sp1 ha hb hc fa fb fc, ?_⟩
  have ex := fzz ha
  have ey := fzz hb
  have ez := fzz hc
  have ax := argF ha
  have ay := argF hb
  have az := argF hc
  have tx := fz_trd ha
  have ty := fz_trd hb
  have tz := fz_trd hc
  generalize fz a = x at *
  generalize fz b = y at *
  generalize fz c = z at *
  show SOk _ (LE x y z none none none none none none none none none) _ _
  refine sok_cut (fun r => r = LE x y z (pl (.lst (MK x y z))) (pl (.lst (RO x y z))) none none none none none none none) ?_ ?_
  · refine sok_to ?_
    (repeat (first | (with_reducible refine eok_c ?_) | ((with_reducible refine eok_varX ?_); refine ⟨_, rfl, ?_⟩) | ((with_reducible refine eok_obsX ?_); refine ⟨_, _, rfl, ?_⟩) | (with_reducible refine eok_bin ?_) | (with_reducible refine eok_un ?_) | (with_reducible refine eok_not ?_) | (with_reducible refine eok_and ?_) | (with_reducible refine eok_or ?_) | (with_reducible refine eok_if ?_) | (with_reducible refine eok_chain ?_) | (with_reducible refine iok_nil ?_) | (with_reducible refine iok_cons ?_) | (with_reducible refine eok_tup ?_) | (with_reducible refine eok_lst ?_) | (with_reducible refine eok_call ?_) | (with_reducible refine eok_B ?_) | (with_reducible refine eok_isi ?_) | (with_reducible refine eok_int ?_) | (with_reducible refine eok_sl ?_) | (with_reducible refine eok_lrg ?_) | (with_reducible refine eok_err ?_) | (with_reducible refine eok_fldE ?_) | (with_reducible refine eok_isiE ?_) | (with_reducible refine iok_seq ?_) | (with_reducible refine iok_zip ?_) | (with_reducible refine iok_enum ?_) | (with_reducible refine iok_range1 ?_) | (with_reducible refine sok_next ?_) | (with_reducible refine sok_seq ?_) | (with_reducible refine sok_set ?_) | (with_reducible refine sok_setO ?_) | (with_reducible refine sok_par ?_) | (with_reducible refine sok_to ?_) | (with_reducible refine sok_drop ?_) | (with_reducible refine sok_ret ?_) | (with_reducible refine sok_if ?_) | (refine ⟨(by show List.length _ ≤ 16777216; simp only [List.length_cons, List.length_nil]; decide), ?_⟩)))
    refine ⟨x, rfl, ?_⟩
    (repeat (first | (with_reducible refine eok_c ?_) | ((with_reducible refine eok_varX ?_); refine ⟨_, rfl, ?_⟩) | ((with_reducible refine eok_obsX ?_); refine ⟨_, _, rfl, ?_⟩) | (with_reducible refine eok_bin ?_) | (with_reducible refine eok_un ?_) | (with_reducible refine eok_not ?_) | (with_reducible refine eok_and ?_) | (with_reducible refine eok_or ?_) | (with_reducible refine eok_if ?_) | (with_reducible refine eok_chain ?_) | (with_reducible refine iok_nil ?_) | (with_reducible refine iok_cons ?_) | (with_reducible refine eok_tup ?_) | (with_reducible refine eok_lst ?_) | (with_reducible refine eok_call ?_) | (with_reducible refine eok_B ?_) | (with_reducible refine eok_isi ?_) | (with_reducible refine eok_int ?_) | (with_reducible refine eok_sl ?_) | (with_reducible refine eok_lrg ?_) | (with_reducible refine eok_err ?_) | (with_reducible refine eok_fldE ?_) | (with_reducible refine eok_isiE ?_) | (with_reducible refine iok_seq ?_) | (with_reducible refine iok_zip ?_) | (with_reducible refine iok_enum ?_) | (with_reducible refine iok_range1 ?_) | (with_reducible refine sok_next ?_) | (with_reducible refine sok_seq ?_) | (with_reducible refine sok_set ?_) | (with_reducible refine sok_setO ?_) | (with_reducible refine sok_par ?_) | (with_reducible refine sok_to ?_) | (with_reducible refine sok_drop ?_) | (with_reducible refine sok_ret ?_) | (with_reducible refine sok_if ?_) | (refine ⟨(by show List.length _ ≤ 16777216; simp only [List.length_cons, List.length_nil]; decide), ?_⟩)))
    refine ⟨y, rfl, ?_⟩
    (repeat (first | (with_reducible refine eok_c ?_) | ((with_reducible refine eok_varX ?_); refine ⟨_, rfl, ?_⟩) | ((with_reducible refine eok_obsX ?_); refine ⟨_, _, rfl, ?_⟩) | (with_reducible refine eok_bin ?_) | (with_reducible refine eok_un ?_) | (with_reducible refine eok_not ?_) | (with_reducible refine eok_and ?_) | (with_reducible refine eok_or ?_) | (with_reducible refine eok_if ?_) | (with_reducible refine eok_chain ?_) | (with_reducible refine iok_nil ?_) | (with_reducible refine iok_cons ?_) | (with_reducible refine eok_tup ?_) | (with_reducible refine eok_lst ?_) | (with_reducible refine eok_call ?_) | (with_reducible refine eok_B ?_) | (with_reducible refine eok_isi ?_) | (with_reducible refine eok_int ?_) | (with_reducible refine eok_sl ?_) | (with_reducible refine eok_lrg ?_) | (with_reducible refine eok_err ?_) | (with_reducible refine eok_fldE ?_) | (with_reducible refine eok_isiE ?_) | (with_reducible refine iok_seq ?_) | (with_reducible refine iok_zip ?_) | (with_reducible refine iok_enum ?_) | (with_reducible refine iok_range1 ?_) | (with_reducible refine sok_next ?_) | (with_reducible refine sok_seq ?_) | (with_reducible refine sok_set ?_) | (with_reducible refine sok_setO ?_) | (with_reducible refine sok_par ?_) | (with_reducible refine sok_to ?_) | (with_reducible refine sok_drop ?_) | (with_reducible refine sok_ret ?_) | (with_reducible refine sok_if ?_) | (refine ⟨(by show List.length _ ≤ 16777216; simp only [List.length_cons, List.length_nil]; decide), ?_⟩)))
    refine ⟨z, rfl, ?_⟩
    (repeat (first | (with_reducible refine eok_c ?_) | ((with_reducible refine eok_varX ?_); refine ⟨_, rfl, ?_⟩) | ((with_reducible refine eok_obsX ?_); refine ⟨_, _, rfl, ?_⟩) | (with_reducible refine eok_bin ?_) | (with_reducible refine eok_un ?_) | (with_reducible refine eok_not ?_) | (with_reducible refine eok_and ?_) | (with_reducible refine eok_or ?_) | (with_reducible refine eok_if ?_) | (with_reducible refine eok_chain ?_) | (with_reducible refine iok_nil ?_) | (with_reducible refine iok_cons ?_) | (with_reducible refine eok_tup ?_) | (with_reducible refine eok_lst ?_) | (with_reducible refine eok_call ?_) | (with_reducible refine eok_B ?_) | (with_reducible refine eok_isi ?_) | (with_reducible refine eok_int ?_) | (with_reducible refine eok_sl ?_) | (with_reducible refine eok_lrg ?_) | (with_reducible refine eok_err ?_) | (with_reducible refine eok_fldE ?_) | (with_reducible refine eok_isiE ?_) | (with_reducible refine iok_seq ?_) | (with_reducible refine iok_zip ?_) | (with_reducible refine iok_enum ?_) | (with_reducible refine iok_range1 ?_) | (with_reducible refine sok_next ?_) | (with_reducible refine sok_seq ?_) | (with_reducible refine sok_set ?_) | (with_reducible refine sok_setO ?_) | (with_reducible refine sok_par ?_) | (with_reducible refine sok_to ?_) | (with_reducible refine sok_drop ?_) | (with_reducible refine sok_ret ?_) | (with_reducible refine sok_if ?_) | (refine ⟨(by show List.length _ ≤ 16777216; simp only [List.length_cons, List.length_nil]; decide), ?_⟩)))
    refine ones ax ay az ?_
    rw [ex, ey, ez]
    exact ⟨_, rfl, rfl⟩
  rintro _ rfl
  refine sok_cut (fun r => r = LE x y z (pl (.lst (MK x y z))) (pl (.lst (RO x y z))) none none none none none none none) ?_ ?_
  · (repeat (first | (with_reducible refine eok_c ?_) | ((with_reducible refine eok_varX ?_); refine ⟨_, rfl, ?_⟩) | ((with_reducible refine eok_obsX ?_); refine ⟨_, _, rfl, ?_⟩) | (with_reducible refine eok_bin ?_) | (with_reducible refine eok_un ?_) | (with_reducible refine eok_not ?_) | (with_reducible refine eok_and ?_) | (with_reducible refine eok_or ?_) | (with_reducible refine eok_if ?_) | (with_reducible refine eok_chain ?_) | (with_reducible refine iok_nil ?_) | (with_reducible refine iok_cons ?_) | (with_reducible refine eok_tup ?_) | (with_reducible refine eok_lst ?_) | (with_reducible refine eok_call ?_) | (with_reducible refine eok_B ?_) | (with_reducible refine eok_isi ?_) | (with_reducible refine eok_int ?_) | (with_reducible refine eok_sl ?_) | (with_reducible refine eok_lrg ?_) | (with_reducible refine eok_err ?_) | (with_reducible refine eok_fldE ?_) | (with_reducible refine eok_isiE ?_) | (with_reducible refine iok_seq ?_) | (with_reducible refine iok_zip ?_) | (with_reducible refine iok_enum ?_) | (with_reducible refine iok_range1 ?_) | (with_reducible refine sok_next ?_) | (with_reducible refine sok_seq ?_) | (with_reducible refine sok_set ?_) | (with_reducible refine sok_setO ?_) | (with_reducible refine sok_par ?_) | (with_reducible refine sok_to ?_) | (with_reducible refine sok_drop ?_) | (with_reducible refine sok_ret ?_) | (with_reducible refine sok_if ?_) | (refine ⟨(by show List.length _ ≤ 16777216; simp only [List.length_cons, List.length_nil]; decide), ?_⟩)))
    refine ⟨_, ro_ne g, _, rfl, fun h => (nomatch h), fun _ => ?_⟩
    (repeat (first | (with_reducible refine eok_c ?_) | ((with_reducible refine eok_varX ?_); refine ⟨_, rfl, ?_⟩) | ((with_reducible refine eok_obsX ?_); refine ⟨_, _, rfl, ?_⟩) | (with_reducible refine eok_bin ?_) | (with_reducible refine eok_un ?_) | (with_reducible refine eok_not ?_) | (with_reducible refine eok_and ?_) | (with_reducible refine eok_or ?_) | (with_reducible refine eok_if ?_) | (with_reducible refine eok_chain ?_) | (with_reducible refine iok_nil ?_) | (with_reducible refine iok_cons ?_) | (with_reducible refine eok_tup ?_) | (with_reducible refine eok_lst ?_) | (with_reducible refine eok_call ?_) | (with_reducible refine eok_B ?_) | (with_reducible refine eok_isi ?_) | (with_reducible refine eok_int ?_) | (with_reducible refine eok_sl ?_) | (with_reducible refine eok_lrg ?_) | (with_reducible refine eok_err ?_) | (with_reducible refine eok_fldE ?_) | (with_reducible refine eok_isiE ?_) | (with_reducible refine iok_seq ?_) | (with_reducible refine iok_zip ?_) | (with_reducible refine iok_enum ?_) | (with_reducible refine iok_range1 ?_) | (with_reducible refine sok_next ?_) | (with_reducible refine sok_seq ?_) | (with_reducible refine sok_set ?_) | (with_reducible refine sok_setO ?_) | (with_reducible refine sok_par ?_) | (with_reducible refine sok_to ?_) | (with_reducible refine sok_drop ?_) | (with_reducible refine sok_ret ?_) | (with_reducible refine sok_if ?_) | (refine ⟨(by show List.length _ ≤ 16777216; simp only [List.length_cons, List.length_nil]; decide), ?_⟩)))
    refine ⟨2, rfl, .lst [x, y], rfl, ?_⟩
    (repeat (first | (with_reducible refine eok_c ?_) | ((with_reducible refine eok_varX ?_); refine ⟨_, rfl, ?_⟩) | ((with_reducible refine eok_obsX ?_); refine ⟨_, _, rfl, ?_⟩) | (with_reducible refine eok_bin ?_) | (with_reducible refine eok_un ?_) | (with_reducible refine eok_not ?_) | (with_reducible refine eok_and ?_) | (with_reducible refine eok_or ?_) | (with_reducible refine eok_if ?_) | (with_reducible refine eok_chain ?_) | (with_reducible refine iok_nil ?_) | (with_reducible refine iok_cons ?_) | (with_reducible refine eok_tup ?_) | (with_reducible refine eok_lst ?_) | (with_reducible refine eok_call ?_) | (with_reducible refine eok_B ?_) | (with_reducible refine eok_isi ?_) | (with_reducible refine eok_int ?_) | (with_reducible refine eok_sl ?_) | (with_reducible refine eok_lrg ?_) | (with_reducible refine eok_err ?_) | (with_reducible refine eok_fldE ?_) | (with_reducible refine eok_isiE ?_) | (with_reducible refine iok_seq ?_) | (with_reducible refine iok_zip ?_) | (with_reducible refine iok_enum ?_) | (with_reducible refine iok_range1 ?_) | (with_reducible refine sok_next ?_) | (with_reducible refine sok_seq ?_) | (with_reducible refine sok_set ?_) | (with_reducible refine sok_setO ?_) | (with_reducible refine sok_par ?_) | (with_reducible refine sok_to ?_) | (with_reducible refine sok_drop ?_) | (with_reducible refine sok_ret ?_) | (with_reducible refine sok_if ?_) | (refine ⟨(by show List.length _ ≤ 16777216; simp only [List.length_cons, List.length_nil]; decide), ?_⟩)))
    refine ⟨_, rep4 _, ?_⟩
    (repeat (first | (with_reducible refine eok_c ?_) | ((with_reducible refine eok_varX ?_); refine ⟨_, rfl, ?_⟩) | ((with_reducible refine eok_obsX ?_); refine ⟨_, _, rfl, ?_⟩) | (with_reducible refine eok_bin ?_) | (with_reducible refine eok_un ?_) | (with_reducible refine eok_not ?_) | (with_reducible refine eok_and ?_) | (with_reducible refine eok_or ?_) | (with_reducible refine eok_if ?_) | (with_reducible refine eok_chain ?_) | (with_reducible refine iok_nil ?_) | (with_reducible refine iok_cons ?_) | (with_reducible refine eok_tup ?_) | (with_reducible refine eok_lst ?_) | (with_reducible refine eok_call ?_) | (with_reducible refine eok_B ?_) | (with_reducible refine eok_isi ?_) | (with_reducible refine eok_int ?_) | (with_reducible refine eok_sl ?_) | (with_reducible refine eok_lrg ?_) | (with_reducible refine eok_err ?_) | (with_reducible refine eok_fldE ?_) | (with_reducible refine eok_isiE ?_) | (with_reducible refine iok_seq ?_) | (with_reducible refine iok_zip ?_) | (with_reducible refine iok_enum ?_) | (with_reducible refine iok_range1 ?_) | (with_reducible refine sok_next ?_) | (with_reducible refine sok_seq ?_) | (with_reducible refine sok_set ?_) | (with_reducible refine sok_setO ?_) | (with_reducible refine sok_par ?_) | (with_reducible refine sok_to ?_) | (with_reducible refine sok_drop ?_) | (with_reducible refine sok_ret ?_) | (with_reducible refine sok_if ?_) | (refine ⟨(by show List.length _ ≤ 16777216; simp only [List.length_cons, List.length_nil]; decide), ?_⟩)))
    refine ⟨1, rfl, .lst [x], rfl, ?_⟩
    (repeat (first | (with_reducible refine eok_c ?_) | ((with_reducible refine eok_varX ?_); refine ⟨_, rfl, ?_⟩) | ((with_reducible refine eok_obsX ?_); refine ⟨_, _, rfl, ?_⟩) | (with_reducible refine eok_bin ?_) | (with_reducible refine eok_un ?_) | (with_reducible refine eok_not ?_) | (with_reducible refine eok_and ?_) | (with_reducible refine eok_or ?_) | (with_reducible refine eok_if ?_) | (with_reducible refine eok_chain ?_) | (with_reducible refine iok_nil ?_) | (with_reducible refine iok_cons ?_) | (with_reducible refine eok_tup ?_) | (with_reducible refine eok_lst ?_) | (with_reducible refine eok_call ?_) | (with_reducible refine eok_B ?_) | (with_reducible refine eok_isi ?_) | (with_reducible refine eok_int ?_) | (with_reducible refine eok_sl ?_) | (with_reducible refine eok_lrg ?_) | (with_reducible refine eok_err ?_) | (with_reducible refine eok_fldE ?_) | (with_reducible refine eok_isiE ?_) | (with_reducible refine iok_seq ?_) | (with_reducible refine iok_zip ?_) | (with_reducible refine iok_enum ?_) | (with_reducible refine iok_range1 ?_) | (with_reducible refine sok_next ?_) | (with_reducible refine sok_seq ?_) | (with_reducible refine sok_set ?_) | (with_reducible refine sok_setO ?_) | (with_reducible refine sok_par ?_) | (with_reducible refine sok_to ?_) | (with_reducible refine sok_drop ?_) | (with_reducible refine sok_ret ?_) | (with_reducible refine sok_if ?_) | (refine ⟨(by show List.length _ ≤ 16777216; simp only [List.length_cons, List.length_nil]; decide), ?_⟩)))
    refine ⟨_, rep3 _, _, plus_l (by show 4 + 3 ≤ 16777216; decide), ?_⟩
    (repeat (first | (with_reducible refine eok_c ?_) | ((with_reducible refine eok_varX ?_); refine ⟨_, rfl, ?_⟩) | ((with_reducible refine eok_obsX ?_); refine ⟨_, _, rfl, ?_⟩) | (with_reducible refine eok_bin ?_) | (with_reducible refine eok_un ?_) | (with_reducible refine eok_not ?_) | (with_reducible refine eok_and ?_) | (with_reducible refine eok_or ?_) | (with_reducible refine eok_if ?_) | (with_reducible refine eok_chain ?_) | (with_reducible refine iok_nil ?_) | (with_reducible refine iok_cons ?_) | (with_reducible refine eok_tup ?_) | (with_reducible refine eok_lst ?_) | (with_reducible refine eok_call ?_) | (with_reducible refine eok_B ?_) | (with_reducible refine eok_isi ?_) | (with_reducible refine eok_int ?_) | (with_reducible refine eok_sl ?_) | (with_reducible refine eok_lrg ?_) | (with_reducible refine eok_err ?_) | (with_reducible refine eok_fldE ?_) | (with_reducible refine eok_isiE ?_) | (with_reducible refine iok_seq ?_) | (with_reducible refine iok_zip ?_) | (with_reducible refine iok_enum ?_) | (with_reducible refine iok_range1 ?_) | (with_reducible refine sok_next ?_) | (with_reducible refine sok_seq ?_) | (with_reducible refine sok_set ?_) | (with_reducible refine sok_setO ?_) | (with_reducible refine sok_par ?_) | (with_reducible refine sok_to ?_) | (with_reducible refine sok_drop ?_) | (with_reducible refine sok_ret ?_) | (with_reducible refine sok_if ?_) | (refine ⟨(by show List.length _ ≤ 16777216; simp only [List.length_cons, List.length_nil]; decide), ?_⟩)))
    refine ⟨_, plus_l (by show 7 + 1 ≤ 16777216; decide), _, ro_ne g, _, rfl, fun h => (nomatch h), fun _ => ?_⟩
    (repeat (first | (with_reducible refine eok_c ?_) | ((with_reducible refine eok_varX ?_); refine ⟨_, rfl, ?_⟩) | ((with_reducible refine eok_obsX ?_); refine ⟨_, _, rfl, ?_⟩) | (with_reducible refine eok_bin ?_) | (with_reducible refine eok_un ?_) | (with_reducible refine eok_not ?_) | (with_reducible refine eok_and ?_) | (with_reducible refine eok_or ?_) | (with_reducible refine eok_if ?_) | (with_reducible refine eok_chain ?_) | (with_reducible refine iok_nil ?_) | (with_reducible refine iok_cons ?_) | (with_reducible refine eok_tup ?_) | (with_reducible refine eok_lst ?_) | (with_reducible refine eok_call ?_) | (with_reducible refine eok_B ?_) | (with_reducible refine eok_isi ?_) | (with_reducible refine eok_int ?_) | (with_reducible refine eok_sl ?_) | (with_reducible refine eok_lrg ?_) | (with_reducible refine eok_err ?_) | (with_reducible refine eok_fldE ?_) | (with_reducible refine eok_isiE ?_) | (with_reducible refine iok_seq ?_) | (with_reducible refine iok_zip ?_) | (with_reducible refine iok_enum ?_) | (with_reducible refine iok_range1 ?_) | (with_reducible refine sok_next ?_) | (with_reducible refine sok_seq ?_) | (with_reducible refine sok_set ?_) | (with_reducible refine sok_setO ?_) | (with_reducible refine sok_par ?_) | (with_reducible refine sok_to ?_) | (with_reducible refine sok_drop ?_) | (with_reducible refine sok_ret ?_) | (with_reducible refine sok_if ?_) | (refine ⟨(by show List.length _ ≤ 16777216; simp only [List.length_cons, List.length_nil]; decide), ?_⟩)))
    rfl
  rintro _ rfl
  refine sok_cut (fun r => ∃ x9 x10 x11 x12, r = LE x y z (pl (.lst (MK x y z))) (pl (.lst (RO x y z))) (po x9) (po x10) (po x11) (po x12) none none none) ?_ ?_
  · refine sok_for (fun _ r => ∃ x9 x10 x11 x12, r = LE x y z (pl (.lst (MK x y z))) (pl (.lst (RO x y z))) (po x9) (po x10) (po x11) (po x12) none none none) ?_
    (repeat (first | (with_reducible refine eok_c ?_) | ((with_reducible refine eok_varX ?_); refine ⟨_, rfl, ?_⟩) | ((with_reducible refine eok_obsX ?_); refine ⟨_, _, rfl, ?_⟩) | (with_reducible refine eok_bin ?_) | (with_reducible refine eok_un ?_) | (with_reducible refine eok_not ?_) | (with_reducible refine eok_and ?_) | (with_reducible refine eok_or ?_) | (with_reducible refine eok_if ?_) | (with_reducible refine eok_chain ?_) | (with_reducible refine iok_nil ?_) | (with_reducible refine iok_cons ?_) | (with_reducible refine eok_tup ?_) | (with_reducible refine eok_lst ?_) | (with_reducible refine eok_call ?_) | (with_reducible refine eok_B ?_) | (with_reducible refine eok_isi ?_) | (with_reducible refine eok_int ?_) | (with_reducible refine eok_sl ?_) | (with_reducible refine eok_lrg ?_) | (with_reducible refine eok_err ?_) | (with_reducible refine eok_fldE ?_) | (with_reducible refine eok_isiE ?_) | (with_reducible refine iok_seq ?_) | (with_reducible refine iok_zip ?_) | (with_reducible refine iok_enum ?_) | (with_reducible refine iok_range1 ?_) | (with_reducible refine sok_next ?_) | (with_reducible refine sok_seq ?_) | (with_reducible refine sok_set ?_) | (with_reducible refine sok_setO ?_) | (with_reducible refine sok_par ?_) | (with_reducible refine sok_to ?_) | (with_reducible refine sok_drop ?_) | (with_reducible refine sok_ret ?_) | (with_reducible refine sok_if ?_) | (refine ⟨(by show List.length _ ≤ 16777216; simp only [List.length_cons, List.length_nil]; decide), ?_⟩)))
    refine ⟨_, MK x y z, rfl, rfl, ⟨none, none, none, none, rfl⟩, ?_, fun r h => h⟩
    rintro k d r hd ⟨x9, x10, x11, x12, rfl⟩
    obtain ⟨hk, rfl⟩ := enum_at hd
    refine ⟨_, rfl, ?_⟩
    generalize hone : (MK x y z).getD k .non = one
    refine sok_cut (fun r => ∃ x11 x12, r = LE x y z (pl (.lst (MK x y z))) (pl (.lst (RO x y z))) (pl (.int (k : Nat))) (pl one) (po x11) (po x12) none none none) ?_ ?_
    · refine sok_for (fun _ r => ∃ x11 x12, r = LE x y z (pl (.lst (MK x y z))) (pl (.lst (RO x y z))) (pl (.int (k : Nat))) (pl one) (po x11) (po x12) none none none) ?_
      (repeat (first | (with_reducible refine eok_c ?_) | ((with_reducible refine eok_varX ?_); refine ⟨_, rfl, ?_⟩) | ((with_reducible refine eok_obsX ?_); refine ⟨_, _, rfl, ?_⟩) | (with_reducible refine eok_bin ?_) | (with_reducible refine eok_un ?_) | (with_reducible refine eok_not ?_) | (with_reducible refine eok_and ?_) | (with_reducible refine eok_or ?_) | (with_reducible refine eok_if ?_) | (with_reducible refine eok_chain ?_) | (with_reducible refine iok_nil ?_) | (with_reducible refine iok_cons ?_) | (with_reducible refine eok_tup ?_) | (with_reducible refine eok_lst ?_) | (with_reducible refine eok_call ?_) | (with_reducible refine eok_B ?_) | (with_reducible refine eok_isi ?_) | (with_reducible refine eok_int ?_) | (with_reducible refine eok_sl ?_) | (with_reducible refine eok_lrg ?_) | (with_reducible refine eok_err ?_) | (with_reducible refine eok_fldE ?_) | (with_reducible refine eok_isiE ?_) | (with_reducible refine iok_seq ?_) | (with_reducible refine iok_zip ?_) | (with_reducible refine iok_enum ?_) | (with_reducible refine iok_range1 ?_) | (with_reducible refine sok_next ?_) | (with_reducible refine sok_seq ?_) | (with_reducible refine sok_set ?_) | (with_reducible refine sok_setO ?_) | (with_reducible refine sok_par ?_) | (with_reducible refine sok_to ?_) | (with_reducible refine sok_drop ?_) | (with_reducible refine sok_ret ?_) | (with_reducible refine sok_if ?_) | (refine ⟨(by show List.length _ ≤ 16777216; simp only [List.length_cons, List.length_nil]; decide), ?_⟩)))
      refine ⟨_, MK x y z, rfl, rfl, ⟨x11, x12, by cases x11 <;> cases x12 <;> rfl⟩, ?_, fun r h => h⟩
      rintro j d2 r hd2 ⟨x11, x12, rfl⟩
      obtain ⟨hj, rfl⟩ := enum_at hd2
      refine ⟨_, rfl, ?_⟩
      generalize hoth : (MK x y z).getD j .non = other
      (repeat (first | (with_reducible refine eok_c ?_) | ((with_reducible refine eok_varX ?_); refine ⟨_, rfl, ?_⟩) | ((with_reducible refine eok_obsX ?_); refine ⟨_, _, rfl, ?_⟩) | (with_reducible refine eok_bin ?_) | (with_reducible refine eok_un ?_) | (with_reducible refine eok_not ?_) | (with_reducible refine eok_and ?_) | (with_reducible refine eok_or ?_) | (with_reducible refine eok_if ?_) | (with_reducible refine eok_chain ?_) | (with_reducible refine iok_nil ?_) | (with_reducible refine iok_cons ?_) | (with_reducible refine eok_tup ?_) | (with_reducible refine eok_lst ?_) | (with_reducible refine eok_call ?_) | (with_reducible refine eok_B ?_) | (with_reducible refine eok_isi ?_) | (with_reducible refine eok_int ?_) | (with_reducible refine eok_sl ?_) | (with_reducible refine eok_lrg ?_) | (with_reducible refine eok_err ?_) | (with_reducible refine eok_fldE ?_) | (with_reducible refine eok_isiE ?_) | (with_reducible refine iok_seq ?_) | (with_reducible refine iok_zip ?_) | (with_reducible refine iok_enum ?_) | (with_reducible refine iok_range1 ?_) | (with_reducible refine sok_next ?_) | (with_reducible refine sok_seq ?_) | (with_reducible refine sok_set ?_) | (with_reducible refine sok_setO ?_) | (with_reducible refine sok_par ?_) | (with_reducible refine sok_to ?_) | (with_reducible refine sok_drop ?_) | (with_reducible refine sok_ret ?_) | (with_reducible refine sok_if ?_) | (refine ⟨(by show List.length _ ≤ 16777216; simp only [List.length_cons, List.length_nil]; decide), ?_⟩)))
      refine eok_eqM ?_
      (repeat (first | (with_reducible refine eok_c ?_) | ((with_reducible refine eok_varX ?_); refine ⟨_, rfl, ?_⟩) | ((with_reducible refine eok_obsX ?_); refine ⟨_, _, rfl, ?_⟩) | (with_reducible refine eok_bin ?_) | (with_reducible refine eok_un ?_) | (with_reducible refine eok_not ?_) | (with_reducible refine eok_and ?_) | (with_reducible refine eok_or ?_) | (with_reducible refine eok_if ?_) | (with_reducible refine eok_chain ?_) | (with_reducible refine iok_nil ?_) | (with_reducible refine iok_cons ?_) | (with_reducible refine eok_tup ?_) | (with_reducible refine eok_lst ?_) | (with_reducible refine eok_call ?_) | (with_reducible refine eok_B ?_) | (with_reducible refine eok_isi ?_) | (with_reducible refine eok_int ?_) | (with_reducible refine eok_sl ?_) | (with_reducible refine eok_lrg ?_) | (with_reducible refine eok_err ?_) | (with_reducible refine eok_fldE ?_) | (with_reducible refine eok_isiE ?_) | (with_reducible refine iok_seq ?_) | (with_reducible refine iok_zip ?_) | (with_reducible refine iok_enum ?_) | (with_reducible refine iok_range1 ?_) | (with_reducible refine sok_next ?_) | (with_reducible refine sok_seq ?_) | (with_reducible refine sok_set ?_) | (with_reducible refine sok_setO ?_) | (with_reducible refine sok_par ?_) | (with_reducible refine sok_to ?_) | (with_reducible refine sok_drop ?_) | (with_reducible refine sok_ret ?_) | (with_reducible refine sok_if ?_) | (refine ⟨(by show List.length _ ≤ 16777216; simp only [List.length_cons, List.length_nil]; decide), ?_⟩)))
      subst hone
      subst hoth
      refine mk_eq g g hk hj ?_
      rw [agree_self g]
      refine ⟨_, rfl, ?_⟩
      (repeat (first | (with_reducible refine eok_c ?_) | ((with_reducible refine eok_varX ?_); refine ⟨_, rfl, ?_⟩) | ((with_reducible refine eok_obsX ?_); refine ⟨_, _, rfl, ?_⟩) | (with_reducible refine eok_bin ?_) | (with_reducible refine eok_un ?_) | (with_reducible refine eok_not ?_) | (with_reducible refine eok_and ?_) | (with_reducible refine eok_or ?_) | (with_reducible refine eok_if ?_) | (with_reducible refine eok_chain ?_) | (with_reducible refine iok_nil ?_) | (with_reducible refine iok_cons ?_) | (with_reducible refine eok_tup ?_) | (with_reducible refine eok_lst ?_) | (with_reducible refine eok_call ?_) | (with_reducible refine eok_B ?_) | (with_reducible refine eok_isi ?_) | (with_reducible refine eok_int ?_) | (with_reducible refine eok_sl ?_) | (with_reducible refine eok_lrg ?_) | (with_reducible refine eok_err ?_) | (with_reducible refine eok_fldE ?_) | (with_reducible refine eok_isiE ?_) | (with_reducible refine iok_seq ?_) | (with_reducible refine iok_zip ?_) | (with_reducible refine iok_enum ?_) | (with_reducible refine iok_range1 ?_) | (with_reducible refine sok_next ?_) | (with_reducible refine sok_seq ?_) | (with_reducible refine sok_set ?_) | (with_reducible refine sok_setO ?_) | (with_reducible refine sok_par ?_) | (with_reducible refine sok_to ?_) | (with_reducible refine sok_drop ?_) | (with_reducible refine sok_ret ?_) | (with_reducible refine sok_if ?_) | (refine ⟨(by show List.length _ ≤ 16777216; simp only [List.length_cons, List.length_nil]; decide), ?_⟩)))
      refine ⟨_, eqD_int _ _, ?_⟩
      rw [dec_int, ne_bl]
      have e1 : (!((decide (k = j) && true) != false) == decide (k = j)) = false := by cases decide (k = j) <;> rfl
      rw [e1]
      refine ⟨_, rfl, _, rfl, fun h => (nomatch h), fun _ => ?_⟩
      (repeat (first | (with_reducible refine eok_c ?_) | ((with_reducible refine eok_varX ?_); refine ⟨_, rfl, ?_⟩) | ((with_reducible refine eok_obsX ?_); refine ⟨_, _, rfl, ?_⟩) | (with_reducible refine eok_bin ?_) | (with_reducible refine eok_un ?_) | (with_reducible refine eok_not ?_) | (with_reducible refine eok_and ?_) | (with_reducible refine eok_or ?_) | (with_reducible refine eok_if ?_) | (with_reducible refine eok_chain ?_) | (with_reducible refine iok_nil ?_) | (with_reducible refine iok_cons ?_) | (with_reducible refine eok_tup ?_) | (with_reducible refine eok_lst ?_) | (with_reducible refine eok_call ?_) | (with_reducible refine eok_B ?_) | (with_reducible refine eok_isi ?_) | (with_reducible refine eok_int ?_) | (with_reducible refine eok_sl ?_) | (with_reducible refine eok_lrg ?_) | (with_reducible refine eok_err ?_) | (with_reducible refine eok_fldE ?_) | (with_reducible refine eok_isiE ?_) | (with_reducible refine iok_seq ?_) | (with_reducible refine iok_zip ?_) | (with_reducible refine iok_enum ?_) | (with_reducible refine iok_range1 ?_) | (with_reducible refine sok_next ?_) | (with_reducible refine sok_seq ?_) | (with_reducible refine sok_set ?_) | (with_reducible refine sok_setO ?_) | (with_reducible refine sok_par ?_) | (with_reducible refine sok_to ?_) | (with_reducible refine sok_drop ?_) | (with_reducible refine sok_ret ?_) | (with_reducible refine sok_if ?_) | (refine ⟨(by show List.length _ ≤ 16777216; simp only [List.length_cons, List.length_nil]; decide), ?_⟩)))
      refine eok_eqM ?_
      (repeat (first | (with_reducible refine eok_c ?_) | ((with_reducible refine eok_varX ?_); refine ⟨_, rfl, ?_⟩) | ((with_reducible refine eok_obsX ?_); refine ⟨_, _, rfl, ?_⟩) | (with_reducible refine eok_bin ?_) | (with_reducible refine eok_un ?_) | (with_reducible refine eok_not ?_) | (with_reducible refine eok_and ?_) | (with_reducible refine eok_or ?_) | (with_reducible refine eok_if ?_) | (with_reducible refine eok_chain ?_) | (with_reducible refine iok_nil ?_) | (with_reducible refine iok_cons ?_) | (with_reducible refine eok_tup ?_) | (with_reducible refine eok_lst ?_) | (with_reducible refine eok_call ?_) | (with_reducible refine eok_B ?_) | (with_reducible refine eok_isi ?_) | (with_reducible refine eok_int ?_) | (with_reducible refine eok_sl ?_) | (with_reducible refine eok_lrg ?_) | (with_reducible refine eok_err ?_) | (with_reducible refine eok_fldE ?_) | (with_reducible refine eok_isiE ?_) | (with_reducible refine iok_seq ?_) | (with_reducible refine iok_zip ?_) | (with_reducible refine iok_enum ?_) | (with_reducible refine iok_range1 ?_) | (with_reducible refine sok_next ?_) | (with_reducible refine sok_seq ?_) | (with_reducible refine sok_set ?_) | (with_reducible refine sok_setO ?_) | (with_reducible refine sok_par ?_) | (with_reducible refine sok_to ?_) | (with_reducible refine sok_drop ?_) | (with_reducible refine sok_ret ?_) | (with_reducible refine sok_if ?_) | (refine ⟨(by show List.length _ ≤ 16777216; simp only [List.length_cons, List.length_nil]; decide), ?_⟩)))
      refine mk_eq g g hk hj ?_
      rw [agree_self g]
      refine ⟨_, rfl, ?_⟩
      (repeat (first | (with_reducible refine eok_c ?_) | ((with_reducible refine eok_varX ?_); refine ⟨_, rfl, ?_⟩) | ((with_reducible refine eok_obsX ?_); refine ⟨_, _, rfl, ?_⟩) | (with_reducible refine eok_bin ?_) | (with_reducible refine eok_un ?_) | (with_reducible refine eok_not ?_) | (with_reducible refine eok_and ?_) | (with_reducible refine eok_or ?_) | (with_reducible refine eok_if ?_) | (with_reducible refine eok_chain ?_) | (with_reducible refine iok_nil ?_) | (with_reducible refine iok_cons ?_) | (with_reducible refine eok_tup ?_) | (with_reducible refine eok_lst ?_) | (with_reducible refine eok_call ?_) | (with_reducible refine eok_B ?_) | (with_reducible refine eok_isi ?_) | (with_reducible refine eok_int ?_) | (with_reducible refine eok_sl ?_) | (with_reducible refine eok_lrg ?_) | (with_reducible refine eok_err ?_) | (with_reducible refine eok_fldE ?_) | (with_reducible refine eok_isiE ?_) | (with_reducible refine iok_seq ?_) | (with_reducible refine iok_zip ?_) | (with_reducible refine iok_enum ?_) | (with_reducible refine iok_range1 ?_) | (with_reducible refine sok_next ?_) | (with_reducible refine sok_seq ?_) | (with_reducible refine sok_set ?_) | (with_reducible refine sok_setO ?_) | (with_reducible refine sok_par ?_) | (with_reducible refine sok_to ?_) | (with_reducible refine sok_drop ?_) | (with_reducible refine sok_ret ?_) | (with_reducible refine sok_if ?_) | (refine ⟨(by show List.length _ ≤ 16777216; simp only [List.length_cons, List.length_nil]; decide), ?_⟩)))
      refine ⟨_, neD_int _ _, ?_⟩
      rw [dec_int, ne_bl]
      have e2 : (!(((decide (k = j) && true) != true) == !decide (k = j))) = false := by cases decide (k = j) <;> rfl
      rw [e2]
      refine ⟨_, rfl, _, rfl, fun h => (nomatch h), fun _ => ?_⟩
      exact sok_next ⟨some _, some _, rfl⟩
    rintro _ ⟨x11, x12, rfl⟩
    subst hone
    (repeat (first | (with_reducible refine eok_c ?_) | ((with_reducible refine eok_varX ?_); refine ⟨_, rfl, ?_⟩) | ((with_reducible refine eok_obsX ?_); refine ⟨_, _, rfl, ?_⟩) | (with_reducible refine eok_bin ?_) | (with_reducible refine eok_un ?_) | (with_reducible refine eok_not ?_) | (with_reducible refine eok_and ?_) | (with_reducible refine eok_or ?_) | (with_reducible refine eok_if ?_) | (with_reducible refine eok_chain ?_) | (with_reducible refine iok_nil ?_) | (with_reducible refine iok_cons ?_) | (with_reducible refine eok_tup ?_) | (with_reducible refine eok_lst ?_) | (with_reducible refine eok_call ?_) | (with_reducible refine eok_B ?_) | (with_reducible refine eok_isi ?_) | (with_reducible refine eok_int ?_) | (with_reducible refine eok_sl ?_) | (with_reducible refine eok_lrg ?_) | (with_reducible refine eok_err ?_) | (with_reducible refine eok_fldE ?_) | (with_reducible refine eok_isiE ?_) | (with_reducible refine iok_seq ?_) | (with_reducible refine iok_zip ?_) | (with_reducible refine iok_enum ?_) | (with_reducible refine iok_range1 ?_) | (with_reducible refine sok_next ?_) | (with_reducible refine sok_seq ?_) | (with_reducible refine sok_set ?_) | (with_reducible refine sok_setO ?_) | (with_reducible refine sok_par ?_) | (with_reducible refine sok_to ?_) | (with_reducible refine sok_drop ?_) | (with_reducible refine sok_ret ?_) | (with_reducible refine sok_if ?_) | (refine ⟨(by show List.length _ ≤ 16777216; simp only [List.length_cons, List.length_nil]; decide), ?_⟩)))
    refine eok_eqM ?_
    (repeat (first | (with_reducible refine eok_c ?_) | ((with_reducible refine eok_varX ?_); refine ⟨_, rfl, ?_⟩) | ((with_reducible refine eok_obsX ?_); refine ⟨_, _, rfl, ?_⟩) | (with_reducible refine eok_bin ?_) | (with_reducible refine eok_un ?_) | (with_reducible refine eok_not ?_) | (with_reducible refine eok_and ?_) | (with_reducible refine eok_or ?_) | (with_reducible refine eok_if ?_) | (with_reducible refine eok_chain ?_) | (with_reducible refine iok_nil ?_) | (with_reducible refine iok_cons ?_) | (with_reducible refine eok_tup ?_) | (with_reducible refine eok_lst ?_) | (with_reducible refine eok_call ?_) | (with_reducible refine eok_B ?_) | (with_reducible refine eok_isi ?_) | (with_reducible refine eok_int ?_) | (with_reducible refine eok_sl ?_) | (with_reducible refine eok_lrg ?_) | (with_reducible refine eok_err ?_) | (with_reducible refine eok_fldE ?_) | (with_reducible refine eok_isiE ?_) | (with_reducible refine iok_seq ?_) | (with_reducible refine iok_zip ?_) | (with_reducible refine iok_enum ?_) | (with_reducible refine iok_range1 ?_) | (with_reducible refine sok_next ?_) | (with_reducible refine sok_seq ?_) | (with_reducible refine sok_set ?_) | (with_reducible refine sok_setO ?_) | (with_reducible refine sok_par ?_) | (with_reducible refine sok_to ?_) | (with_reducible refine sok_drop ?_) | (with_reducible refine sok_ret ?_) | (with_reducible refine sok_if ?_) | (refine ⟨(by show List.length _ ≤ 16777216; simp only [List.length_cons, List.length_nil]; decide), ?_⟩)))
    refine ⟨x, rfl, ?_⟩
    refine mk_ne (fl_ty fa).1 (fl_ty fa).2 hk ?_
    refine ⟨_, rfl, _, rfl, fun h => (nomatch h), fun _ => ?_⟩
    (repeat (first | (with_reducible refine eok_c ?_) | ((with_reducible refine eok_varX ?_); refine ⟨_, rfl, ?_⟩) | ((with_reducible refine eok_obsX ?_); refine ⟨_, _, rfl, ?_⟩) | (with_reducible refine eok_bin ?_) | (with_reducible refine eok_un ?_) | (with_reducible refine eok_not ?_) | (with_reducible refine eok_and ?_) | (with_reducible refine eok_or ?_) | (with_reducible refine eok_if ?_) | (with_reducible refine eok_chain ?_) | (with_reducible refine iok_nil ?_) | (with_reducible refine iok_cons ?_) | (with_reducible refine eok_tup ?_) | (with_reducible refine eok_lst ?_) | (with_reducible refine eok_call ?_) | (with_reducible refine eok_B ?_) | (with_reducible refine eok_isi ?_) | (with_reducible refine eok_int ?_) | (with_reducible refine eok_sl ?_) | (with_reducible refine eok_lrg ?_) | (with_reducible refine eok_err ?_) | (with_reducible refine eok_fldE ?_) | (with_reducible refine eok_isiE ?_) | (with_reducible refine iok_seq ?_) | (with_reducible refine iok_zip ?_) | (with_reducible refine iok_enum ?_) | (with_reducible refine iok_range1 ?_) | (with_reducible refine sok_next ?_) | (with_reducible refine sok_seq ?_) | (with_reducible refine sok_set ?_) | (with_reducible refine sok_setO ?_) | (with_reducible refine sok_par ?_) | (with_reducible refine sok_to ?_) | (with_reducible refine sok_drop ?_) | (with_reducible refine sok_ret ?_) | (with_reducible refine sok_if ?_) | (refine ⟨(by show List.length _ ≤ 16777216; simp only [List.length_cons, List.length_nil]; decide), ?_⟩)))
    refine eok_eqM ?_
    (repeat (first | (with_reducible refine eok_c ?_) | ((with_reducible refine eok_varX ?_); refine ⟨_, rfl, ?_⟩) | ((with_reducible refine eok_obsX ?_); refine ⟨_, _, rfl, ?_⟩) | (with_reducible refine eok_bin ?_) | (with_reducible refine eok_un ?_) | (with_reducible refine eok_not ?_) | (with_reducible refine eok_and ?_) | (with_reducible refine eok_or ?_) | (with_reducible refine eok_if ?_) | (with_reducible refine eok_chain ?_) | (with_reducible refine iok_nil ?_) | (with_reducible refine iok_cons ?_) | (with_reducible refine eok_tup ?_) | (with_reducible refine eok_lst ?_) | (with_reducible refine eok_call ?_) | (with_reducible refine eok_B ?_) | (with_reducible refine eok_isi ?_) | (with_reducible refine eok_int ?_) | (with_reducible refine eok_sl ?_) | (with_reducible refine eok_lrg ?_) | (with_reducible refine eok_err ?_) | (with_reducible refine eok_fldE ?_) | (with_reducible refine eok_isiE ?_) | (with_reducible refine iok_seq ?_) | (with_reducible refine iok_zip ?_) | (with_reducible refine iok_enum ?_) | (with_reducible refine iok_range1 ?_) | (with_reducible refine sok_next ?_) | (with_reducible refine sok_seq ?_) | (with_reducible refine sok_set ?_) | (with_reducible refine sok_setO ?_) | (with_reducible refine sok_par ?_) | (with_reducible refine sok_to ?_) | (with_reducible refine sok_drop ?_) | (with_reducible refine sok_ret ?_) | (with_reducible refine sok_if ?_) | (refine ⟨(by show List.length _ ≤ 16777216; simp only [List.length_cons, List.length_nil]; decide), ?_⟩)))
    obtain ⟨l, e3, _⟩ := ro_at (x := x) (y := y) (z := z) hk
    refine ⟨_, e3, ?_⟩
    (repeat (first | (with_reducible refine eok_c ?_) | ((with_reducible refine eok_varX ?_); refine ⟨_, rfl, ?_⟩) | ((with_reducible refine eok_obsX ?_); refine ⟨_, _, rfl, ?_⟩) | (with_reducible refine eok_bin ?_) | (with_reducible refine eok_un ?_) | (with_reducible refine eok_not ?_) | (with_reducible refine eok_and ?_) | (with_reducible refine eok_or ?_) | (with_reducible refine eok_if ?_) | (with_reducible refine eok_chain ?_) | (with_reducible refine iok_nil ?_) | (with_reducible refine iok_cons ?_) | (with_reducible refine eok_tup ?_) | (with_reducible refine eok_lst ?_) | (with_reducible refine eok_call ?_) | (with_reducible refine eok_B ?_) | (with_reducible refine eok_isi ?_) | (with_reducible refine eok_int ?_) | (with_reducible refine eok_sl ?_) | (with_reducible refine eok_lrg ?_) | (with_reducible refine eok_err ?_) | (with_reducible refine eok_fldE ?_) | (with_reducible refine eok_isiE ?_) | (with_reducible refine iok_seq ?_) | (with_reducible refine iok_zip ?_) | (with_reducible refine iok_enum ?_) | (with_reducible refine iok_range1 ?_) | (with_reducible refine sok_next ?_) | (with_reducible refine sok_seq ?_) | (with_reducible refine sok_set ?_) | (with_reducible refine sok_setO ?_) | (with_reducible refine sok_par ?_) | (with_reducible refine sok_to ?_) | (with_reducible refine sok_drop ?_) | (with_reducible refine sok_ret ?_) | (with_reducible refine sok_if ?_) | (refine ⟨(by show List.length _ ≤ 16777216; simp only [List.length_cons, List.length_nil]; decide), ?_⟩)))
    refine ⟨.tup l, rfl, ?_⟩
    refine mk_ne rfl rfl hk ?_
    refine ⟨_, rfl, _, rfl, fun h => (nomatch h), fun _ => ?_⟩
    refine eok_eqM ?_
    (repeat (first | (with_reducible refine eok_c ?_) | ((with_reducible refine eok_varX ?_); refine ⟨_, rfl, ?_⟩) | ((with_reducible refine eok_obsX ?_); refine ⟨_, _, rfl, ?_⟩) | (with_reducible refine eok_bin ?_) | (with_reducible refine eok_un ?_) | (with_reducible refine eok_not ?_) | (with_reducible refine eok_and ?_) | (with_reducible refine eok_or ?_) | (with_reducible refine eok_if ?_) | (with_reducible refine eok_chain ?_) | (with_reducible refine iok_nil ?_) | (with_reducible refine iok_cons ?_) | (with_reducible refine eok_tup ?_) | (with_reducible refine eok_lst ?_) | (with_reducible refine eok_call ?_) | (with_reducible refine eok_B ?_) | (with_reducible refine eok_isi ?_) | (with_reducible refine eok_int ?_) | (with_reducible refine eok_sl ?_) | (with_reducible refine eok_lrg ?_) | (with_reducible refine eok_err ?_) | (with_reducible refine eok_fldE ?_) | (with_reducible refine eok_isiE ?_) | (with_reducible refine iok_seq ?_) | (with_reducible refine iok_zip ?_) | (with_reducible refine iok_enum ?_) | (with_reducible refine iok_range1 ?_) | (with_reducible refine sok_next ?_) | (with_reducible refine sok_seq ?_) | (with_reducible refine sok_set ?_) | (with_reducible refine sok_setO ?_) | (with_reducible refine sok_par ?_) | (with_reducible refine sok_to ?_) | (with_reducible refine sok_drop ?_) | (with_reducible refine sok_ret ?_) | (with_reducible refine sok_if ?_) | (refine ⟨(by show List.length _ ≤ 16777216; simp only [List.length_cons, List.length_nil]; decide), ?_⟩)))
    refine mk_ne rfl rfl hk ?_
    refine ⟨_, rfl, _, rfl, fun h => (nomatch h), fun _ => ?_⟩
    exact sok_next ⟨some _, some _, _, _, rfl⟩
  rintro _ ⟨x9, x10, x11, x12, rfl⟩
  refine sok_cut (fun r => ∃ (t : Int), (t = 0 ∨ t = 1 ∨ t = 2) ∧ r = LE x y z (pl (.lst (MK x y z))) (pl (.lst (RO x y z))) (po x9) (po x10) (po x11) (po x12) (pl (.int t)) none none) ?_ ?_
  · (repeat (first | (with_reducible refine eok_c ?_) | ((with_reducible refine eok_varX ?_); refine ⟨_, rfl, ?_⟩) | ((with_reducible refine eok_obsX ?_); refine ⟨_, _, rfl, ?_⟩) | (with_reducible refine eok_bin ?_) | (with_reducible refine eok_un ?_) | (with_reducible refine eok_not ?_) | (with_reducible refine eok_and ?_) | (with_reducible refine eok_or ?_) | (with_reducible refine eok_if ?_) | (with_reducible refine eok_chain ?_) | (with_reducible refine iok_nil ?_) | (with_reducible refine iok_cons ?_) | (with_reducible refine eok_tup ?_) | (with_reducible refine eok_lst ?_) | (with_reducible refine eok_call ?_) | (with_reducible refine eok_B ?_) | (with_reducible refine eok_isi ?_) | (with_reducible refine eok_int ?_) | (with_reducible refine eok_sl ?_) | (with_reducible refine eok_lrg ?_) | (with_reducible refine eok_err ?_) | (with_reducible refine eok_fldE ?_) | (with_reducible refine eok_isiE ?_) | (with_reducible refine iok_seq ?_) | (with_reducible refine iok_zip ?_) | (with_reducible refine iok_enum ?_) | (with_reducible refine iok_range1 ?_) | (with_reducible refine sok_next ?_) | (with_reducible refine sok_seq ?_) | (with_reducible refine sok_set ?_) | (with_reducible refine sok_setO ?_) | (with_reducible refine sok_par ?_) | (with_reducible refine sok_to ?_) | (with_reducible refine sok_drop ?_) | (with_reducible refine sok_ret ?_) | (with_reducible refine sok_if ?_) | (refine ⟨(by show List.length _ ≤ 16777216; simp only [List.length_cons, List.length_nil]; decide), ?_⟩)))
    refine draw (by decide) (by decide) fun t h0 h1 => ⟨t, by omega, ?_⟩
    cases x9 <;> cases x10 <;> cases x11 <;> cases x12 <;> rfl
  rintro _ ⟨t, ht, rfl⟩
  refine sok_cut (fun r => ∃ x' y' z', Bent t x y z x' y' z' ∧ r = LE x y z (pl (.lst (MK x y z))) (pl (.lst (RO x y z))) (po x9) (po x10) (po x11) (po x12) (pl (.int t)) (pl (.lst [x', y', z'])) none) ?_ ?_
  · rcases ht with rfl | rfl | rfl
    · (repeat (first | (with_reducible refine eok_c ?_) | ((with_reducible refine eok_varX ?_); refine ⟨_, rfl, ?_⟩) | ((with_reducible refine eok_obsX ?_); refine ⟨_, _, rfl, ?_⟩) | (with_reducible refine eok_bin ?_) | (with_reducible refine eok_un ?_) | (with_reducible refine eok_not ?_) | (with_reducible refine eok_and ?_) | (with_reducible refine eok_or ?_) | (with_reducible refine eok_if ?_) | (with_reducible refine eok_chain ?_) | (with_reducible refine iok_nil ?_) | (with_reducible refine iok_cons ?_) | (with_reducible refine eok_tup ?_) | (with_reducible refine eok_lst ?_) | (with_reducible refine eok_call ?_) | (with_reducible refine eok_B ?_) | (with_reducible refine eok_isi ?_) | (with_reducible refine eok_int ?_) | (with_reducible refine eok_sl ?_) | (with_reducible refine eok_lrg ?_) | (with_reducible refine eok_err ?_) | (with_reducible refine eok_fldE ?_) | (with_reducible refine eok_isiE ?_) | (with_reducible refine iok_seq ?_) | (with_reducible refine iok_zip ?_) | (with_reducible refine iok_enum ?_) | (with_reducible refine iok_range1 ?_) | (with_reducible refine sok_next ?_) | (with_reducible refine sok_seq ?_) | (with_reducible refine sok_set ?_) | (with_reducible refine sok_setO ?_) | (with_reducible refine sok_par ?_) | (with_reducible refine sok_to ?_) | (with_reducible refine sok_drop ?_) | (with_reducible refine sok_ret ?_) | (with_reducible refine sok_if ?_) | (refine ⟨(by show List.length _ ≤ 16777216; simp only [List.length_cons, List.length_nil]; decide), ?_⟩)))
      refine ⟨0, rfl, .lst [], rfl, ?_⟩
      (repeat (first | (with_reducible refine eok_c ?_) | ((with_reducible refine eok_varX ?_); refine ⟨_, rfl, ?_⟩) | ((with_reducible refine eok_obsX ?_); refine ⟨_, _, rfl, ?_⟩) | (with_reducible refine eok_bin ?_) | (with_reducible refine eok_un ?_) | (with_reducible refine eok_not ?_) | (with_reducible refine eok_and ?_) | (with_reducible refine eok_or ?_) | (with_reducible refine eok_if ?_) | (with_reducible refine eok_chain ?_) | (with_reducible refine iok_nil ?_) | (with_reducible refine iok_cons ?_) | (with_reducible refine eok_tup ?_) | (with_reducible refine eok_lst ?_) | (with_reducible refine eok_call ?_) | (with_reducible refine eok_B ?_) | (with_reducible refine eok_isi ?_) | (with_reducible refine eok_int ?_) | (with_reducible refine eok_sl ?_) | (with_reducible refine eok_lrg ?_) | (with_reducible refine eok_err ?_) | (with_reducible refine eok_fldE ?_) | (with_reducible refine eok_isiE ?_) | (with_reducible refine iok_seq ?_) | (with_reducible refine iok_zip ?_) | (with_reducible refine iok_enum ?_) | (with_reducible refine iok_range1 ?_) | (with_reducible refine sok_next ?_) | (with_reducible refine sok_seq ?_) | (with_reducible refine sok_set ?_) | (with_reducible refine sok_setO ?_) | (with_reducible refine sok_par ?_) | (with_reducible refine sok_to ?_) | (with_reducible refine sok_drop ?_) | (with_reducible refine sok_ret ?_) | (with_reducible refine sok_if ?_) | (refine ⟨(by show List.length _ ≤ 16777216; simp only [List.length_cons, List.length_nil]; decide), ?_⟩)))
      refine ⟨x, rfl, ?_⟩
      (repeat (first | (with_reducible refine eok_c ?_) | ((with_reducible refine eok_varX ?_); refine ⟨_, rfl, ?_⟩) | ((with_reducible refine eok_obsX ?_); refine ⟨_, _, rfl, ?_⟩) | (with_reducible refine eok_bin ?_) | (with_reducible refine eok_un ?_) | (with_reducible refine eok_not ?_) | (with_reducible refine eok_and ?_) | (with_reducible refine eok_or ?_) | (with_reducible refine eok_if ?_) | (with_reducible refine eok_chain ?_) | (with_reducible refine iok_nil ?_) | (with_reducible refine iok_cons ?_) | (with_reducible refine eok_tup ?_) | (with_reducible refine eok_lst ?_) | (with_reducible refine eok_call ?_) | (with_reducible refine eok_B ?_) | (with_reducible refine eok_isi ?_) | (with_reducible refine eok_int ?_) | (with_reducible refine eok_sl ?_) | (with_reducible refine eok_lrg ?_) | (with_reducible refine eok_err ?_) | (with_reducible refine eok_fldE ?_) | (with_reducible refine eok_isiE ?_) | (with_reducible refine iok_seq ?_) | (with_reducible refine iok_zip ?_) | (with_reducible refine iok_enum ?_) | (with_reducible refine iok_range1 ?_) | (with_reducible refine sok_next ?_) | (with_reducible refine sok_seq ?_) | (with_reducible refine sok_set ?_) | (with_reducible refine sok_setO ?_) | (with_reducible refine sok_par ?_) | (with_reducible refine sok_to ?_) | (with_reducible refine sok_drop ?_) | (with_reducible refine sok_ret ?_) | (with_reducible refine sok_if ?_) | (refine ⟨(by show List.length _ ≤ 16777216; simp only [List.length_cons, List.length_nil]; decide), ?_⟩)))
      refine ⟨_, plus_l (by show 0 + 1 ≤ 16777216; decide), ?_⟩
      (repeat (first | (with_reducible refine eok_c ?_) | ((with_reducible refine eok_varX ?_); refine ⟨_, rfl, ?_⟩) | ((with_reducible refine eok_obsX ?_); refine ⟨_, _, rfl, ?_⟩) | (with_reducible refine eok_bin ?_) | (with_reducible refine eok_un ?_) | (with_reducible refine eok_not ?_) | (with_reducible refine eok_and ?_) | (with_reducible refine eok_or ?_) | (with_reducible refine eok_if ?_) | (with_reducible refine eok_chain ?_) | (with_reducible refine iok_nil ?_) | (with_reducible refine iok_cons ?_) | (with_reducible refine eok_tup ?_) | (with_reducible refine eok_lst ?_) | (with_reducible refine eok_call ?_) | (with_reducible refine eok_B ?_) | (with_reducible refine eok_isi ?_) | (with_reducible refine eok_int ?_) | (with_reducible refine eok_sl ?_) | (with_reducible refine eok_lrg ?_) | (with_reducible refine eok_err ?_) | (with_reducible refine eok_fldE ?_) | (with_reducible refine eok_isiE ?_) | (with_reducible refine iok_seq ?_) | (with_reducible refine iok_zip ?_) | (with_reducible refine iok_enum ?_) | (with_reducible refine iok_range1 ?_) | (with_reducible refine sok_next ?_) | (with_reducible refine sok_seq ?_) | (with_reducible refine sok_set ?_) | (with_reducible refine sok_setO ?_) | (with_reducible refine sok_par ?_) | (with_reducible refine sok_to ?_) | (with_reducible refine sok_drop ?_) | (with_reducible refine sok_ret ?_) | (with_reducible refine sok_if ?_) | (refine ⟨(by show List.length _ ≤ 16777216; simp only [List.length_cons, List.length_nil]; decide), ?_⟩)))
      refine ⟨_, plusD_i, 1, rfl, ?_⟩
      (repeat (first | (with_reducible refine eok_c ?_) | ((with_reducible refine eok_varX ?_); refine ⟨_, rfl, ?_⟩) | ((with_reducible refine eok_obsX ?_); refine ⟨_, _, rfl, ?_⟩) | (with_reducible refine eok_bin ?_) | (with_reducible refine eok_un ?_) | (with_reducible refine eok_not ?_) | (with_reducible refine eok_and ?_) | (with_reducible refine eok_or ?_) | (with_reducible refine eok_if ?_) | (with_reducible refine eok_chain ?_) | (with_reducible refine iok_nil ?_) | (with_reducible refine iok_cons ?_) | (with_reducible refine eok_tup ?_) | (with_reducible refine eok_lst ?_) | (with_reducible refine eok_call ?_) | (with_reducible refine eok_B ?_) | (with_reducible refine eok_isi ?_) | (with_reducible refine eok_int ?_) | (with_reducible refine eok_sl ?_) | (with_reducible refine eok_lrg ?_) | (with_reducible refine eok_err ?_) | (with_reducible refine eok_fldE ?_) | (with_reducible refine eok_isiE ?_) | (with_reducible refine iok_seq ?_) | (with_reducible refine iok_zip ?_) | (with_reducible refine iok_enum ?_) | (with_reducible refine iok_range1 ?_) | (with_reducible refine sok_next ?_) | (with_reducible refine sok_seq ?_) | (with_reducible refine sok_set ?_) | (with_reducible refine sok_setO ?_) | (with_reducible refine sok_par ?_) | (with_reducible refine sok_to ?_) | (with_reducible refine sok_drop ?_) | (with_reducible refine sok_ret ?_) | (with_reducible refine sok_if ?_) | (refine ⟨(by show List.length _ ≤ 16777216; simp only [List.length_cons, List.length_nil]; decide), ?_⟩)))
      refine ⟨.lst [y, z], rfl, _, plus_l (by show 1 + 2 ≤ 16777216; decide), Bn x, y, z, .inl ⟨rfl, rfl, rfl, rfl⟩, ?_⟩
      cases x9 <;> cases x10 <;> cases x11 <;> cases x12 <;> rfl
    · (repeat (first | (with_reducible refine eok_c ?_) | ((with_reducible refine eok_varX ?_); refine ⟨_, rfl, ?_⟩) | ((with_reducible refine eok_obsX ?_); refine ⟨_, _, rfl, ?_⟩) | (with_reducible refine eok_bin ?_) | (with_reducible refine eok_un ?_) | (with_reducible refine eok_not ?_) | (with_reducible refine eok_and ?_) | (with_reducible refine eok_or ?_) | (with_reducible refine eok_if ?_) | (with_reducible refine eok_chain ?_) | (with_reducible refine iok_nil ?_) | (with_reducible refine iok_cons ?_) | (with_reducible refine eok_tup ?_) | (with_reducible refine eok_lst ?_) | (with_reducible refine eok_call ?_) | (with_reducible refine eok_B ?_) | (with_reducible refine eok_isi ?_) | (with_reducible refine eok_int ?_) | (with_reducible refine eok_sl ?_) | (with_reducible refine eok_lrg ?_) | (with_reducible refine eok_err ?_) | (with_reducible refine eok_fldE ?_) | (with_reducible refine eok_isiE ?_) | (with_reducible refine iok_seq ?_) | (with_reducible refine iok_zip ?_) | (with_reducible refine iok_enum ?_) | (with_reducible refine iok_range1 ?_) | (with_reducible refine sok_next ?_) | (with_reducible refine sok_seq ?_) | (with_reducible refine sok_set ?_) | (with_reducible refine sok_setO ?_) | (with_reducible refine sok_par ?_) | (with_reducible refine sok_to ?_) | (with_reducible refine sok_drop ?_) | (with_reducible refine sok_ret ?_) | (with_reducible refine sok_if ?_) | (refine ⟨(by show List.length _ ≤ 16777216; simp only [List.length_cons, List.length_nil]; decide), ?_⟩)))
      refine ⟨1, rfl, .lst [x], rfl, ?_⟩
      (repeat (first | (with_reducible refine eok_c ?_) | ((with_reducible refine eok_varX ?_); refine ⟨_, rfl, ?_⟩) | ((with_reducible refine eok_obsX ?_); refine ⟨_, _, rfl, ?_⟩) | (with_reducible refine eok_bin ?_) | (with_reducible refine eok_un ?_) | (with_reducible refine eok_not ?_) | (with_reducible refine eok_and ?_) | (with_reducible refine eok_or ?_) | (with_reducible refine eok_if ?_) | (with_reducible refine eok_chain ?_) | (with_reducible refine iok_nil ?_) | (with_reducible refine iok_cons ?_) | (with_reducible refine eok_tup ?_) | (with_reducible refine eok_lst ?_) | (with_reducible refine eok_call ?_) | (with_reducible refine eok_B ?_) | (with_reducible refine eok_isi ?_) | (with_reducible refine eok_int ?_) | (with_reducible refine eok_sl ?_) | (with_reducible refine eok_lrg ?_) | (with_reducible refine eok_err ?_) | (with_reducible refine eok_fldE ?_) | (with_reducible refine eok_isiE ?_) | (with_reducible refine iok_seq ?_) | (with_reducible refine iok_zip ?_) | (with_reducible refine iok_enum ?_) | (with_reducible refine iok_range1 ?_) | (with_reducible refine sok_next ?_) | (with_reducible refine sok_seq ?_) | (with_reducible refine sok_set ?_) | (with_reducible refine sok_setO ?_) | (with_reducible refine sok_par ?_) | (with_reducible refine sok_to ?_) | (with_reducible refine sok_drop ?_) | (with_reducible refine sok_ret ?_) | (with_reducible refine sok_if ?_) | (refine ⟨(by show List.length _ ≤ 16777216; simp only [List.length_cons, List.length_nil]; decide), ?_⟩)))
      refine ⟨y, rfl, ?_⟩
      (repeat (first | (with_reducible refine eok_c ?_) | ((with_reducible refine eok_varX ?_); refine ⟨_, rfl, ?_⟩) | ((with_reducible refine eok_obsX ?_); refine ⟨_, _, rfl, ?_⟩) | (with_reducible refine eok_bin ?_) | (with_reducible refine eok_un ?_) | (with_reducible refine eok_not ?_) | (with_reducible refine eok_and ?_) | (with_reducible refine eok_or ?_) | (with_reducible refine eok_if ?_) | (with_reducible refine eok_chain ?_) | (with_reducible refine iok_nil ?_) | (with_reducible refine iok_cons ?_) | (with_reducible refine eok_tup ?_) | (with_reducible refine eok_lst ?_) | (with_reducible refine eok_call ?_) | (with_reducible refine eok_B ?_) | (with_reducible refine eok_isi ?_) | (with_reducible refine eok_int ?_) | (with_reducible refine eok_sl ?_) | (with_reducible refine eok_lrg ?_) | (with_reducible refine eok_err ?_) | (with_reducible refine eok_fldE ?_) | (with_reducible refine eok_isiE ?_) | (with_reducible refine iok_seq ?_) | (with_reducible refine iok_zip ?_) | (with_reducible refine iok_enum ?_) | (with_reducible refine iok_range1 ?_) | (with_reducible refine sok_next ?_) | (with_reducible refine sok_seq ?_) | (with_reducible refine sok_set ?_) | (with_reducible refine sok_setO ?_) | (with_reducible refine sok_par ?_) | (with_reducible refine sok_to ?_) | (with_reducible refine sok_drop ?_) | (with_reducible refine sok_ret ?_) | (with_reducible refine sok_if ?_) | (refine ⟨(by show List.length _ ≤ 16777216; simp only [List.length_cons, List.length_nil]; decide), ?_⟩)))
      refine ⟨_, plus_l (by show 1 + 1 ≤ 16777216; decide), ?_⟩
      (repeat (first | (with_reducible refine eok_c ?_) | ((with_reducible refine eok_varX ?_); refine ⟨_, rfl, ?_⟩) | ((with_reducible refine eok_obsX ?_); refine ⟨_, _, rfl, ?_⟩) | (with_reducible refine eok_bin ?_) | (with_reducible refine eok_un ?_) | (with_reducible refine eok_not ?_) | (with_reducible refine eok_and ?_) | (with_reducible refine eok_or ?_) | (with_reducible refine eok_if ?_) | (with_reducible refine eok_chain ?_) | (with_reducible refine iok_nil ?_) | (with_reducible refine iok_cons ?_) | (with_reducible refine eok_tup ?_) | (with_reducible refine eok_lst ?_) | (with_reducible refine eok_call ?_) | (with_reducible refine eok_B ?_) | (with_reducible refine eok_isi ?_) | (with_reducible refine eok_int ?_) | (with_reducible refine eok_sl ?_) | (with_reducible refine eok_lrg ?_) | (with_reducible refine eok_err ?_) | (with_reducible refine eok_fldE ?_) | (with_reducible refine eok_isiE ?_) | (with_reducible refine iok_seq ?_) | (with_reducible refine iok_zip ?_) | (with_reducible refine iok_enum ?_) | (with_reducible refine iok_range1 ?_) | (with_reducible refine sok_next ?_) | (with_reducible refine sok_seq ?_) | (with_reducible refine sok_set ?_) | (with_reducible refine sok_setO ?_) | (with_reducible refine sok_par ?_) | (with_reducible refine sok_to ?_) | (with_reducible refine sok_drop ?_) | (with_reducible refine sok_ret ?_) | (with_reducible refine sok_if ?_) | (refine ⟨(by show List.length _ ≤ 16777216; simp only [List.length_cons, List.length_nil]; decide), ?_⟩)))
      refine ⟨_, plusD_i, 2, rfl, ?_⟩
      (repeat (first | (with_reducible refine eok_c ?_) | ((with_reducible refine eok_varX ?_); refine ⟨_, rfl, ?_⟩) | ((with_reducible refine eok_obsX ?_); refine ⟨_, _, rfl, ?_⟩) | (with_reducible refine eok_bin ?_) | (with_reducible refine eok_un ?_) | (with_reducible refine eok_not ?_) | (with_reducible refine eok_and ?_) | (with_reducible refine eok_or ?_) | (with_reducible refine eok_if ?_) | (with_reducible refine eok_chain ?_) | (with_reducible refine iok_nil ?_) | (with_reducible refine iok_cons ?_) | (with_reducible refine eok_tup ?_) | (with_reducible refine eok_lst ?_) | (with_reducible refine eok_call ?_) | (with_reducible refine eok_B ?_) | (with_reducible refine eok_isi ?_) | (with_reducible refine eok_int ?_) | (with_reducible refine eok_sl ?_) | (with_reducible refine eok_lrg ?_) | (with_reducible refine eok_err ?_) | (with_reducible refine eok_fldE ?_) | (with_reducible refine eok_isiE ?_) | (with_reducible refine iok_seq ?_) | (with_reducible refine iok_zip ?_) | (with_reducible refine iok_enum ?_) | (with_reducible refine iok_range1 ?_) | (with_reducible refine sok_next ?_) | (with_reducible refine sok_seq ?_) | (with_reducible refine sok_set ?_) | (with_reducible refine sok_setO ?_) | (with_reducible refine sok_par ?_) | (with_reducible refine sok_to ?_) | (with_reducible refine sok_drop ?_) | (with_reducible refine sok_ret ?_) | (with_reducible refine sok_if ?_) | (refine ⟨(by show List.length _ ≤ 16777216; simp only [List.length_cons, List.length_nil]; decide), ?_⟩)))
      refine ⟨.lst [z], rfl, _, plus_l (by show 2 + 1 ≤ 16777216; decide), x, Bn y, z, .inr (.inl ⟨rfl, rfl, rfl, rfl⟩), ?_⟩
      cases x9 <;> cases x10 <;> cases x11 <;> cases x12 <;> rfl
    · (repeat (first | (with_reducible refine eok_c ?_) | ((with_reducible refine eok_varX ?_); refine ⟨_, rfl, ?_⟩) | ((with_reducible refine eok_obsX ?_); refine ⟨_, _, rfl, ?_⟩) | (with_reducible refine eok_bin ?_) | (with_reducible refine eok_un ?_) | (with_reducible refine eok_not ?_) | (with_reducible refine eok_and ?_) | (with_reducible refine eok_or ?_) | (with_reducible refine eok_if ?_) | (with_reducible refine eok_chain ?_) | (with_reducible refine iok_nil ?_) | (with_reducible refine iok_cons ?_) | (with_reducible refine eok_tup ?_) | (with_reducible refine eok_lst ?_) | (with_reducible refine eok_call ?_) | (with_reducible refine eok_B ?_) | (with_reducible refine eok_isi ?_) | (with_reducible refine eok_int ?_) | (with_reducible refine eok_sl ?_) | (with_reducible refine eok_lrg ?_) | (with_reducible refine eok_err ?_) | (with_reducible refine eok_fldE ?_) | (with_reducible refine eok_isiE ?_) | (with_reducible refine iok_seq ?_) | (with_reducible refine iok_zip ?_) | (with_reducible refine iok_enum ?_) | (with_reducible refine iok_range1 ?_) | (with_reducible refine sok_next ?_) | (with_reducible refine sok_seq ?_) | (with_reducible refine sok_set ?_) | (with_reducible refine sok_setO ?_) | (with_reducible refine sok_par ?_) | (with_reducible refine sok_to ?_) | (with_reducible refine sok_drop ?_) | (with_reducible refine sok_ret ?_) | (with_reducible refine sok_if ?_) | (refine ⟨(by show List.length _ ≤ 16777216; simp only [List.length_cons, List.length_nil]; decide), ?_⟩)))
      refine ⟨2, rfl, .lst [x, y], rfl, ?_⟩
      (repeat (first | (with_reducible refine eok_c ?_) | ((with_reducible refine eok_varX ?_); refine ⟨_, rfl, ?_⟩) | ((with_reducible refine eok_obsX ?_); refine ⟨_, _, rfl, ?_⟩) | (with_reducible refine eok_bin ?_) | (with_reducible refine eok_un ?_) | (with_reducible refine eok_not ?_) | (with_reducible refine eok_and ?_) | (with_reducible refine eok_or ?_) | (with_reducible refine eok_if ?_) | (with_reducible refine eok_chain ?_) | (with_reducible refine iok_nil ?_) | (with_reducible refine iok_cons ?_) | (with_reducible refine eok_tup ?_) | (with_reducible refine eok_lst ?_) | (with_reducible refine eok_call ?_) | (with_reducible refine eok_B ?_) | (with_reducible refine eok_isi ?_) | (with_reducible refine eok_int ?_) | (with_reducible refine eok_sl ?_) | (with_reducible refine eok_lrg ?_) | (with_reducible refine eok_err ?_) | (with_reducible refine eok_fldE ?_) | (with_reducible refine eok_isiE ?_) | (with_reducible refine iok_seq ?_) | (with_reducible refine iok_zip ?_) | (with_reducible refine iok_enum ?_) | (with_reducible refine iok_range1 ?_) | (with_reducible refine sok_next ?_) | (with_reducible refine sok_seq ?_) | (with_reducible refine sok_set ?_) | (with_reducible refine sok_setO ?_) | (with_reducible refine sok_par ?_) | (with_reducible refine sok_to ?_) | (with_reducible refine sok_drop ?_) | (with_reducible refine sok_ret ?_) | (with_reducible refine sok_if ?_) | (refine ⟨(by show List.length _ ≤ 16777216; simp only [List.length_cons, List.length_nil]; decide), ?_⟩)))
      refine ⟨z, rfl, ?_⟩
      (repeat (first | (with_reducible refine eok_c ?_) | ((with_reducible refine eok_varX ?_); refine ⟨_, rfl, ?_⟩) | ((with_reducible refine eok_obsX ?_); refine ⟨_, _, rfl, ?_⟩) | (with_reducible refine eok_bin ?_) | (with_reducible refine eok_un ?_) | (with_reducible refine eok_not ?_) | (with_reducible refine eok_and ?_) | (with_reducible refine eok_or ?_) | (with_reducible refine eok_if ?_) | (with_reducible refine eok_chain ?_) | (with_reducible refine iok_nil ?_) | (with_reducible refine iok_cons ?_) | (with_reducible refine eok_tup ?_) | (with_reducible refine eok_lst ?_) | (with_reducible refine eok_call ?_) | (with_reducible refine eok_B ?_) | (with_reducible refine eok_isi ?_) | (with_reducible refine eok_int ?_) | (with_reducible refine eok_sl ?_) | (with_reducible refine eok_lrg ?_) | (with_reducible refine eok_err ?_) | (with_reducible refine eok_fldE ?_) | (with_reducible refine eok_isiE ?_) | (with_reducible refine iok_seq ?_) | (with_reducible refine iok_zip ?_) | (with_reducible refine iok_enum ?_) | (with_reducible refine iok_range1 ?_) | (with_reducible refine sok_next ?_) | (with_reducible refine sok_seq ?_) | (with_reducible refine sok_set ?_) | (with_reducible refine sok_setO ?_) | (with_reducible refine sok_par ?_) | (with_reducible refine sok_to ?_) | (with_reducible refine sok_drop ?_) | (with_reducible refine sok_ret ?_) | (with_reducible refine sok_if ?_) | (refine ⟨(by show List.length _ ≤ 16777216; simp only [List.length_cons, List.length_nil]; decide), ?_⟩)))
      refine ⟨_, plus_l (by show 2 + 1 ≤ 16777216; decide), ?_⟩
      (repeat (first | (with_reducible refine eok_c ?_) | ((with_reducible refine eok_varX ?_); refine ⟨_, rfl, ?_⟩) | ((with_reducible refine eok_obsX ?_); refine ⟨_, _, rfl, ?_⟩) | (with_reducible refine eok_bin ?_) | (with_reducible refine eok_un ?_) | (with_reducible refine eok_not ?_) | (with_reducible refine eok_and ?_) | (with_reducible refine eok_or ?_) | (with_reducible refine eok_if ?_) | (with_reducible refine eok_chain ?_) | (with_reducible refine iok_nil ?_) | (with_reducible refine iok_cons ?_) | (with_reducible refine eok_tup ?_) | (with_reducible refine eok_lst ?_) | (with_reducible refine eok_call ?_) | (with_reducible refine eok_B ?_) | (with_reducible refine eok_isi ?_) | (with_reducible refine eok_int ?_) | (with_reducible refine eok_sl ?_) | (with_reducible refine eok_lrg ?_) | (with_reducible refine eok_err ?_) | (with_reducible refine eok_fldE ?_) | (with_reducible refine eok_isiE ?_) | (with_reducible refine iok_seq ?_) | (with_reducible refine iok_zip ?_) | (with_reducible refine iok_enum ?_) | (with_reducible refine iok_range1 ?_) | (with_reducible refine sok_next ?_) | (with_reducible refine sok_seq ?_) | (with_reducible refine sok_set ?_) | (with_reducible refine sok_setO ?_) | (with_reducible refine sok_par ?_) | (with_reducible refine sok_to ?_) | (with_reducible refine sok_drop ?_) | (with_reducible refine sok_ret ?_) | (with_reducible refine sok_if ?_) | (refine ⟨(by show List.length _ ≤ 16777216; simp only [List.length_cons, List.length_nil]; decide), ?_⟩)))
      refine ⟨_, plusD_i, 3, rfl, ?_⟩
      (repeat (first | (with_reducible refine eok_c ?_) | ((with_reducible refine eok_varX ?_); refine ⟨_, rfl, ?_⟩) | ((with_reducible refine eok_obsX ?_); refine ⟨_, _, rfl, ?_⟩) | (with_reducible refine eok_bin ?_) | (with_reducible refine eok_un ?_) | (with_reducible refine eok_not ?_) | (with_reducible refine eok_and ?_) | (with_reducible refine eok_or ?_) | (with_reducible refine eok_if ?_) | (with_reducible refine eok_chain ?_) | (with_reducible refine iok_nil ?_) | (with_reducible refine iok_cons ?_) | (with_reducible refine eok_tup ?_) | (with_reducible refine eok_lst ?_) | (with_reducible refine eok_call ?_) | (with_reducible refine eok_B ?_) | (with_reducible refine eok_isi ?_) | (with_reducible refine eok_int ?_) | (with_reducible refine eok_sl ?_) | (with_reducible refine eok_lrg ?_) | (with_reducible refine eok_err ?_) | (with_reducible refine eok_fldE ?_) | (with_reducible refine eok_isiE ?_) | (with_reducible refine iok_seq ?_) | (with_reducible refine iok_zip ?_) | (with_reducible refine iok_enum ?_) | (with_reducible refine iok_range1 ?_) | (with_reducible refine sok_next ?_) | (with_reducible refine sok_seq ?_) | (with_reducible refine sok_set ?_) | (with_reducible refine sok_setO ?_) | (with_reducible refine sok_par ?_) | (with_reducible refine sok_to ?_) | (with_reducible refine sok_drop ?_) | (with_reducible refine sok_ret ?_) | (with_reducible refine sok_if ?_) | (refine ⟨(by show List.length _ ≤ 16777216; simp only [List.length_cons, List.length_nil]; decide), ?_⟩)))
      refine ⟨.lst [], rfl, _, plus_l (by show 3 + 0 ≤ 16777216; decide), x, y, Bn z, .inr (.inr ⟨rfl, rfl, rfl, rfl⟩), ?_⟩
      cases x9 <;> cases x10 <;> cases x11 <;> cases x12 <;> rfl
  rintro _ ⟨x', y', z', hbn, rfl⟩
  obtain ⟨⟨tx', ty', tz'⟩, fx', fy', fz'⟩ := bent_all hbn tx ty tz fa fb fc
  have g' : G3 x' y' z' := ⟨gd4 tx' fx', gd4 ty' fy', gd4 tz' fz'⟩
  refine sok_cut (fun r => r = LE x y z (pl (.lst (MK x y z))) (pl (.lst (RO x y z))) (po x9) (po x10) (po x11) (po x12) (pl (.int t)) (pl (.lst [x', y', z'])) (pl (.lst (MK x' y' z')))) ?_ ?_
  · (repeat (first | (with_reducible refine eok_c ?_) | ((with_reducible refine eok_varX ?_); refine ⟨_, rfl, ?_⟩) | ((with_reducible refine eok_obsX ?_); refine ⟨_, _, rfl, ?_⟩) | (with_reducible refine eok_bin ?_) | (with_reducible refine eok_un ?_) | (with_reducible refine eok_not ?_) | (with_reducible refine eok_and ?_) | (with_reducible refine eok_or ?_) | (with_reducible refine eok_if ?_) | (with_reducible refine eok_chain ?_) | (with_reducible refine iok_nil ?_) | (with_reducible refine iok_cons ?_) | (with_reducible refine eok_tup ?_) | (with_reducible refine eok_lst ?_) | (with_reducible refine eok_call ?_) | (with_reducible refine eok_B ?_) | (with_reducible refine eok_isi ?_) | (with_reducible refine eok_int ?_) | (with_reducible refine eok_sl ?_) | (with_reducible refine eok_lrg ?_) | (with_reducible refine eok_err ?_) | (with_reducible refine eok_fldE ?_) | (with_reducible refine eok_isiE ?_) | (with_reducible refine iok_seq ?_) | (with_reducible refine iok_zip ?_) | (with_reducible refine iok_enum ?_) | (with_reducible refine iok_range1 ?_) | (with_reducible refine sok_next ?_) | (with_reducible refine sok_seq ?_) | (with_reducible refine sok_set ?_) | (with_reducible refine sok_setO ?_) | (with_reducible refine sok_par ?_) | (with_reducible refine sok_to ?_) | (with_reducible refine sok_drop ?_) | (with_reducible refine sok_ret ?_) | (with_reducible refine sok_if ?_) | (refine ⟨(by show List.length _ ≤ 16777216; simp only [List.length_cons, List.length_nil]; decide), ?_⟩)))
    refine ⟨x', rfl, ?_⟩
    (repeat (first | (with_reducible refine eok_c ?_) | ((with_reducible refine eok_varX ?_); refine ⟨_, rfl, ?_⟩) | ((with_reducible refine eok_obsX ?_); refine ⟨_, _, rfl, ?_⟩) | (with_reducible refine eok_bin ?_) | (with_reducible refine eok_un ?_) | (with_reducible refine eok_not ?_) | (with_reducible refine eok_and ?_) | (with_reducible refine eok_or ?_) | (with_reducible refine eok_if ?_) | (with_reducible refine eok_chain ?_) | (with_reducible refine iok_nil ?_) | (with_reducible refine iok_cons ?_) | (with_reducible refine eok_tup ?_) | (with_reducible refine eok_lst ?_) | (with_reducible refine eok_call ?_) | (with_reducible refine eok_B ?_) | (with_reducible refine eok_isi ?_) | (with_reducible refine eok_int ?_) | (with_reducible refine eok_sl ?_) | (with_reducible refine eok_lrg ?_) | (with_reducible refine eok_err ?_) | (with_reducible refine eok_fldE ?_) | (with_reducible refine eok_isiE ?_) | (with_reducible refine iok_seq ?_) | (with_reducible refine iok_zip ?_) | (with_reducible refine iok_enum ?_) | (with_reducible refine iok_range1 ?_) | (with_reducible refine sok_next ?_) | (with_reducible refine sok_seq ?_) | (with_reducible refine sok_set ?_) | (with_reducible refine sok_setO ?_) | (with_reducible refine sok_par ?_) | (with_reducible refine sok_to ?_) | (with_reducible refine sok_drop ?_) | (with_reducible refine sok_ret ?_) | (with_reducible refine sok_if ?_) | (refine ⟨(by show List.length _ ≤ 16777216; simp only [List.length_cons, List.length_nil]; decide), ?_⟩)))
    refine ⟨y', rfl, ?_⟩
    (repeat (first | (with_reducible refine eok_c ?_) | ((with_reducible refine eok_varX ?_); refine ⟨_, rfl, ?_⟩) | ((with_reducible refine eok_obsX ?_); refine ⟨_, _, rfl, ?_⟩) | (with_reducible refine eok_bin ?_) | (with_reducible refine eok_un ?_) | (with_reducible refine eok_not ?_) | (with_reducible refine eok_and ?_) | (with_reducible refine eok_or ?_) | (with_reducible refine eok_if ?_) | (with_reducible refine eok_chain ?_) | (with_reducible refine iok_nil ?_) | (with_reducible refine iok_cons ?_) | (with_reducible refine eok_tup ?_) | (with_reducible refine eok_lst ?_) | (with_reducible refine eok_call ?_) | (with_reducible refine eok_B ?_) | (with_reducible refine eok_isi ?_) | (with_reducible refine eok_int ?_) | (with_reducible refine eok_sl ?_) | (with_reducible refine eok_lrg ?_) | (with_reducible refine eok_err ?_) | (with_reducible refine eok_fldE ?_) | (with_reducible refine eok_isiE ?_) | (with_reducible refine iok_seq ?_) | (with_reducible refine iok_zip ?_) | (with_reducible refine iok_enum ?_) | (with_reducible refine iok_range1 ?_) | (with_reducible refine sok_next ?_) | (with_reducible refine sok_seq ?_) | (with_reducible refine sok_set ?_) | (with_reducible refine sok_setO ?_) | (with_reducible refine sok_par ?_) | (with_reducible refine sok_to ?_) | (with_reducible refine sok_drop ?_) | (with_reducible refine sok_ret ?_) | (with_reducible refine sok_if ?_) | (refine ⟨(by show List.length _ ≤ 16777216; simp only [List.length_cons, List.length_nil]; decide), ?_⟩)))
    refine ⟨z', rfl, ?_⟩
    (repeat (first | (with_reducible refine eok_c ?_) | ((with_reducible refine eok_varX ?_); refine ⟨_, rfl, ?_⟩) | ((with_reducible refine eok_obsX ?_); refine ⟨_, _, rfl, ?_⟩) | (with_reducible refine eok_bin ?_) | (with_reducible refine eok_un ?_) | (with_reducible refine eok_not ?_) | (with_reducible refine eok_and ?_) | (with_reducible refine eok_or ?_) | (with_reducible refine eok_if ?_) | (with_reducible refine eok_chain ?_) | (with_reducible refine iok_nil ?_) | (with_reducible refine iok_cons ?_) | (with_reducible refine eok_tup ?_) | (with_reducible refine eok_lst ?_) | (with_reducible refine eok_call ?_) | (with_reducible refine eok_B ?_) | (with_reducible refine eok_isi ?_) | (with_reducible refine eok_int ?_) | (with_reducible refine eok_sl ?_) | (with_reducible refine eok_lrg ?_) | (with_reducible refine eok_err ?_) | (with_reducible refine eok_fldE ?_) | (with_reducible refine eok_isiE ?_) | (with_reducible refine iok_seq ?_) | (with_reducible refine iok_zip ?_) | (with_reducible refine iok_enum ?_) | (with_reducible refine iok_range1 ?_) | (with_reducible refine sok_next ?_) | (with_reducible refine sok_seq ?_) | (with_reducible refine sok_set ?_) | (with_reducible refine sok_setO ?_) | (with_reducible refine sok_par ?_) | (with_reducible refine sok_to ?_) | (with_reducible refine sok_drop ?_) | (with_reducible refine sok_ret ?_) | (with_reducible refine sok_if ?_) | (refine ⟨(by show List.length _ ≤ 16777216; simp only [List.length_cons, List.length_nil]; decide), ?_⟩)))
    refine ones ⟨tx', .inl rfl⟩ ⟨ty', .inl rfl⟩ ⟨tz', .inl rfl⟩ ?_
    rw [fz_id fx', fz_id fy', fz_id fz']
    (repeat (first | (with_reducible refine eok_c ?_) | ((with_reducible refine eok_varX ?_); refine ⟨_, rfl, ?_⟩) | ((with_reducible refine eok_obsX ?_); refine ⟨_, _, rfl, ?_⟩) | (with_reducible refine eok_bin ?_) | (with_reducible refine eok_un ?_) | (with_reducible refine eok_not ?_) | (with_reducible refine eok_and ?_) | (with_reducible refine eok_or ?_) | (with_reducible refine eok_if ?_) | (with_reducible refine eok_chain ?_) | (with_reducible refine iok_nil ?_) | (with_reducible refine iok_cons ?_) | (with_reducible refine eok_tup ?_) | (with_reducible refine eok_lst ?_) | (with_reducible refine eok_call ?_) | (with_reducible refine eok_B ?_) | (with_reducible refine eok_isi ?_) | (with_reducible refine eok_int ?_) | (with_reducible refine eok_sl ?_) | (with_reducible refine eok_lrg ?_) | (with_reducible refine eok_err ?_) | (with_reducible refine eok_fldE ?_) | (with_reducible refine eok_isiE ?_) | (with_reducible refine iok_seq ?_) | (with_reducible refine iok_zip ?_) | (with_reducible refine iok_enum ?_) | (with_reducible refine iok_range1 ?_) | (with_reducible refine sok_next ?_) | (with_reducible refine sok_seq ?_) | (with_reducible refine sok_set ?_) | (with_reducible refine sok_setO ?_) | (with_reducible refine sok_par ?_) | (with_reducible refine sok_to ?_) | (with_reducible refine sok_drop ?_) | (with_reducible refine sok_ret ?_) | (with_reducible refine sok_if ?_) | (refine ⟨(by show List.length _ ≤ 16777216; simp only [List.length_cons, List.length_nil]; decide), ?_⟩)))
    refine ⟨.lst (MK x' y' z'), rfl, ?_⟩
    cases x9 <;> cases x10 <;> cases x11 <;> cases x12 <;> rfl
  rintro _ rfl
  refine sok_cut (fun r => ∃ x9 x10, r = LE x y z (pl (.lst (MK x y z))) (pl (.lst (RO x y z))) (po x9) (po x10) (po x11) (po x12) (pl (.int t)) (pl (.lst [x', y', z'])) (pl (.lst (MK x' y' z')))) ?_ ?_
  · refine sok_for (fun _ r => ∃ x9 x10, r = LE x y z (pl (.lst (MK x y z))) (pl (.lst (RO x y z))) (po x9) (po x10) (po x11) (po x12) (pl (.int t)) (pl (.lst [x', y', z'])) (pl (.lst (MK x' y' z')))) ?_
    (repeat (first | (with_reducible refine eok_c ?_) | ((with_reducible refine eok_varX ?_); refine ⟨_, rfl, ?_⟩) | ((with_reducible refine eok_obsX ?_); refine ⟨_, _, rfl, ?_⟩) | (with_reducible refine eok_bin ?_) | (with_reducible refine eok_un ?_) | (with_reducible refine eok_not ?_) | (with_reducible refine eok_and ?_) | (with_reducible refine eok_or ?_) | (with_reducible refine eok_if ?_) | (with_reducible refine eok_chain ?_) | (with_reducible refine iok_nil ?_) | (with_reducible refine iok_cons ?_) | (with_reducible refine eok_tup ?_) | (with_reducible refine eok_lst ?_) | (with_reducible refine eok_call ?_) | (with_reducible refine eok_B ?_) | (with_reducible refine eok_isi ?_) | (with_reducible refine eok_int ?_) | (with_reducible refine eok_sl ?_) | (with_reducible refine eok_lrg ?_) | (with_reducible refine eok_err ?_) | (with_reducible refine eok_fldE ?_) | (with_reducible refine eok_isiE ?_) | (with_reducible refine iok_seq ?_) | (with_reducible refine iok_zip ?_) | (with_reducible refine iok_enum ?_) | (with_reducible refine iok_range1 ?_) | (with_reducible refine sok_next ?_) | (with_reducible refine sok_seq ?_) | (with_reducible refine sok_set ?_) | (with_reducible refine sok_setO ?_) | (with_reducible refine sok_par ?_) | (with_reducible refine sok_to ?_) | (with_reducible refine sok_drop ?_) | (with_reducible refine sok_ret ?_) | (with_reducible refine sok_if ?_) | (refine ⟨(by show List.length _ ≤ 16777216; simp only [List.length_cons, List.length_nil]; decide), ?_⟩)))
    refine ⟨_, MK x y z, rfl, rfl, ⟨x9, x10, by cases x9 <;> cases x10 <;> cases x11 <;> cases x12 <;> rfl⟩, ?_, fun r h => h⟩
    rintro k d r hd ⟨x9, x10, rfl⟩
    obtain ⟨hk, rfl⟩ := enum_at hd
    refine ⟨_, rfl, ?_⟩
    generalize hone : (MK x y z).getD k .non = one
    (repeat (first | (with_reducible refine eok_c ?_) | ((with_reducible refine eok_varX ?_); refine ⟨_, rfl, ?_⟩) | ((with_reducible refine eok_obsX ?_); refine ⟨_, _, rfl, ?_⟩) | (with_reducible refine eok_bin ?_) | (with_reducible refine eok_un ?_) | (with_reducible refine eok_not ?_) | (with_reducible refine eok_and ?_) | (with_reducible refine eok_or ?_) | (with_reducible refine eok_if ?_) | (with_reducible refine eok_chain ?_) | (with_reducible refine iok_nil ?_) | (with_reducible refine iok_cons ?_) | (with_reducible refine eok_tup ?_) | (with_reducible refine eok_lst ?_) | (with_reducible refine eok_call ?_) | (with_reducible refine eok_B ?_) | (with_reducible refine eok_isi ?_) | (with_reducible refine eok_int ?_) | (with_reducible refine eok_sl ?_) | (with_reducible refine eok_lrg ?_) | (with_reducible refine eok_err ?_) | (with_reducible refine eok_fldE ?_) | (with_reducible refine eok_isiE ?_) | (with_reducible refine iok_seq ?_) | (with_reducible refine iok_zip ?_) | (with_reducible refine iok_enum ?_) | (with_reducible refine iok_range1 ?_) | (with_reducible refine sok_next ?_) | (with_reducible refine sok_seq ?_) | (with_reducible refine sok_set ?_) | (with_reducible refine sok_setO ?_) | (with_reducible refine sok_par ?_) | (with_reducible refine sok_to ?_) | (with_reducible refine sok_drop ?_) | (with_reducible refine sok_ret ?_) | (with_reducible refine sok_if ?_) | (refine ⟨(by show List.length _ ≤ 16777216; simp only [List.length_cons, List.length_nil]; decide), ?_⟩)))
    refine eok_eqM ?_
    (repeat (first | (with_reducible refine eok_c ?_) | ((with_reducible refine eok_varX ?_); refine ⟨_, rfl, ?_⟩) | ((with_reducible refine eok_obsX ?_); refine ⟨_, _, rfl, ?_⟩) | (with_reducible refine eok_bin ?_) | (with_reducible refine eok_un ?_) | (with_reducible refine eok_not ?_) | (with_reducible refine eok_and ?_) | (with_reducible refine eok_or ?_) | (with_reducible refine eok_if ?_) | (with_reducible refine eok_chain ?_) | (with_reducible refine iok_nil ?_) | (with_reducible refine iok_cons ?_) | (with_reducible refine eok_tup ?_) | (with_reducible refine eok_lst ?_) | (with_reducible refine eok_call ?_) | (with_reducible refine eok_B ?_) | (with_reducible refine eok_isi ?_) | (with_reducible refine eok_int ?_) | (with_reducible refine eok_sl ?_) | (with_reducible refine eok_lrg ?_) | (with_reducible refine eok_err ?_) | (with_reducible refine eok_fldE ?_) | (with_reducible refine eok_isiE ?_) | (with_reducible refine iok_seq ?_) | (with_reducible refine iok_zip ?_) | (with_reducible refine iok_enum ?_) | (with_reducible refine iok_range1 ?_) | (with_reducible refine sok_next ?_) | (with_reducible refine sok_seq ?_) | (with_reducible refine sok_set ?_) | (with_reducible refine sok_setO ?_) | (with_reducible refine sok_par ?_) | (with_reducible refine sok_to ?_) | (with_reducible refine sok_drop ?_) | (with_reducible refine sok_ret ?_) | (with_reducible refine sok_if ?_) | (refine ⟨(by show List.length _ ≤ 16777216; simp only [List.length_cons, List.length_nil]; decide), ?_⟩)))
    refine ⟨_, mk_at hk, ?_⟩
    subst hone
    refine mk_eq g g' hk hk ?_
    rw [agree_bent hk g hbn]
    refine ⟨_, rfl, ?_⟩
    (repeat (first | (with_reducible refine eok_c ?_) | ((with_reducible refine eok_varX ?_); refine ⟨_, rfl, ?_⟩) | ((with_reducible refine eok_obsX ?_); refine ⟨_, _, rfl, ?_⟩) | (with_reducible refine eok_bin ?_) | (with_reducible refine eok_un ?_) | (with_reducible refine eok_not ?_) | (with_reducible refine eok_and ?_) | (with_reducible refine eok_or ?_) | (with_reducible refine eok_if ?_) | (with_reducible refine eok_chain ?_) | (with_reducible refine iok_nil ?_) | (with_reducible refine iok_cons ?_) | (with_reducible refine eok_tup ?_) | (with_reducible refine eok_lst ?_) | (with_reducible refine eok_call ?_) | (with_reducible refine eok_B ?_) | (with_reducible refine eok_isi ?_) | (with_reducible refine eok_int ?_) | (with_reducible refine eok_sl ?_) | (with_reducible refine eok_lrg ?_) | (with_reducible refine eok_err ?_) | (with_reducible refine eok_fldE ?_) | (with_reducible refine eok_isiE ?_) | (with_reducible refine iok_seq ?_) | (with_reducible refine iok_zip ?_) | (with_reducible refine iok_enum ?_) | (with_reducible refine iok_range1 ?_) | (with_reducible refine sok_next ?_) | (with_reducible refine sok_seq ?_) | (with_reducible refine sok_set ?_) | (with_reducible refine sok_setO ?_) | (with_reducible refine sok_par ?_) | (with_reducible refine sok_to ?_) | (with_reducible refine sok_drop ?_) | (with_reducible refine sok_ret ?_) | (with_reducible refine sok_if ?_) | (refine ⟨(by show List.length _ ≤ 16777216; simp only [List.length_cons, List.length_nil]; decide), ?_⟩)))
    obtain ⟨l, e3, e4⟩ := ro_at (x := x) (y := y) (z := z) hk
    refine ⟨_, e3, ?_⟩
    (repeat (first | (with_reducible refine eok_c ?_) | ((with_reducible refine eok_varX ?_); refine ⟨_, rfl, ?_⟩) | ((with_reducible refine eok_obsX ?_); refine ⟨_, _, rfl, ?_⟩) | (with_reducible refine eok_bin ?_) | (with_reducible refine eok_un ?_) | (with_reducible refine eok_not ?_) | (with_reducible refine eok_and ?_) | (with_reducible refine eok_or ?_) | (with_reducible refine eok_if ?_) | (with_reducible refine eok_chain ?_) | (with_reducible refine iok_nil ?_) | (with_reducible refine iok_cons ?_) | (with_reducible refine eok_tup ?_) | (with_reducible refine eok_lst ?_) | (with_reducible refine eok_call ?_) | (with_reducible refine eok_B ?_) | (with_reducible refine eok_isi ?_) | (with_reducible refine eok_int ?_) | (with_reducible refine eok_sl ?_) | (with_reducible refine eok_lrg ?_) | (with_reducible refine eok_err ?_) | (with_reducible refine eok_fldE ?_) | (with_reducible refine eok_isiE ?_) | (with_reducible refine iok_seq ?_) | (with_reducible refine iok_zip ?_) | (with_reducible refine iok_enum ?_) | (with_reducible refine iok_range1 ?_) | (with_reducible refine sok_next ?_) | (with_reducible refine sok_seq ?_) | (with_reducible refine sok_set ?_) | (with_reducible refine sok_setO ?_) | (with_reducible refine sok_par ?_) | (with_reducible refine sok_to ?_) | (with_reducible refine sok_drop ?_) | (with_reducible refine sok_ret ?_) | (with_reducible refine sok_if ?_) | (refine ⟨(by show List.length _ ≤ 16777216; simp only [List.length_cons, List.length_nil]; decide), ?_⟩)))
    refine ⟨.int (l.length : Nat), rfl, _, geD_i, ?_⟩
    rw [e4, ne_bl]
    have e5 : (!(((decide (k = k) && decide (t ≥ (nat_ k : Nat))) != false) == decide (t ≥ (nat_ k : Nat)))) = false := by
      rw [decide_eq_true (rfl : k = k)]
      cases decide (t ≥ (nat_ k : Nat)) <;> rfl
    rw [e5]
    refine ⟨_, rfl, _, rfl, fun h => (nomatch h), fun _ => ?_⟩
    exact sok_next ⟨some _, some _, rfl⟩
  rintro _ ⟨x9, x10, rfl⟩
  (repeat (first | (with_reducible refine eok_c ?_) | ((with_reducible refine eok_varX ?_); refine ⟨_, rfl, ?_⟩) | ((with_reducible refine eok_obsX ?_); refine ⟨_, _, rfl, ?_⟩) | (with_reducible refine eok_bin ?_) | (with_reducible refine eok_un ?_) | (with_reducible refine eok_not ?_) | (with_reducible refine eok_and ?_) | (with_reducible refine eok_or ?_) | (with_reducible refine eok_if ?_) | (with_reducible refine eok_chain ?_) | (with_reducible refine iok_nil ?_) | (with_reducible refine iok_cons ?_) | (with_reducible refine eok_tup ?_) | (with_reducible refine eok_lst ?_) | (with_reducible refine eok_call ?_) | (with_reducible refine eok_B ?_) | (with_reducible refine eok_isi ?_) | (with_reducible refine eok_int ?_) | (with_reducible refine eok_sl ?_) | (with_reducible refine eok_lrg ?_) | (with_reducible refine eok_err ?_) | (with_reducible refine eok_fldE ?_) | (with_reducible refine eok_isiE ?_) | (with_reducible refine iok_seq ?_) | (with_reducible refine iok_zip ?_) | (with_reducible refine iok_enum ?_) | (with_reducible refine iok_range1 ?_) | (with_reducible refine sok_next ?_) | (with_reducible refine sok_seq ?_) | (with_reducible refine sok_set ?_) | (with_reducible refine sok_setO ?_) | (with_reducible refine sok_par ?_) | (with_reducible refine sok_to ?_) | (with_reducible refine sok_drop ?_) | (with_reducible refine sok_ret ?_) | (with_reducible refine sok_if ?_) | (refine ⟨(by show List.length _ ≤ 16777216; simp only [List.length_cons, List.length_nil]; decide), ?_⟩)))
  rfl
theorem plain : ∀ w : Wd, ∃ w', (g_law (lawE 16) w).res = .ok (.bl true) w' := fun w => by
  rcases law_ok_ w with ⟨_, _, _, h⟩ | ⟨d, w', e, rfl⟩
  · exact h.elim
  · exact ⟨w', by rw [e]; rfl⟩
end L_k12

set_option maxHeartbeats 0
open PySem PySem.W PySem.Calls PyProof.Rows DL
theorem PySem.Challenge.cw_leastwaits_k12_answers_of_integers_kept_holds : PySem.Challenge.rw_leastwaits_k12_answers_of_integers_kept.Holds := by
  w_on; o_law
  refine HandSHeadRun.head_any (r := OpenLaw.row PySem.Challenge.rw_leastwaits_k12_answers_of_integers_kept) (q := view (OpenLaw.row PySem.Challenge.rw_leastwaits_k12_answers_of_integers_kept).prog [23]) (H := L_k12.hk) (ob := L_k12.ob) (M := 20000) (loose := L_k12.names) (d := HandSHeadRun.topDef (OpenLaw.row PySem.Challenge.rw_leastwaits_k12_answers_of_integers_kept).prog 23) (kwd := []) L_k12.ob_eq
    (by kernel_rfl) (fun s => by kernel_rfl) L_k12.run (by kernel_rfl) (by kernel_rfl) (by kernel_rfl) (by rfl) (by first | assumption | decide +kernel) (by decide +kernel) ⟨rfl, rfl, rfl, rfl, rfl, by decide +kernel⟩ ?hw ?hc
  case hw => w_witness2
  case hc =>
    exact walk_ofQ (l := PySem.Challenge.rw_leastwaits_k12_answers_of_integers_kept) (k := 15) (ev := 5) (fa := L_k12.fa) (fn := L_k12.fn) rfl (by kernel_rfl) (by kernel_rfl) ⟨rfl, by decide, by decide⟩ fun w mg a h K KX G hfa c => L_k12.facts KX G hfa c L_k12.plain
#print axioms PySem.Challenge.cw_leastwaits_k12_answers_of_integers_kept_holds

