import PyProof.Rows.All
import PySem.Challenge.RW_seenthrough_k07_errors_made
import Wide.All
import OpenK.AllK
import Wide.FinOn
import HandS.ForMost
import HandS.ForExc
import HandS.Deep
import HandS.TupAny
import HandS.ExcInit
import HandS.TupLe
import HandS.TupMul
import HandS.IsInst
import HandS.Style
import KE.KExcSuper
import KE.KSuper
import HandS.Base
import HandS.Call
import HandS.Exc
import HandS.ExcIs
import KE.KExcIs
import HandS.ExcField
import HandS.ExcValue
import HandS.Dict
import HandS.Zip
import HandS.Iter
import KE.KStateDown
import HandS.Ends
import HandS.Words
import HandS.Defaults
import HandS.Head0
import HandS.Head1
import HandS.Head2
import HandS.HeadEnd
import HandS.HeadHook1
import HandS.HeadHook2
import HandS.Comp
set_option Elab.async false
set_option linter.all false
set_option maxRecDepth 100000
set_option maxHeartbeats 4000000
/-! DL: a data layer over HandS. A value is read as data D; a slot holds data, or a list or dict of its own that is still changed.
  The reading of an expression or statement is then a statement about data alone (no heap). -/
namespace DL
open PySem PySem.Spec L2

/-- data: what a value stands for -/
inductive D where
  | non
  | bl (b : Bool)
  | int (i : Int)
  | str (s : Str)
  | tup (xs : List D)
  | lst (xs : List D)
  | dct (ks vs : List D)
  | hdl (n : Nat)
  | exc (c : Nat) (x : D)
  | fn (n : Nat)

/-- what is fixed of the module: its written part, its error classes by number and their attributes -/
structure Go where
  K : PySem.W.Frag
  ec : Nat → Addr
  ef : Nat → Option Str
/-- the draws' state: a dict at hd 0 with a list of great numbers at hd 1, the cells at hd 2, a rest and how many turns were made -/
def stD (hd : Nat → Addr) (rest turn : Int) : List (Key × V) := [(.inr "great", .ref (hd 1)), (.inr "cells", .ref (hd 2)), (.inr "rest", .int rest), (.inr "turn", .int turn)]
def DrawSt (hd : Nat → Addr) (H : Hp) (turn : Nat) : Prop := ∃ (gs cs : List Int) (rest : Int), H (hd 0) = some (.dK (stD hd rest turn)) ∧ H (hd 1) = some (.lst (gs.map V.int)) ∧ H (hd 2) = some (.lst (cs.map V.int)) ∧
  (∀ z ∈ gs, 0 ≤ z) ∧ (∀ z ∈ cs, 0 ≤ z) ∧ 0 ≤ rest ∧ gs.length ≤ 63 ∧ hd 0 ≠ hd 1 ∧ hd 0 ≠ hd 2 ∧ hd 1 ≠ hd 2
def turnOf (hd : Nat → Addr) (H : Hp) : Nat := match H (hd 0) with
  | some (.dK [_, _, _, (_, .int t)]) => t.toNat
  | _ => 0
theorem DrawSt.turn {hd : Nat → Addr} {H : Hp} {n : Nat} (h : DrawSt hd H n) : turnOf hd H = n := by
  obtain ⟨gs, cs, rest, e, _⟩ := h
  unfold turnOf
  rw [e]
  simp [stD]
/-- what is fixed in one run: the addresses of the handles (0, 1, 2: the draws' state); the addresses S that change through calls, and what holds of them -/
structure Wd where
  hd : Nat → Addr
  S : Addr → Prop
  Amb : Hp → Prop
  st : ∀ H H' : Hp, (∀ b, S b → H' b = H b) → Amb H → Amb H'
  s0 : S (hd 0)
  s1 : S (hd 1)
  s2 : S (hd 2)
  rd : ∀ H, Amb H → ∃ n, DrawSt hd H n
  wr : ∀ (H H' : Hp) (n : Nat), Amb H → (∀ b, b ≠ hd 0 → b ≠ hd 1 → ∀ o, H b = some o → H' b = some o) → DrawSt hd H' n → Amb H'
/-- the turns so far -/
def Wd.tn (W : Wd) (H : Hp) : Nat := turnOf W.hd H
theorem Wd.tst (W : Wd) (H H' : Hp) (h : ∀ b, W.S b → H' b = H b) : W.tn H' = W.tn H := by
  unfold Wd.tn turnOf
  rw [h _ W.s0]
/-- so many turns of the draws are served -/
def Bt : Nat := 2 ^ 250

def excO2 (a C : Addr) (d : Option Addr) : HO := .ext fun h => ∃ (oe : Obj) (vs : Array Value), h.get? a = some oe ∧ oe.cls = .ref C ∧ oe.dict = d ∧ oe.data = .fields vs

/-- an int's or a text's key as data -/
def keyD : Key → D
  | .inl i => .int i
  | .inr s => .str s

/-- a list, a tuple that is read: not at an address of Av, or written -/
def SqLA (K : PySem.W.Frag) (Av : Addr → Prop) (H : Hp) (a : Addr) (xs : List V) : Prop :=
  (¬ Av a ∧ Rd H a (.lst xs)) ∨
    ∃ (o : Obj) (its : Array Value) (n : Nat), K.lookup a = some o ∧ o.cls = .type "list" ∧ o.dict = none ∧ o.data = .seq its n ∧ its.size ≤ sizeLine ∧ Vals xs its.toList
def SqTA (K : PySem.W.Frag) (Av : Addr → Prop) (H : Hp) (a : Addr) (xs : List V) : Prop :=
  (¬ Av a ∧ Rd H a (.tup xs)) ∨
    ∃ (o : Obj) (its : Array Value) (n : Nat), K.lookup a = some o ∧ o.cls = .type "tuple" ∧ o.data = .seq its n ∧ its.size ≤ sizeLine ∧ Vals xs its.toList
theorem SqLA.to {K : PySem.W.Frag} {Av : Addr → Prop} {H : Hp} {a : Addr} {xs : List V} (h : SqLA K Av H a xs) : SqL K H a xs := h.elim (fun q => .inl q.2) .inr
theorem SqTA.to {K : PySem.W.Frag} {Av : Addr → Prop} {H : Hp} {a : Addr} {xs : List V} (h : SqTA K Av H a xs) : SqT K H a xs := h.elim (fun q => .inl q.2) .inr

/-- an exception's own dict d (class number c): none, or the one field, for which P holds -/
def XV (G : Go) (Av : Addr → Prop) (H : Hp) (c : Nat) (d : Option Addr) (P : V → Prop) : Prop :=
  (G.ef c = none ∧ d = none) ∨ ∃ (f : Str) (dx : Addr) (y : V), G.ef c = some f ∧ d = some dx ∧ ¬ Av dx ∧ H dx = some (.xd [(f, y)]) ∧ P y
mutual
/-- the value v stands for the data in the heap H; nothing at an address of Av is looked at -/
def DV (G : Go) (W : Wd) (Av : Addr → Prop) (H : Hp) : D → V → Prop
  | .non, v => v = .non
  | .bl b, v => v = .bl b
  | .int i, v => v = .int i
  | .str s, v => v = .str s
  | .tup ds, v => ∃ a xs, v = .ref a ∧ SqTA G.K Av H a xs ∧ DVs G W Av H ds xs
  | .lst ds, v => ∃ a xs, v = .ref a ∧ SqLA G.K Av H a xs ∧ DVs G W Av H ds xs
  | .dct ks vs, v => ∃ a kvs, v = .ref a ∧ ¬ Av a ∧ Rd H a (.dK kvs) ∧ ks = kvs.map (fun p => keyD p.1) ∧ DVs G W Av H vs (kvs.map (·.2))
  | .hdl n, v => v = .ref (W.hd n)
  | .exc c x, v => ∃ a d, v = .ref a ∧ ¬ Av a ∧ H a = some (excO2 a (G.ec c) d) ∧ XV G Av H c d (DV G W Av H x)
  | .fn n, v => v = .ref (W.hd n)
def DVs (G : Go) (W : Wd) (Av : Addr → Prop) (H : Hp) : List D → List V → Prop
  | [], vs => vs = []
  | d :: ds, vs => ∃ v r, vs = v :: r ∧ DV G W Av H d v ∧ DVs G W Av H ds r
end

section
variable {G : Go} {W : Wd} {Av Av' : Addr → Prop} {H H' : Hp}
/-- all that is tracked, and not of Av, is as it was -/
def Keep (Av : Addr → Prop) (H H' : Hp) : Prop := ∀ b o, H b = some o → ¬ Av b → H' b = some o
theorem Keep.refl : Keep Av H H := fun _ _ e _ => e
theorem Keep.trans {H1 H2 H3 : Hp} (a : Keep Av H1 H2) (b : Keep Av H2 H3) : Keep Av H1 H3 := fun c o e n => b c o (a c o e n) n
theorem Keep.sqT (k : Keep Av H H') {K : PySem.W.Frag} {a : Addr} {xs : List V} (h : SqTA K Av H a xs) : SqTA K Av H' a xs := by
  rcases h with ⟨n, h | ⟨o, h⟩⟩ | h
  · exact .inl ⟨n, .inl (k _ _ h n)⟩
  · exact .inl ⟨n, .inr ⟨o, k _ _ h n⟩⟩
  · exact .inr h
theorem Keep.sqL (k : Keep Av H H') {K : PySem.W.Frag} {a : Addr} {xs : List V} (h : SqLA K Av H a xs) : SqLA K Av H' a xs := by
  rcases h with ⟨n, h | ⟨o, h⟩⟩ | h
  · exact .inl ⟨n, .inl (k _ _ h n)⟩
  · exact .inl ⟨n, .inr ⟨o, k _ _ h n⟩⟩
  · exact .inr h
theorem Keep.rd (k : Keep Av H H') {a : Addr} {u : HO} (n : ¬ Av a) (h : Rd H a u) : Rd H' a u := by
  rcases h with h | ⟨o, h⟩
  · exact .inl (k _ _ h n)
  · exact .inr ⟨o, k _ _ h n⟩
mutual
theorem DV.keep (k : Keep Av H H') : ∀ {d : D} {v : V}, DV G W Av H d v → DV G W Av H' d v
  | .non, _, h => by simp only [DV] at h ⊢; exact h
  | .bl _, _, h => by simp only [DV] at h ⊢; exact h
  | .int _, _, h => by simp only [DV] at h ⊢; exact h
  | .str _, _, h => by simp only [DV] at h ⊢; exact h
  | .tup ds, _, h => by
    simp only [DV] at h ⊢
    obtain ⟨a, xs, e, q, r⟩ := h
    exact ⟨a, xs, e, k.sqT q, DVs.keep k r⟩
  | .lst ds, _, h => by
    simp only [DV] at h ⊢
    obtain ⟨a, xs, e, q, r⟩ := h
    exact ⟨a, xs, e, k.sqL q, DVs.keep k r⟩
  | .dct ks vs, _, h => by
    simp only [DV] at h ⊢
    obtain ⟨a, xs, e, n, q, z, r⟩ := h
    exact ⟨a, xs, e, n, k.rd n q, z, DVs.keep k r⟩
  | .hdl _, _, h => by simp only [DV] at h ⊢; exact h
  | .exc _ x, _, h => by
    simp only [DV] at h ⊢
    obtain ⟨a, d, e, n, q, r⟩ := h
    refine ⟨a, d, e, n, k _ _ q n, ?_⟩
    rcases r with r | ⟨f, dx, y, e1, e2, n2, z, r⟩
    · exact .inl r
    · exact .inr ⟨f, dx, y, e1, e2, n2, k _ _ z n2, DV.keep k r⟩
  | .fn _, _, h => by simp only [DV] at h ⊢; exact h
theorem DVs.keep (k : Keep Av H H') : ∀ {ds : List D} {vs : List V}, DVs G W Av H ds vs → DVs G W Av H' ds vs
  | [], _, h => by simp only [DVs] at h ⊢; exact h
  | d :: ds, _, h => by
    simp only [DVs] at h ⊢
    obtain ⟨v, r, e, h1, h2⟩ := h
    exact ⟨v, r, e, DV.keep k h1, DVs.keep k h2⟩
end
/-- something tracked stands there -/
def Tr (H : Hp) (a : Addr) : Prop := ∃ o, H a = some o
theorem _root_.L2.Rd.here {H : Hp} {a : Addr} {u : HO} (h : Rd H a u) : Tr H a := h.elim (fun h => ⟨_, h⟩) fun ⟨_, h⟩ => ⟨_, h⟩
mutual
theorem DV.sub (s : ∀ a, Av' a → Tr H a → Av a) : ∀ {d : D} {v : V}, DV G W Av H d v → DV G W Av' H d v
  | .non, _, h => by simp only [DV] at h ⊢; exact h
  | .bl _, _, h => by simp only [DV] at h ⊢; exact h
  | .int _, _, h => by simp only [DV] at h ⊢; exact h
  | .str _, _, h => by simp only [DV] at h ⊢; exact h
  | .tup ds, _, h => by
    simp only [DV] at h ⊢
    obtain ⟨a, xs, e, q, r⟩ := h
    exact ⟨a, xs, e, q.imp (fun q => ⟨fun z => q.1 (s _ z q.2.here), q.2⟩) id, DVs.sub s r⟩
  | .lst ds, _, h => by
    simp only [DV] at h ⊢
    obtain ⟨a, xs, e, q, r⟩ := h
    exact ⟨a, xs, e, q.imp (fun q => ⟨fun z => q.1 (s _ z q.2.here), q.2⟩) id, DVs.sub s r⟩
  | .dct ks vs, _, h => by
    simp only [DV] at h ⊢
    obtain ⟨a, xs, e, n, q, z, r⟩ := h
    exact ⟨a, xs, e, fun z => n (s _ z q.here), q, z, DVs.sub s r⟩
  | .hdl _, _, h => by simp only [DV] at h ⊢; exact h
  | .exc _ x, _, h => by
    simp only [DV] at h ⊢
    obtain ⟨a, d, e, n, q, r⟩ := h
    refine ⟨a, d, e, fun z => n (s _ z ⟨_, q⟩), q, ?_⟩
    rcases r with r | ⟨f, dx, y, e1, e2, n2, z, r⟩
    · exact .inl r
    · exact .inr ⟨f, dx, y, e1, e2, fun u => n2 (s _ u ⟨_, z⟩), z, DV.sub s r⟩
  | .fn _, _, h => by simp only [DV] at h ⊢; exact h
theorem DVs.sub (s : ∀ a, Av' a → Tr H a → Av a) : ∀ {ds : List D} {vs : List V}, DVs G W Av H ds vs → DVs G W Av' H ds vs
  | [], _, h => by simp only [DVs] at h ⊢; exact h
  | d :: ds, _, h => by
    simp only [DVs] at h ⊢
    obtain ⟨v, r, e, h1, h2⟩ := h
    exact ⟨v, r, e, DV.sub s h1, DVs.sub s h2⟩
end
theorem DVs.nil : DVs G W Av H [] [] := by simp only [DVs]
theorem DVs.cons {d : D} {v : V} {ds : List D} {vs : List V} (h : DV G W Av H d v) (r : DVs G W Av H ds vs) : DVs G W Av H (d :: ds) (v :: vs) := by
  simp only [DVs]
  exact ⟨v, vs, rfl, h, r⟩
theorem DVs.length : ∀ {ds : List D} {vs : List V}, DVs G W Av H ds vs → vs.length = ds.length
  | [], _, h => by simp only [DVs] at h; subst h; rfl
  | d :: ds, _, h => by
    simp only [DVs] at h
    obtain ⟨v, r, rfl, _, h2⟩ := h
    rw [List.length_cons, List.length_cons, DVs.length h2]
theorem DVs.get : ∀ {ds : List D} {vs : List V} {i : Nat} {d : D}, DVs G W Av H ds vs → ds[i]? = some d → ∃ v, vs[i]? = some v ∧ DV G W Av H d v
  | [], _, _, _, _, e => by simp at e
  | d :: ds, _, 0, x, h, e => by
    simp only [DVs] at h
    obtain ⟨v, r, rfl, h1, _⟩ := h
    simp at e; subst e
    exact ⟨v, rfl, h1⟩
  | d :: ds, _, i + 1, x, h, e => by
    simp only [DVs] at h
    obtain ⟨v, r, rfl, _, h2⟩ := h
    obtain ⟨y, e1, e2⟩ := DVs.get (i := i) h2 (by simpa using e)
    exact ⟨y, by simpa using e1, e2⟩
theorem DVs.getV : ∀ {ds : List D} {vs : List V} {i : Nat} {v : V}, DVs G W Av H ds vs → vs[i]? = some v → ∃ d, ds[i]? = some d ∧ DV G W Av H d v
  | [], _, _, _, h, e => by simp only [DVs] at h; subst h; simp at e
  | d :: ds, _, 0, x, h, e => by
    simp only [DVs] at h
    obtain ⟨v, r, rfl, h1, _⟩ := h
    simp at e; subst e
    exact ⟨d, rfl, h1⟩
  | d :: ds, _, i + 1, x, h, e => by
    simp only [DVs] at h
    obtain ⟨v, r, rfl, _, h2⟩ := h
    obtain ⟨y, e1, e2⟩ := DVs.getV (i := i) h2 (by simpa using e)
    exact ⟨y, by simpa using e1, e2⟩
theorem DVs.append : ∀ {ds : List D} {vs : List V} {es : List D} {us : List V}, DVs G W Av H ds vs → DVs G W Av H es us → DVs G W Av H (ds ++ es) (vs ++ us)
  | [], _, _, _, h, q => by simp only [DVs] at h; subst h; exact q
  | d :: ds, _, _, _, h, q => by
    simp only [DVs] at h
    obtain ⟨v, r, rfl, h1, h2⟩ := h
    exact DVs.cons h1 (DVs.append h2 q)
theorem DVs.take : ∀ {ds : List D} {vs : List V} (n : Nat), DVs G W Av H ds vs → DVs G W Av H (ds.take n) (vs.take n)
  | _, _, 0, _ => by rw [List.take_zero, List.take_zero]; exact DVs.nil
  | [], _, n + 1, h => by simp only [DVs] at h; subst h; exact DVs.nil
  | d :: ds, _, n + 1, h => by
    simp only [DVs] at h
    obtain ⟨v, r, rfl, h1, h2⟩ := h
    exact DVs.cons h1 (DVs.take n h2)
theorem DVs.drop : ∀ {ds : List D} {vs : List V} (n : Nat), DVs G W Av H ds vs → DVs G W Av H (ds.drop n) (vs.drop n)
  | _, _, 0, h => h
  | [], _, n + 1, h => by simp only [DVs] at h; subst h; exact DVs.nil
  | d :: ds, _, n + 1, h => by
    simp only [DVs] at h
    obtain ⟨v, r, rfl, h1, h2⟩ := h
    exact DVs.drop n h2
theorem DVs.set {d : D} {v : V} (h : DV G W Av H d v) : ∀ {ds : List D} {vs : List V} (n : Nat), DVs G W Av H ds vs → DVs G W Av H (ds.set n d) (vs.set n v)
  | [], _, n, q => by simp only [DVs] at q; subst q; exact DVs.nil
  | e :: ds, _, 0, q => by
    simp only [DVs] at q
    obtain ⟨u, r, rfl, h1, h2⟩ := q
    exact DVs.cons h h2
  | e :: ds, _, n + 1, q => by
    simp only [DVs] at q
    obtain ⟨u, r, rfl, h1, h2⟩ := q
    exact DVs.cons h1 (DVs.set h n h2)
theorem DVs.eraseIdx : ∀ {ds : List D} {vs : List V} (n : Nat), DVs G W Av H ds vs → DVs G W Av H (ds.eraseIdx n) (vs.eraseIdx n)
  | [], _, n, q => by simp only [DVs] at q; subst q; exact DVs.nil
  | e :: ds, _, 0, q => by
    simp only [DVs] at q
    obtain ⟨u, r, rfl, h1, h2⟩ := q
    exact h2
  | e :: ds, _, n + 1, q => by
    simp only [DVs] at q
    obtain ⟨u, r, rfl, h1, h2⟩ := q
    exact DVs.cons h1 (DVs.eraseIdx n h2)
theorem DVs.reverse {ds : List D} {vs : List V} (h : DVs G W Av H ds vs) : DVs G W Av H ds.reverse vs.reverse := by
  induction ds generalizing vs with
  | nil => simp only [DVs] at h; subst h; exact DVs.nil
  | cons d ds ih =>
    simp only [DVs] at h
    obtain ⟨v, r, rfl, h1, h2⟩ := h
    rw [List.reverse_cons, List.reverse_cons]
    exact (ih h2).append (DVs.cons h1 DVs.nil)
end
end DL
set_option Elab.async false
set_option linter.all false
set_option maxRecDepth 100000
set_option maxHeartbeats 4000000
namespace DL
open PySem PySem.Spec L2

/-- what stands in a slot: nothing, data, or a list or dict of the frame's own that is still changed -/
inductive Slot where
  | un
  | dat (d : D)
  | own (d : D)
abbrev Env := List Slot

/-- at a stands the own list or dict -/
def OwnAt (G : Go) (W : Wd) (Av : Addr → Prop) (H : Hp) (a : Addr) : D → Prop
  | .lst ds => ∃ xs, H a = some (.lst xs) ∧ DVs G W Av H ds xs
  | .dct ks vs => ∃ kvs, H a = some (.dK kvs) ∧ ks = kvs.map (fun p => keyD p.1) ∧ DVs G W Av H vs (kvs.map (·.2))
  | _ => False
def SlotOk (G : Go) (W : Wd) (Av : Addr → Prop) (H : Hp) (o : Option Addr) (s : Slot) (x : Option (Option V)) : Prop :=
  match s with
  | .un => ∃ y, x = some y
  | .dat d => ∃ v, x = some (some v) ∧ DV G W Av H d v
  | .own d => ∃ a, o = some a ∧ x = some (some (.ref a)) ∧ OwnAt G W Av H a d

/-- a step: all that is tracked off S stays, nothing goes, what holds of S holds -/
structure Stp (W : Wd) (H H' : Hp) : Prop where
  keep : Keep W.S H H'
  live : ∀ b, Tr H b → Tr H' b
  amb : W.Amb H'
theorem Stp.trans {W : Wd} {H H1 H2 : Hp} (a : Stp W H H1) (b : Stp W H1 H2) : Stp W H H2 := ⟨a.keep.trans b.keep, fun c t => b.live c (a.live c t), b.amb⟩

/-- .. and at most w turns more -/
structure Stw (w : Nat) (W : Wd) (H H' : Hp) : Prop extends Stp W H H' where
  tn : W.tn H' ≤ W.tn H + w
instance {w : Nat} {W : Wd} {H H' : Hp} : CoeOut (Stw w W H H') (Stp W H H') := ⟨Stw.toStp⟩
theorem Stw.trans {w1 w2 : Nat} {W : Wd} {H H1 H2 : Hp} (a : Stw w1 W H H1) (b : Stw w2 W H1 H2) : Stw (w1 + w2) W H H2 := ⟨a.toStp.trans b.toStp, by have := a.tn; have := b.tn; omega⟩
theorem Stw.mono {w1 w2 : Nat} {W : Wd} {H H1 : Hp} (a : Stw w1 W H H1) (h : w1 ≤ w2) : Stw w2 W H H1 := ⟨a.toStp, by have := a.tn; omega⟩
/-- a point of a run: the run's constants, what the callers avoid, the entry's heap, the frame's own objects by slot -/
structure Pt where
  W : Wd
  Av : Addr → Prop
  H0 : Hp
  O : Nat → Option Addr
  X : List (D × V) := []
/-- what data avoid here -/
def Pt.avo (P : Pt) : Addr → Prop := fun a => P.Av a ∨ ∃ j, P.O j = some a
abbrev Pt.wO (P : Pt) (O : Nat → Option Addr) : Pt := { P with O := O }

structure R (G : Go) (P : Pt) (ρ : Env) (σ : St) (H : Hp) : Prop where
  stp : Stp P.W P.H0 H
  sAv : ∀ a, P.W.S a → P.Av a
  avH : ∀ a, P.Av a → Tr H a
  own : ∀ i a, P.O i = some a → ¬ P.Av a ∧ P.H0 a = none ∧ Tr H a
  inj : ∀ i j a, P.O i = some a → P.O j = some a → i = j
  len : σ.length = ρ.length
  sl : ∀ i s, ρ[i]? = some s → SlotOk G P.W P.avo H (P.O i) s σ[i]?
  held : ∀ p ∈ P.X, DV G P.W P.avo H p.1 p.2

section
variable {G : Go} {P : Pt} {ρ : Env} {σ : St} {H H' : Hp}
theorem Tr.ne {a b : Addr} (h : Tr H a) (n : H b = none) : a ≠ b := fun e => by
  obtain ⟨o, h⟩ := h
  rw [e, n] at h
  cases h
theorem R.sO (r : R G P ρ σ H) : ∀ a, P.W.S a → P.avo a := fun a h => .inl (r.sAv a h)
theorem R.avoH (r : R G P ρ σ H) {a : Addr} (h : P.avo a) : Tr H a := h.elim (r.avH a) fun ⟨j, e⟩ => (r.own j a e).2.2
theorem R.amb (r : R G P ρ σ H) : P.W.Amb H := r.stp.amb
theorem Stp.keepA {W : Wd} {Av : Addr → Prop} (s : Stp W H H') (h : ∀ a, W.S a → Av a) : Keep Av H H' := fun b o e n => s.keep b o e fun z => n (h b z)
theorem OwnAt.keep {W : Wd} {Av : Addr → Prop} {a : Addr} {d : D} (h : OwnAt G W Av H a d) (e : ∀ o, H a = some o → H' a = some o) (k : Keep Av H H') : OwnAt G W Av H' a d := by
  cases d with
  | lst ds => obtain ⟨xs, q, r⟩ := h; exact ⟨xs, e _ q, r.keep k⟩
  | dct ks vs => obtain ⟨xs, q, z, r⟩ := h; exact ⟨xs, e _ q, z, r.keep k⟩
  | _ => exact h.elim
theorem OwnAt.sub {W : Wd} {Av Av' : Addr → Prop} {a : Addr} {d : D} (h : OwnAt G W Av H a d) (s : ∀ a, Av' a → Tr H a → Av a) : OwnAt G W Av' H a d := by
  cases d with
  | lst ds => obtain ⟨xs, q, r⟩ := h; exact ⟨xs, q, r.sub s⟩
  | dct ks vs => obtain ⟨xs, q, z, r⟩ := h; exact ⟨xs, q, z, r.sub s⟩
  | _ => exact h.elim
/-- behind a step -/
theorem R.stepS (r : R G P ρ σ H) (s : Stp P.W H H') : R G P ρ σ H' := by
  refine ⟨r.stp.trans s, r.sAv, fun a h => s.live a (r.avH a h), fun i a e => ⟨(r.own i a e).1, (r.own i a e).2.1, s.live a (r.own i a e).2.2⟩, r.inj, r.len, fun i x e => ?_, fun p hp => (r.held p hp).keep (s.keepA r.sO)⟩
  have q := r.sl i x e
  have k := s.keepA r.sO
  cases x with
  | un => exact q
  | dat d => obtain ⟨v, e1, h⟩ := q; exact ⟨v, e1, h.keep k⟩
  | own d =>
    obtain ⟨a, e1, e2, h⟩ := q
    exact ⟨a, e1, e2, h.keep (fun o z => s.keep a o z fun w => (r.own i a e1).1 (r.sAv a w)) k⟩
theorem R.step {w : Nat} (r : R G P ρ σ H) (s : Stw w P.W H H') : R G P ρ σ H' := r.stepS s.toStp
/-- a new object that is tracked -/
theorem R.fresh (r : R G P ρ σ H) {p : Addr} {o : HO} (hp : H p = none) : Stw 0 P.W H (upd H p o) := by
  refine ⟨⟨fun b u e _ => ?_, fun b ⟨u, e⟩ => ?_, ?_⟩, Nat.le_of_eq (P.W.tst H _ fun b hb => by rw [upd_ne]; exact (r.avH b (r.sAv b hb)).ne hp)⟩
  · rw [upd_ne (ne_of_none e hp)]; exact e
  · exact ⟨u, by rw [upd_ne (ne_of_none e hp)]; exact e⟩
  · exact P.W.st H _ (fun b hb => by rw [upd_ne]; exact (r.avH b (r.sAv b hb)).ne hp) r.amb
theorem R.same (r : R G P ρ σ H) : Stw 0 P.W H H := ⟨⟨Keep.refl, fun _ t => t, r.amb⟩, Nat.le_refl _⟩
/-- what changes off S does not count -/
theorem R.tnO (r : R G P ρ σ H) {p : Addr} {o : HO} (h : ¬ P.W.S p) : P.W.tn (upd H p o) = P.W.tn H := P.W.tst H _ fun b hb => by rw [upd_ne]; exact fun e => h (by rw [← e]; exact hb)
theorem R.nS (r : R G P ρ σ H) {i : Nat} {a : Addr} (h : P.O i = some a) : ¬ P.W.S a := fun z => (r.own i a h).1 (r.sAv a z)
theorem R.freshAv (r : R G P ρ σ H) {p : Addr} (hp : H p = none) : ¬ P.avo p := fun h => (r.avoH h).ne hp rfl

theorem len_set {α : Type} (l : List α) (i : Nat) (x : α) : (l.set i x).length = l.length := List.length_set
/-- a slot is set to data (what it owned stays avoided) -/
theorem R.setDat (r : R G P ρ σ H) {i : Nat} {d : D} {v : V} (h : DV G P.W P.avo H d v) : R G P (ρ.set i (.dat d)) (σ.set i (some v)) H := by
  refine ⟨r.stp, r.sAv, r.avH, r.own, r.inj, by rw [len_set, len_set]; exact r.len, fun j x e => ?_, r.held⟩
  by_cases hj : j = i
  · subst hj
    have hlt : j < ρ.length := by
      have := (List.getElem?_eq_some_iff.mp e).1
      rw [len_set] at this; exact this
    rw [List.getElem?_set_self hlt] at e
    cases e
    exact ⟨v, List.getElem?_set_self (by rw [r.len]; exact hlt), h⟩
  · rw [List.getElem?_set_ne (Ne.symm hj)] at e
    rw [List.getElem?_set_ne (Ne.symm hj)]
    exact r.sl j x e
/-- a slot is set to an own object that nothing else knows -/
theorem R.setOwn (r : R G P ρ σ H) {i : Nat} {d : D} {p : Addr} (h0 : P.H0 p = none) (hav : ¬ P.avo p) (ht : Tr H p) (h : OwnAt G P.W (fun a => P.avo a ∨ a = p) H p d)
    (hf : (∀ j s, ρ[j]? = some s → SlotOk G P.W (fun a => P.avo a ∨ a = p) H (P.O j) s σ[j]?) ∧ ∀ q ∈ P.X, DV G P.W (fun a => P.avo a ∨ a = p) H q.1 q.2) :
    R G (P.wO fun j => if j = i then some p else P.O j) (ρ.set i (.own d)) (σ.set i (some (.ref p))) H := by
  have sub : ∀ a, (P.wO fun j => if j = i then some p else P.O j).avo a → Tr H a → (P.avo a ∨ a = p) := fun a h _ => h.elim (fun h => .inl (.inl h)) fun ⟨j, e⟩ => by
    dsimp only [Pt.wO] at e
    split at e
    · cases e; exact .inr rfl
    · exact .inl (.inr ⟨j, e⟩)
  refine ⟨r.stp, r.sAv, r.avH, fun j a e => ?_, fun j k a e1 e2 => ?_, by rw [len_set, len_set]; exact r.len, fun j x e => ?_, fun q hq => (hf.2 q hq).sub sub⟩
  · dsimp only [Pt.wO] at e
    split at e
    · cases e
      exact ⟨fun z => hav (.inl z), h0, ht⟩
    · exact r.own j a e
  · dsimp only [Pt.wO] at e1 e2
    split at e1
    · split at e2
      · omega
      · cases e1
        exact absurd (.inr ⟨k, e2⟩) hav
    · split at e2
      · cases e2
        exact absurd (.inr ⟨j, e1⟩) hav
      · exact r.inj j k a e1 e2
  · by_cases hj : j = i
    · subst hj
      have hlt : j < ρ.length := by
        have := (List.getElem?_eq_some_iff.mp e).1
        rw [len_set] at this; exact this
      rw [List.getElem?_set_self hlt] at e
      cases e
      exact ⟨p, by dsimp only [Pt.wO]; rw [if_pos rfl], List.getElem?_set_self (by rw [r.len]; exact hlt), h.sub sub⟩
    · rw [List.getElem?_set_ne (Ne.symm hj)] at e
      have q := hf.1 j x e
      rw [List.getElem?_set_ne (Ne.symm hj)]
      cases x with
      | un => exact q
      | dat d => obtain ⟨v, e1, h⟩ := q; exact ⟨v, e1, h.sub sub⟩
      | own d =>
        obtain ⟨a, e1, e2, h⟩ := q
        exact ⟨a, by dsimp only [Pt.wO]; rw [if_neg hj]; exact e1, e2, h.sub sub⟩
/-- what stood when p was free avoids p -/
theorem R.avoids (r : R G P ρ σ H) {p : Addr} (hp : H p = none) : (∀ j s, ρ[j]? = some s → SlotOk G P.W (fun a => P.avo a ∨ a = p) H (P.O j) s σ[j]?) ∧ ∀ q ∈ P.X, DV G P.W (fun a => P.avo a ∨ a = p) H q.1 q.2 := by
  have sub : ∀ a, (P.avo a ∨ a = p) → Tr H a → P.avo a := fun a h t => h.elim id fun z => absurd z (t.ne hp)
  refine ⟨fun j s e => ?_, fun q hq => (r.held q hq).sub sub⟩
  have q := r.sl j s e
  cases s with
  | un => exact q
  | dat d => obtain ⟨v, e1, h⟩ := q; exact ⟨v, e1, h.sub sub⟩
  | own d => obtain ⟨a, e1, e2, h⟩ := q; exact ⟨a, e1, e2, h.sub sub⟩
theorem SlotOk.keep {W : Wd} {Av : Addr → Prop} {o : Option Addr} {s : Slot} {x : Option (Option V)} (q : SlotOk G W Av H o s x) (k : Keep Av H H') (ko : ∀ a u, o = some a → H a = some u → H' a = some u) : SlotOk G W Av H' o s x := by
  cases s with
  | un => exact q
  | dat d => obtain ⟨v, e1, h⟩ := q; exact ⟨v, e1, h.keep k⟩
  | own d => obtain ⟨a, e1, e2, h⟩ := q; exact ⟨a, e1, e2, h.keep (fun u z => ko a u e1 z) k⟩
/-- the own object of a slot changes -/
theorem R.mut (r : R G P ρ σ H) {i : Nat} {a : Addr} {d d' : D} {o : HO} (hi : ρ[i]? = some (.own d)) (ha : P.O i = some a) (h : OwnAt G P.W P.avo (upd H a o) a d') :
    R G P (ρ.set i (.own d')) σ (upd H a o) := by
  obtain ⟨n1, n2, n3⟩ := r.own i a ha
  have k : Keep P.avo H (upd H a o) := fun b u e nb => by
    rw [upd_ne (fun z => nb (by rw [z]; exact .inr ⟨i, ha⟩))]; exact e
  have lv : ∀ b, Tr H b → Tr (upd H a o) b := fun b ⟨u, e⟩ => by
    by_cases hb : b = a
    · subst hb; exact ⟨_, upd_same⟩
    · exact ⟨u, by rw [upd_ne hb]; exact e⟩
  refine ⟨⟨fun b u e nb => ?_, fun b t => lv b (r.stp.live b t), ?_⟩, r.sAv, fun b z => lv b (r.avH b z), fun j b e => ⟨(r.own j b e).1, (r.own j b e).2.1, lv b (r.own j b e).2.2⟩, r.inj, by rw [len_set]; exact r.len, fun j x e => ?_, fun p hp => (r.held p hp).keep k⟩
  · rw [upd_ne (ne_of_none e n2)]
    exact r.stp.keep b u e nb
  · exact P.W.st H _ (fun b hb => by rw [upd_ne]; exact fun z => n1 (by rw [← z]; exact r.sAv b hb)) r.amb
  · by_cases hj : j = i
    · subst hj
      have hlt : j < ρ.length := by
        have := (List.getElem?_eq_some_iff.mp e).1
        rw [len_set] at this; exact this
      rw [List.getElem?_set_self hlt] at e
      cases e
      obtain ⟨b, e1, e2, _⟩ := r.sl j _ hi
      exact ⟨b, e1, e2, by rw [ha] at e1; cases e1; exact h⟩
    · rw [List.getElem?_set_ne (Ne.symm hj)] at e
      exact (r.sl j x e).keep k fun b u e1 e2 => by
        rw [upd_ne]
        · exact e2
        · exact fun z => hj (r.inj j i a (by rw [← z]; exact e1) ha)
/-- an own object is given up: it is data from now on -/
theorem R.release (r : R G P ρ σ H) {i : Nat} {d : D} (hi : ρ[i]? = some (.own d)) : R G (P.wO fun j => if j = i then none else P.O j) (ρ.set i (.dat d)) σ H := by
  obtain ⟨a, e1, e2, h⟩ := r.sl i _ hi
  have nav : ¬ (P.wO fun j => if j = i then none else P.O j).avo a := fun z => z.elim (r.own i a e1).1 fun ⟨j, e⟩ => by
    dsimp only [Pt.wO] at e
    split at e
    · cases e
    · rename_i hj
      exact hj (r.inj j i a e e1)
  have sub : ∀ a, (P.wO fun j => if j = i then none else P.O j).avo a → Tr H a → P.avo a := fun a h _ => h.elim .inl fun ⟨j, e⟩ => by
    dsimp only [Pt.wO] at e
    split at e
    · cases e
    · exact .inr ⟨j, e⟩
  have hd : DV G P.W (P.wO fun j => if j = i then none else P.O j).avo H d (.ref a) := by
    cases d with
    | lst ds =>
      obtain ⟨xs, q, z⟩ := h
      simp only [DV]
      exact ⟨a, xs, rfl, .inl ⟨nav, .inl q⟩, z.sub sub⟩
    | dct ks vs =>
      obtain ⟨xs, q, z, w⟩ := h
      simp only [DV]
      exact ⟨a, xs, rfl, nav, .inl q, z, w.sub sub⟩
    | _ => exact h.elim
  refine ⟨r.stp, r.sAv, r.avH, fun j b e => ?_, fun j k b h1 h2 => ?_, by rw [len_set]; exact r.len, fun j x e => ?_, fun p hp => (r.held p hp).sub sub⟩
  · dsimp only [Pt.wO] at e
    split at e
    · cases e
    · exact r.own j b e
  · dsimp only [Pt.wO] at h1 h2
    split at h1
    · cases h1
    · split at h2
      · cases h2
      · exact r.inj j k b h1 h2
  · by_cases hj : j = i
    · subst hj
      have hlt : j < ρ.length := by
        have := (List.getElem?_eq_some_iff.mp e).1
        rw [len_set] at this; exact this
      rw [List.getElem?_set_self hlt] at e
      cases e
      exact ⟨_, e2, hd⟩
    · rw [List.getElem?_set_ne (Ne.symm hj)] at e
      have q := r.sl j x e
      cases x with
      | un => exact q
      | dat d => obtain ⟨v, e1, h⟩ := q; exact ⟨v, e1, h.sub sub⟩
      | own d =>
        obtain ⟨a, e1, e2, h⟩ := q
        exact ⟨a, by dsimp only [Pt.wO]; rw [if_neg hj]; exact e1, e2, h.sub sub⟩
/-- a slot is emptied, or forgotten -/
theorem R.forget (r : R G P ρ σ H) {i : Nat} {x : Option V} : R G P (ρ.set i .un) (σ.set i x) H := by
  refine ⟨r.stp, r.sAv, r.avH, r.own, r.inj, by rw [len_set, len_set]; exact r.len, fun j y e => ?_, r.held⟩
  by_cases hj : j = i
  · subst hj
    have hlt : j < ρ.length := by
      have := (List.getElem?_eq_some_iff.mp e).1
      rw [len_set] at this; exact this
    rw [List.getElem?_set_self hlt] at e
    cases e
    exact ⟨x, List.getElem?_set_self (by rw [r.len]; exact hlt)⟩
  · rw [List.getElem?_set_ne (Ne.symm hj)] at e
    rw [List.getElem?_set_ne (Ne.symm hj)]
    exact r.sl j y e
/-- what is avoided, and younger than the entry, and not of S, may change -/
theorem R.mutAv (r : R G P ρ σ H) {p : Addr} {o : HO} (h1 : P.Av p) (h2 : ¬ P.W.S p) (h3 : P.H0 p = none) : R G P ρ σ (upd H p o) := by
  have k : Keep P.avo H (upd H p o) := fun b u e nb => by rw [upd_ne (fun z => nb (by rw [z]; exact .inl h1))]; exact e
  have lv : ∀ b, Tr H b → Tr (upd H p o) b := fun b ⟨u, e⟩ => by
    by_cases hb : b = p
    · subst hb; exact ⟨_, upd_same⟩
    · exact ⟨u, by rw [upd_ne hb]; exact e⟩
  refine ⟨⟨fun b u e nb => ?_, fun b t => lv b (r.stp.live b t), ?_⟩, r.sAv, fun b z => lv b (r.avH b z), fun j b e => ⟨(r.own j b e).1, (r.own j b e).2.1, lv b (r.own j b e).2.2⟩, r.inj, r.len, fun j x e => ?_, fun q hq => (r.held q hq).keep k⟩
  · rw [upd_ne (ne_of_none e h3)]
    exact r.stp.keep b u e nb
  · exact P.W.st H _ (fun b hb => by rw [upd_ne]; exact fun z => h2 (by rw [← z]; exact hb)) r.amb
  · exact (r.sl j x e).keep k fun b u e1 e2 => by
      rw [upd_ne]
      · exact e2
      · exact fun z => (r.own j b e1).1 (by rw [z]; exact h1)
/-- one address more is avoided: it was free at H, and all that stood there stands -/
theorem R.addAv (r : R G P ρ σ H) {H1 : Hp} {p : Addr} (hp : H p = none) (ht : Tr H1 p) (s : Stp P.W H H1) : R G { P with Av := fun a => P.Av a ∨ a = p } ρ σ H1 := by
  have r1 := r.stepS s
  have f := r.avoids hp
  have sub : ∀ a, ({ P with Av := fun a => P.Av a ∨ a = p } : Pt).avo a → Tr H1 a → (P.avo a ∨ a = p) := fun a h _ => h.elim (fun h => h.elim (fun h => .inl (.inl h)) .inr) fun h => .inl (.inr h)
  have k : Keep (fun a => P.avo a ∨ a = p) H H1 := s.keepA fun a h => .inl (r.sO a h)
  refine ⟨r1.stp, fun a h => .inl (r.sAv a h), fun a h => h.elim (r1.avH a) (fun z => by rw [z]; exact ht), fun i a e => ⟨fun z => z.elim (r.own i a e).1 fun z => (r.own i a e).2.2.ne hp z, (r1.own i a e).2⟩, r.inj, r.len, fun j x e => ?_, fun q hq => ((f.2 q hq).keep k).sub sub⟩
  have q := (f.1 j x e).keep k fun a u e1 z => s.keep a u z fun w => (r.own j a e1).1 (r.sAv a w)
  cases x with
  | un => exact q
  | dat d => obtain ⟨v, e1, h⟩ := q; exact ⟨v, e1, h.sub sub⟩
  | own d => obtain ⟨a, e1, e2, h⟩ := q; exact ⟨a, e1, e2, h.sub sub⟩
/-- data is held on to -/
theorem R.hold (r : R G P ρ σ H) {hs : List (D × V)} (h : ∀ p ∈ hs, DV G P.W P.avo H p.1 p.2) : R G { P with X := hs ++ P.X } ρ σ H :=
  ⟨r.stp, r.sAv, r.avH, r.own, r.inj, r.len, r.sl, fun p hp => (List.mem_append.mp hp).elim (h p) (r.held p)⟩
theorem R.drop (r : R G P ρ σ H) {hs : List (D × V)} (h : ∀ p ∈ hs, p ∈ P.X) : R G { P with X := hs } ρ σ H :=
  ⟨r.stp, r.sAv, r.avH, r.own, r.inj, r.len, r.sl, fun p hp => r.held p (h p hp)⟩
end
end DL
set_option Elab.async false
set_option linter.all false
set_option maxRecDepth 100000
set_option maxHeartbeats 4000000
namespace DL
open PySem PySem.Spec L2

/-- an expression over data: the slots, what is wanted of its value, what is wanted of an exception -/
abbrev Mv := Env → (D → Prop) → (D → Prop) → Prop
abbrev Mt := Env → (Bool → Prop) → (D → Prop) → Prop
abbrev Ma := Env → (List D → Prop) → (D → Prop) → Prop
structure DE where
  nx : Env → Prop
  rt : D → Prop
  bk : Env → Prop := fun _ => False
  ct : Env → Prop := fun _ => False
  ex : D → Prop := fun _ => False
abbrev Ms := Env → DE → Prop

/-- how a value stands for data, from the heap H ahead of the expression to H' behind it -/
abbrev Rl := Go → Pt → Hp → Hp → D → V → Prop
def DVr : Rl := fun G P _ H' d v => DV G P.W P.avo H' d v
/-- .. or is a slot's own object -/
def DBr : Rl := fun G P _ H' d v => DV G P.W P.avo H' d v ∨ ∃ i a, P.O i = some a ∧ v = .ref a ∧ OwnAt G P.W P.avo H' a d
/-- a new list or dict that nothing else knows -/
def FVr : Rl := fun G P H H' d v => ∃ p, v = .ref p ∧ H p = none ∧ Tr H' p ∧ ¬ P.avo p ∧ OwnAt G P.W (fun a => P.avo a ∨ a = p) H' p d
class Sub (r r' : Rl) : Prop where
  sub : ∀ {G P H H' d v}, r G P H H' d v → r' G P H H' d v
instance (r : Rl) : Sub r r := ⟨fun h => h⟩
instance : Sub DVr DBr := ⟨fun h => .inl h⟩
theorem OwnAt.dv {G : Go} {P : Pt} {H : Hp} {p : Addr} {d : D} (n : ¬ P.avo p) (h : OwnAt G P.W P.avo H p d) : DV G P.W P.avo H d (.ref p) := by
  cases d with
  | lst ds => obtain ⟨xs, q, z⟩ := h; simp only [DV]; exact ⟨p, xs, rfl, .inl ⟨n, .inl q⟩, z⟩
  | dct ks vs => obtain ⟨xs, q, z, w⟩ := h; simp only [DV]; exact ⟨p, xs, rfl, n, .inl q, z, w⟩
  | _ => exact h.elim
instance : Sub FVr DVr := ⟨fun ⟨p, e, _, _, n, h⟩ => by subst e; exact (h.sub fun a z _ => .inl z).dv n⟩
instance : Sub FVr DBr := ⟨fun h => .inl (Sub.sub (r := FVr) (r' := DVr) h)⟩
/-- the start may be moved back -/
class Back (r : Rl) : Prop where
  back : ∀ {G P H H2 H' d v}, Stp P.W H H2 → r G P H2 H' d v → r G P H H' d v
theorem Stp.none {W : Wd} {H H' : Hp} {p : Addr} (s : Stp W H H') (h : H' p = none) : H p = none := by
  cases e : H p with
  | none => rfl
  | some o => obtain ⟨u, z⟩ := s.live p ⟨o, e⟩; rw [h] at z; cases z
instance : Back DVr := ⟨fun _ h => h⟩
instance : Back DBr := ⟨fun _ h => h⟩
instance : Back FVr := ⟨fun s ⟨p, e, n, t, a, h⟩ => ⟨p, e, s.none n, t, a, h⟩⟩

/-- an exception stands for data -/
def EV (G : Go) (W : Wd) (Av : Addr → Prop) (H : Hp) (x : D) (cls : Value) (d : Option Addr) : Prop :=
  ∃ c y, x = .exc c y ∧ cls = .ref (G.ec c) ∧ XV G Av H c d (DV G W Av H y)
/-- the way out of an exception, and that w turns more are served -/
def XOk (w : Nat) (G : Go) (X : WX) (P : Pt) (H : Hp) (e : D → Prop) : Prop := P.W.tn H + w ≤ Bt ∧ ∀ x, e x → ∀ cls d σ' H', Stw w P.W H H' → EV G P.W P.avo H' x cls d → X cls d σ' H'
section
variable {G : Go} {X : WX} {P : Pt} {H H1 : Hp} {e : D → Prop} {w w1 w2 : Nat}
theorem XOk.step (h : XOk (w1 + w2) G X P H e) (s : Stw w1 P.W H H1) : XOk w2 G X P H1 e := ⟨by have := h.1; have := s.tn; omega, fun x q cls d σ' H' s' => h.2 x q cls d σ' H' (s.trans s')⟩
theorem XOk.done (h : XOk w G X P H e) (s : Stw w P.W H H1) : XOk 0 G X P H1 e := XOk.step (w1 := w) (w2 := 0) h s
theorem XOk.lo (h : XOk w2 G X P H e) (l : w1 ≤ w2) : XOk w1 G X P H e := ⟨by have := h.1; omega, fun x q cls d σ' H' s' => h.2 x q cls d σ' H' (s'.mono l)⟩
theorem XOk.l (h : XOk (w1 + w2) G X P H e) : XOk w1 G X P H e := h.lo (Nat.le_add_right _ _)
theorem XOk.same {ρ : Env} {σ : St} (h : XOk w G X P H e) (r : R G P ρ σ H) : XOk 0 G X P H e := h.lo (Nat.zero_le _)
end
/-- at most w turns more -/
def Tn (w : Nat) (W : Wd) (H H' : Hp) : Prop := W.tn H' ≤ W.tn H + w
theorem Tn.trans {w1 w2 : Nat} {W : Wd} {H H1 H2 : Hp} (a : Tn w1 W H H1) (b : Tn w2 W H1 H2) : Tn (w1 + w2) W H H2 := by unfold Tn at *; omega
theorem Tn.mono {w1 w2 : Nat} {W : Wd} {H H1 : Hp} (a : Tn w1 W H H1) (h : w1 ≤ w2) : Tn w2 W H H1 := by unfold Tn at *; omega
theorem Tn.refl {w : Nat} {W : Wd} {H : Hp} : Tn w W H H := Nat.le_add_right _ _

def LR (w : Nat) (rel : Rl) (G : Go) (X : WX) (m : Mv) : TE := fun σ H Q => ∃ (P : Pt) (ρ : Env) (k e : D → Prop), R G P ρ σ H ∧ m ρ k e ∧
  (∀ d, k d → ∀ v H', Stw w P.W H H' → rel G P H H' d v → Q v H') ∧ XOk w G X P H e
def LT (w : Nat) (G : Go) (X : WX) (m : Mt) : TT := fun σ H Q => ∃ (P : Pt) (ρ : Env) (k : Bool → Prop) (e : D → Prop), R G P ρ σ H ∧ m ρ k e ∧ (∀ b, k b → ∀ H', Stw w P.W H H' → Q b H') ∧ XOk w G X P H e
def LA (w : Nat) (G : Go) (X : WX) (m : Ma) : TA := fun σ H Q => ∃ (P : Pt) (ρ : Env) (k : List D → Prop) (e : D → Prop), R G P ρ σ H ∧ m ρ k e ∧
  (∀ ds, k ds → ∀ vs H', Stw w P.W H H' → DVs G P.W P.avo H' ds vs → Q vs H') ∧ XOk w G X P H e
def LS (w : Nat) (G : Go) (X : WX) (m : Ms) : TS := fun D σ H => ∃ (P : Pt) (ρ : Env) (E : DE), R G P ρ σ H ∧ m ρ E ∧
  (∀ ρ', E.nx ρ' → ∀ O' σ' H', R G (P.wO O') ρ' σ' H' → Tn w P.W H H' → D.nx σ' H') ∧ (∀ d, E.rt d → ∀ v H', Stp P.W P.H0 H' → Tn w P.W H H' → DV G P.W P.Av H' d v → D.rt v H') ∧
  (∀ ρ', E.bk ρ' → ∀ O' σ' H', R G (P.wO O') ρ' σ' H' → Tn w P.W H H' → D.bk σ' H') ∧ (∀ ρ', E.ct ρ' → ∀ O' σ' H', R G (P.wO O') ρ' σ' H' → Tn w P.W H H' → D.ct σ' H') ∧
  (P.W.tn H + w ≤ Bt ∧ ∀ x, E.ex x → ∀ cls d σ' H', Stp P.W P.H0 H' → Tn w P.W H H' → EV G P.W P.Av H' x cls d → X cls d σ' H')

section
variable {X : Cx} {G : Go} {Wx : WX} {e a b : Expr} {rel r1 r2 : Rl} {pos : Pos} {w w1 w2 w3 : Nat}
theorem peW {t t' : TE} (h : PE X e t) (i : ∀ σ H Q, t' σ H Q → t σ H Q) : PE X e t' := ⟨fun pins s σ H Q I q => h.run pins s σ H Q I (i σ H Q q)⟩
theorem ptW {t t' : TT} (h : PT X e t) (i : ∀ σ H Q, t' σ H Q → t σ H Q) : PT X e t' := ⟨fun pins s σ H Q I q => h.run pins s σ H Q I (i σ H Q q)⟩
theorem paW {es : List Expr} {t t' : TA} (h : PA X es t) (i : ∀ σ H Q, t' σ H Q → t σ H Q) : PA X es t' := ⟨fun pos pins s σ H Q I q => h.run pos pins s σ H Q I (i σ H Q q)⟩
theorem psW {st : Stmt} {t t' : TS} (h : PS X st t) (i : ∀ D σ H, t' D σ H → t D σ H) : PS X st t' := ⟨fun pins s σ H D I q => h.run pins s σ H D I (i D σ H q)⟩
theorem pssW {st : List Stmt} {t t' : TS} (h : PSs X st t) (i : ∀ D σ H, t' D σ H → t D σ H) : PSs X st t' := ⟨fun pins s σ H D I q => h.run pins s σ H D I (i D σ H q)⟩
theorem LR.sub [hs : Sub r1 r2] {m : Mv} (h : PE X e (LR w r1 G Wx m)) : PE X e (LR w r2 G Wx m) := peW h fun σ H Q ⟨P, ρ, k, e, r, q, h, x⟩ => ⟨P, ρ, k, e, r, q, fun d kd v H' s z => h d kd v H' s (hs.sub z), x⟩

/-! ### names and constants -/
def mName (i : Nat) : Mv := fun ρ k _ => match ρ[i]? with | some (.dat d) => k d | some (.own d) => k d | _ => False
def mDat (i : Nat) : Mv := fun ρ k _ => match ρ[i]? with | some (.dat d) => k d | _ => False
def mC (d : D) : Mv := fun _ k _ => k d
theorem pd_own (i : Nat) {x : Str} (hN : X.N[i]? = some x := by rfl) (hv : Vis X.env.scope x := by first | exact Or.inl rfl | exact Or.inr (Or.inl rfl) | exact Or.inr (Or.inr rfl)) (hd : (x == ("__debug__" : Str)) = false := by decide)
    (hcd : (x == ("__classdict__" : Str)) = false := by decide) : PE X (.Name x pos) (LR 0 DBr G Wx (mName i)) := peW (pe_var hN hv hd hcd) fun σ H Q ⟨P, ρ, k, e, r, q, h, _⟩ => by
  unfold mName at q
  split at q
  · rename_i d hi
    obtain ⟨v, e1, hv⟩ := r.sl i _ hi
    exact ⟨v, e1, h d q v H r.same (.inl hv)⟩
  · rename_i d hi
    obtain ⟨a, e1, e2, ho⟩ := r.sl i _ hi
    exact ⟨_, e2, h d q _ H r.same (.inr ⟨i, a, e1, rfl, ho⟩)⟩
  · exact q.elim
theorem pd (i : Nat) {x : Str} (hN : X.N[i]? = some x := by rfl) (hv : Vis X.env.scope x := by first | exact Or.inl rfl | exact Or.inr (Or.inl rfl) | exact Or.inr (Or.inr rfl)) (hd : (x == ("__debug__" : Str)) = false := by decide)
    (hcd : (x == ("__classdict__" : Str)) = false := by decide) : PE X (.Name x pos) (LR 0 DVr G Wx (mDat i)) := peW (pe_var hN hv hd hcd) fun σ H Q ⟨P, ρ, k, e, r, q, h, _⟩ => by
  unfold mDat at q
  split at q
  · rename_i d hi
    obtain ⟨v, e1, hv⟩ := r.sl i _ hi
    exact ⟨v, e1, h d q v H r.same hv⟩
  · exact q.elim
theorem pd_int {i j} : PE X (.Constant (.int i) j pos) (LR 0 DVr G Wx (mC (.int i))) := peW pe_int fun σ H Q ⟨P, ρ, k, e, r, q, h, _⟩ => h _ q _ H r.same (by simp only [DVr, DV])
theorem pd_bl {i j} : PE X (.Constant (.bool i) j pos) (LR 0 DVr G Wx (mC (.bl i))) := peW pe_bl fun σ H Q ⟨P, ρ, k, e, r, q, h, _⟩ => h _ q _ H r.same (by simp only [DVr, DV])
theorem pd_str {i j} : PE X (.Constant (.str i) j pos) (LR 0 DVr G Wx (mC (.str i))) := peW pe_str fun σ H Q ⟨P, ρ, k, e, r, q, h, _⟩ => h _ q _ H r.same (by simp only [DVr, DV])
theorem pd_non {j} : PE X (.Constant .none j pos) (LR 0 DVr G Wx (mC .non)) := peW pe_non fun σ H Q ⟨P, ρ, k, e, r, q, h, _⟩ => h _ q _ H r.same (by simp only [DVr, DV])

/-! ### two operands -/
abbrev Op2 := D → D → (D → Prop) → (D → Prop) → Prop
abbrev Op1 := D → (D → Prop) → (D → Prop) → Prop
def m2 (f : Op2) (ma mb : Mv) : Mv := fun ρ k e => ma ρ (fun x => mb ρ (fun y => f x y k e) e) e
def m1 (f : Op1) (ma : Mv) : Mv := fun ρ k e => ma ρ (fun x => f x k e) e
/-- the operation r by values does f on data -/
def Does2 (G : Go) (X : WX) (rel : Rl) (r : R2) (f : Op2) : Prop := ∀ (P : Pt) (ρ : Env) (σ : St) (H : Hp) (x y : V) (Q : VK) (d1 d2 : D) (k e : D → Prop), R G P ρ σ H → DBr G P H H d1 x → DBr G P H H d2 y → f d1 d2 k e →
  (∀ d, k d → ∀ v H', Stw 0 P.W H H' → rel G P H H' d v → Q v H') → XOk 0 G X P H e → r x y H Q
def Does1 (G : Go) (X : WX) (rel : Rl) (r : V → Hp → VK → Prop) (f : Op1) : Prop := ∀ (P : Pt) (ρ : Env) (σ : St) (H : Hp) (x : V) (Q : VK) (d1 : D) (k e : D → Prop), R G P ρ σ H → DBr G P H H d1 x → f d1 k e →
  (∀ d, k d → ∀ v H', Stw 0 P.W H H' → rel G P H H' d v → Q v H') → XOk 0 G X P H e → r x H Q
theorem DBr.step {P : Pt} {ρ : Env} {σ : St} {H0 H H' : Hp} {d : D} {v : V} (h : DBr G P H0 H d v) (r : R G P ρ σ H) (s : Stp P.W H H') : DBr G P H' H' d v := by
  have k := s.keepA r.sO
  rcases h with h | ⟨i, a, e1, e2, h⟩
  · exact .inl (h.keep k)
  · exact .inr ⟨i, a, e1, e2, h.keep (fun o z => s.keep a o z fun w => (r.own i a e1).1 (r.sAv a w)) k⟩
/-- the common core: a then b, then r by values -/
theorem lr2 [Back rel] [s1 : Sub r1 DBr] [s2 : Sub r2 DBr] {r : R2} {f : Op2} {ma mb : Mv} (hr : Does2 G Wx rel r f) {σ : St} {H : Hp} {Q : VK} (h : LR (w1 + w2) rel G Wx (m2 f ma mb) σ H Q) : tOp r (LR w1 r1 G Wx ma) (LR w2 r2 G Wx mb) σ H Q := by
  obtain ⟨P, ρ, k, e, r0, q, hk, hx⟩ := h
  refine ⟨P, ρ, _, e, r0, q, fun d1 q1 v H1 st1 z1 => ?_, hx.l⟩
  have R1 := r0.step st1
  refine ⟨P, ρ, _, e, R1, q1, fun d2 q2 u H2 st2 z2 => ?_, hx.step st1⟩
  have R2 := R1.step st2
  exact hr P ρ σ H2 v u Q d1 d2 k e R2 ((s1.sub z1).step R1 st2) (show DBr G P H1 H2 d2 u from s2.sub z2) q2 (fun d kd w H' s z => hk d kd w H' ((st1.trans st2).trans s) (Back.back (st1.trans st2) z)) (hx.done (st1.trans st2))
theorem lr1 [Back rel] [s1 : Sub r1 DBr] {r : V → Hp → VK → Prop} {f : Op1} {ma : Mv} (hr : Does1 G Wx rel r f) {σ : St} {H : Hp} {Q : VK} (h : LR w rel G Wx (m1 f ma) σ H Q) : tUn r (LR w r1 G Wx ma) σ H Q := by
  obtain ⟨P, ρ, k, e, r0, q, hk, hx⟩ := h
  refine ⟨P, ρ, _, e, r0, q, fun d1 q1 v H1 st1 z1 => ?_, hx⟩
  have R1 := r0.step st1
  exact hr P ρ σ H1 v Q d1 k e R1 (show DBr G P H H1 d1 v from s1.sub z1) q1 (fun d kd w H' s z => hk d kd w H' (st1.trans s) (Back.back st1 z)) (hx.done st1)
theorem pd_op [Back rel] [s1 : Sub r1 DBr] [s2 : Sub r2 DBr] {op : Operator} {r : R2} {f : Op2} {ma mb : Mv} (ho : OpR X (binaryOp op) r) (hr : Does2 G Wx rel r f) (ha : PE X a (LR w1 r1 G Wx ma)) (hb : PE X b (LR w2 r2 G Wx mb)) :
    PE X (.BinOp a op b pos) (LR (w1 + w2) rel G Wx (m2 f ma mb)) := peW (pe_op ho ha hb) fun _ _ _ => lr2 hr
theorem pd_un [Back rel] [s1 : Sub r1 DBr] {op : UnaryOp} {r : V → Hp → VK → Prop} {f : Op1} {ma : Mv} (ho : UnR X (unaryOp op) r) (hr : Does1 G Wx rel r f) (ha : PE X a (LR w r1 G Wx ma)) :
    PE X (.UnaryOp op a pos) (LR w rel G Wx (m1 f ma)) := peW (pe_un ho ha) fun _ _ _ => lr1 hr
theorem pd_cmp [Back rel] [s1 : Sub r1 DBr] [s2 : Sub r2 DBr] {op : CmpOp} {r : R2} {f : Op2} {ma mb : Mv} (ho : OpR X (compareOp op) r) (hr : Does2 G Wx rel r f) (hm : behindInMarks op b = false) (ha : PE X a (LR w1 r1 G Wx ma)) (hb : PE X b (LR w2 r2 G Wx mb)) :
    PE X (.Compare a [op] [b] pos) (LR (w1 + w2) rel G Wx (m2 f ma mb)) := peW (pe_cmpR ho ha hb hm) fun _ _ _ => lr2 hr
/-- a bool's test -/
def mB (m : Mv) : Mt := fun ρ k e => m ρ (fun d => ∃ b, d = .bl b ∧ k b) e
theorem lrB [s1 : Sub rel DBr] {m : Mv} {σ : St} {H : Hp} {Q : Bool → Hp → Prop} (h : LT w G Wx (mB m) σ H Q) : LR w rel G Wx m σ H (fun x H' => ∃ c, x = .bl c ∧ Q c H') := by
  obtain ⟨P, ρ, k, e, r0, q, hk, hx⟩ := h
  refine ⟨P, ρ, _, e, r0, q, fun d ⟨c, ed, kc⟩ v H' st z => ?_, hx⟩
  subst ed
  rcases s1.sub z with z | ⟨_, _, _, _, z⟩
  · simp only [DV] at z
    exact ⟨c, z, hk c kc H' st⟩
  · exact z.elim
theorem td_cmp [s1 : Sub r1 DBr] [s2 : Sub r2 DBr] {op : CmpOp} {r : R2} {f : Op2} {ma mb : Mv} (ho : OpR X (compareOp op) r) (hr : Does2 G Wx DVr r f) (hm : behindInMarks op b = false) (ha : PE X a (LR w1 r1 G Wx ma)) (hb : PE X b (LR w2 r2 G Wx mb)) :
    PT X (.Compare a [op] [b] pos) (LT (w1 + w2) G Wx (mB (m2 f ma mb))) := ptW (pt_cmpR ho ha hb hm) fun _ _ _ h => lr2 hr (lrB h)
/-- any other expression that gives a bool -/
theorem td_val [s1 : Sub r1 DBr] {m : Mv} (h : PE X e (LR w r1 G Wx m)) (he : ∀ whole, isTrue e X.env whole = (do let v ← whole; standAt e.pos; holding [v] (truthy v)) := by intro _; rfl) : PT X e (LT w G Wx (mB m)) :=
  ptW (pt_val h he) fun _ _ _ h => lrB h

/-! ### and, or, not, if -/
def mAnd (a b : Mt) : Mt := fun ρ k e => a ρ (fun c => if c = true then b ρ k e else k false) e
def mOr (a b : Mt) : Mt := fun ρ k e => a ρ (fun c => if c = true then k true else b ρ k e) e
def mNot (a : Mt) : Mt := fun ρ k e => a ρ (fun c => k (!c)) e
variable {rest : List Expr} {ta tb : Mt} {ma mb : Mv}
theorem td_and1 (ha : PT X a (LT w G Wx ta)) : PW X (.BoolOp .And [a] pos) (LT w G Wx ta) := pw_and1 ha
theorem td_or1 (ha : PT X a (LT w G Wx ta)) : PW X (.BoolOp .Or [a] pos) (LT w G Wx ta) := pw_or1 ha
theorem td_and (ha : PT X a (LT w1 G Wx ta)) (hb : PW X (.BoolOp .And (b :: rest) pos) (LT w2 G Wx tb)) : PW X (.BoolOp .And (a :: b :: rest) pos) (LT (w1 + w2) G Wx (mAnd ta tb)) := by
  refine ⟨fun whole pins s σ H Q I h => (pw_and ha hb).run whole pins s σ H Q I ?_⟩
  obtain ⟨P, ρ, k, e, r0, q, hk, hx⟩ := h
  refine ⟨P, ρ, _, e, r0, q, fun c qc H1 st => ?_, hx.l⟩
  cases c with
  | true => rw [if_pos rfl] at qc ⊢; exact ⟨P, ρ, k, e, r0.step st, qc, fun c kc H' s => hk c kc H' (st.trans s), hx.step st⟩
  | false => rw [if_neg Bool.false_ne_true] at qc ⊢; exact hk _ qc H1 (st.mono (Nat.le_add_right _ _))
theorem td_or (ha : PT X a (LT w1 G Wx ta)) (hb : PW X (.BoolOp .Or (b :: rest) pos) (LT w2 G Wx tb)) : PW X (.BoolOp .Or (a :: b :: rest) pos) (LT (w1 + w2) G Wx (mOr ta tb)) := by
  refine ⟨fun whole pins s σ H Q I h => (pw_or ha hb).run whole pins s σ H Q I ?_⟩
  obtain ⟨P, ρ, k, e, r0, q, hk, hx⟩ := h
  refine ⟨P, ρ, _, e, r0, q, fun c qc H1 st => ?_, hx.l⟩
  cases c with
  | false => rw [if_neg Bool.false_ne_true] at qc ⊢; exact ⟨P, ρ, k, e, r0.step st, qc, fun c kc H' s => hk c kc H' (st.trans s), hx.step st⟩
  | true => rw [if_pos rfl] at qc ⊢; exact hk _ qc H1 (st.mono (Nat.le_add_right _ _))
theorem td_not (ha : PT X a (LT w G Wx ta)) : PT X (.UnaryOp .Not a pos) (LT w G Wx (mNot ta)) := ptW (pt_not ha) fun σ H Q ⟨P, ρ, k, e, r0, q, hk, hx⟩ => ⟨P, ρ, _, e, r0, q, fun c qc H1 st => hk _ qc H1 st, hx⟩
/-- as values: bools -/
def vB (t : Mt) : Mv := fun ρ k e => t ρ (fun b => k (.bl b)) e
def mAndV (a b : Mv) : Mv := fun ρ k e => a ρ (fun d => ∃ c, d = .bl c ∧ if c = true then b ρ k e else k (.bl false)) e
def mOrV (a b : Mv) : Mv := fun ρ k e => a ρ (fun d => ∃ c, d = .bl c ∧ if c = true then k (.bl true) else b ρ k e) e
def mNotV (a : Mv) : Mv := fun ρ k e => a ρ (fun d => ∃ c, d = .bl c ∧ k (.bl (!c))) e
theorem dbl {P : Pt} {H H' : Hp} {c : Bool} {v : V} (h : DBr G P H H' (.bl c) v) : v = .bl c := by
  rcases h with z | ⟨_, _, _, _, z⟩
  · simpa only [DV] using z
  · exact z.elim
theorem pd_one {op} {m : Mv} {rel : Rl} (ha : PE X a (LR w rel G Wx m)) : PE X (.BoolOp op [a] pos) (LR w rel G Wx m) := pe_one ha
theorem pd_and [s1 : Sub r1 DBr] (ha : PE X a (LR w1 r1 G Wx ma)) (hb : PE X (.BoolOp .And (b :: rest) pos) (LR w2 DVr G Wx mb)) : PE X (.BoolOp .And (a :: b :: rest) pos) (LR (w1 + w2) DVr G Wx (mAndV ma mb)) := peW (pe_and ha hb) fun σ H Q ⟨P, ρ, k, e, r0, q, hk, hx⟩ => by
  refine ⟨P, ρ, _, e, r0, q, fun d ⟨c, ed, qc⟩ v H1 st z => ?_, hx.l⟩
  subst ed
  refine ⟨c, dbl (s1.sub z), ?_⟩
  cases c with
  | true => rw [if_pos rfl] at qc ⊢; exact ⟨P, ρ, k, e, r0.step st, qc, fun c kc v H' s => hk c kc v H' (st.trans s), hx.step st⟩
  | false => rw [if_neg Bool.false_ne_true] at qc ⊢; exact hk _ qc _ H1 (st.mono (Nat.le_add_right _ _)) (by simp only [DVr, DV])
theorem pd_or [s1 : Sub r1 DBr] (ha : PE X a (LR w1 r1 G Wx ma)) (hb : PE X (.BoolOp .Or (b :: rest) pos) (LR w2 DVr G Wx mb)) : PE X (.BoolOp .Or (a :: b :: rest) pos) (LR (w1 + w2) DVr G Wx (mOrV ma mb)) := peW (pe_or ha hb) fun σ H Q ⟨P, ρ, k, e, r0, q, hk, hx⟩ => by
  refine ⟨P, ρ, _, e, r0, q, fun d ⟨c, ed, qc⟩ v H1 st z => ?_, hx.l⟩
  subst ed
  refine ⟨c, dbl (s1.sub z), ?_⟩
  cases c with
  | false => rw [if_neg Bool.false_ne_true] at qc ⊢; exact ⟨P, ρ, k, e, r0.step st, qc, fun c kc v H' s => hk c kc v H' (st.trans s), hx.step st⟩
  | true => rw [if_pos rfl] at qc ⊢; exact hk _ qc _ H1 (st.mono (Nat.le_add_right _ _)) (by simp only [DVr, DV])
theorem pd_not [s1 : Sub r1 DBr] (ha : PE X a (LR w r1 G Wx ma)) : PE X (.UnaryOp .Not a pos) (LR w DVr G Wx (mNotV ma)) := peW (pe_not ha) fun σ H Q ⟨P, ρ, k, e, r0, q, hk, hx⟩ => by
  refine ⟨P, ρ, _, e, r0, q, fun d ⟨c, ed, qc⟩ v H1 st z => ?_, hx⟩
  subst ed
  exact ⟨c, dbl (s1.sub z), hk _ qc _ H1 st (by simp only [DVr, DV])⟩
def mIf (t : Mt) (a b : Mv) : Mv := fun ρ k e => t ρ (fun c => if c = true then a ρ k e else b ρ k e) e
theorem pd_if [Back rel] {c : Expr} (hc : PT X c (LT w1 G Wx ta)) (ha : PE X a (LR w2 r1 G Wx ma)) (hb : PE X b (LR w3 r2 G Wx mb)) [s1 : Sub r1 rel] [s2 : Sub r2 rel] : PE X (.IfExp c a b pos) (LR (w1 + (w2 + w3)) rel G Wx (mIf ta ma mb)) :=
  peW (pe_ifExp hc (LR.sub (r2 := rel) ha) (LR.sub (r2 := rel) hb)) fun σ H Q ⟨P, ρ, k, e, r0, q, hk, hx⟩ => by
  refine ⟨P, ρ, _, e, r0, q, fun c qc H1 st => ?_, hx.l⟩
  cases c with
  | true => rw [if_pos rfl] at qc ⊢; exact ⟨P, ρ, k, e, r0.step st, qc, fun c kc v H' s z => hk c kc v H' ((st.trans s).mono (by omega)) (Back.back st z), (hx.step st).l⟩
  | false => rw [if_neg Bool.false_ne_true] at qc ⊢; exact ⟨P, ρ, k, e, r0.step st, qc, fun c kc v H' s z => hk c kc v H' ((st.trans s).mono (by omega)) (Back.back st z), (hx.step st).lo (Nat.le_add_left _ _)⟩

/-! ### argument lists, displays -/
def mNil : Ma := fun _ k _ => k []
def mCons (a : Mv) (as : Ma) : Ma := fun ρ k e => a ρ (fun d => as ρ (fun ds => k (d :: ds)) e) e
variable {es : List Expr} {mas : Ma}
theorem ad_nil : PA X [] (LA 0 G Wx mNil) := paW pa_nil fun σ H Q ⟨P, ρ, k, e, r0, q, hk, hx⟩ => hk [] q [] H r0.same DVs.nil
theorem ad_cons [s1 : Sub r1 DVr] (ha : PE X e (LR w1 r1 G Wx ma)) (hr : PA X es (LA w2 G Wx mas)) (hs : starEach (e :: es) X.env = (false, eval e X.env) :: starEach es X.env := by rfl) : PA X (e :: es) (LA (w1 + w2) G Wx (mCons ma mas)) :=
  paW (pa_cons ha hr hs) fun σ H Q ⟨P, ρ, k, e, r0, q, hk, hx⟩ => by
  refine ⟨P, ρ, _, e, r0, q, fun d1 q1 v H1 st1 z1 => ?_, hx.l⟩
  have R1 := r0.step st1
  have z1 : DV G P.W P.avo H1 d1 v := s1.sub z1
  exact ⟨P, ρ, _, e, R1, q1, fun ds q2 vs H2 st2 z2 => hk _ q2 _ H2 (st1.trans st2) (DVs.cons (z1.keep (st2.keepA R1.sO)) z2), hx.step st1⟩
def mTup (a : Ma) : Mv := fun ρ k e => a ρ (fun ds => ds.length ≤ sizeLine ∧ k (.tup ds)) e
def mLst (a : Ma) : Mv := fun ρ k e => a ρ (fun ds => ds.length ≤ sizeLine ∧ k (.lst ds)) e
theorem pd_tup {x1} (h : PA X es (LA w G Wx mas)) : PE X (.Tuple es x1 pos) (LR w DVr G Wx (mTup mas)) := peW (pe_tup h) fun σ H Q ⟨P, ρ, k, e, r0, q, hk, hx⟩ => by
  refine ⟨P, ρ, _, e, r0, q, fun ds ⟨z, kd⟩ vs H1 st hv => ⟨by rw [hv.length]; exact z, fun p hp => ?_⟩, hx⟩
  have R1 := r0.step st
  have s2 := R1.fresh (o := .tup vs) hp
  refine hk _ kd _ _ (st.trans s2) ?_
  simp only [DVr, DV]
  exact ⟨p, vs, rfl, .inl ⟨R1.freshAv hp, .inl upd_same⟩, hv.keep (s2.keepA R1.sO)⟩
theorem R.ownNew {P : Pt} {ρ : Env} {σ : St} {H : Hp} (r : R G P ρ σ H) {p : Addr} {vs : List V} {ds : List D} (hp : H p = none) (hv : DVs G P.W P.avo H ds vs) : OwnAt G P.W (fun a => P.avo a ∨ a = p) (upd H p (.lst vs)) p (.lst ds) :=
  ⟨vs, upd_same, (hv.sub (Av' := fun a => P.avo a ∨ a = p) fun a z t => z.elim id fun z => absurd z (t.ne hp)).keep fun b o e n => by rw [upd_ne (ne_of_none e hp)]; exact e⟩
theorem pd_lst (h : PA X es (LA w G Wx mas)) : PE X (.List es pos) (LR w FVr G Wx (mLst mas)) := peW (pe_lst h) fun σ H Q ⟨P, ρ, k, e, r0, q, hk, hx⟩ => by
  refine ⟨P, ρ, _, e, r0, q, fun ds ⟨z, kd⟩ vs H1 st hv => ⟨by rw [hv.length]; exact z, fun p hp => ?_⟩, hx⟩
  have R1 := r0.step st
  have s2 := R1.fresh (o := .lst vs) hp
  exact hk _ kd _ _ (st.trans s2) ⟨p, rfl, st.none hp, ⟨_, upd_same⟩, R1.freshAv hp, R1.ownNew hp hv⟩
end
end DL
set_option Elab.async false
set_option linter.all false
set_option maxRecDepth 100000
set_option maxHeartbeats 4000000
namespace DL
open PySem PySem.Spec L2

section
variable {X : Cx} {G : Go} {Wx : WX} {e a b : Expr} {rel r1 r2 : Rl} {pos : Pos} {ma mb : Mv} {st : Stmt} {sts : List Stmt} {m1 m2 : Ms} {w w1 w2 w3 : Nat}

theorem EV.sub {W : Wd} {Av Av' : Addr → Prop} {H : Hp} {x : D} {cls : Value} {d : Option Addr} (h : EV G W Av H x cls d) (s : ∀ a, Av' a → Tr H a → Av a) : EV G W Av' H x cls d := by
  obtain ⟨c, y, e1, e2, h | ⟨f, dx, v, e3, e4, h2, h1, h3⟩⟩ := h
  · exact ⟨c, y, e1, e2, .inl h⟩
  · exact ⟨c, y, e1, e2, .inr ⟨f, dx, v, e3, e4, fun z => h2 (s _ z ⟨_, h1⟩), h1, h3.sub s⟩⟩
/-- the exception's way out of a statement serves its expressions -/
theorem XOk.of {P : Pt} {ρ : Env} {σ : St} {H : Hp} {ex : D → Prop} (r : R G P ρ σ H) (h : P.W.tn H + w ≤ Bt ∧ ∀ x, ex x → ∀ cls d σ' H', Stp P.W P.H0 H' → Tn w P.W H H' → EV G P.W P.Av H' x cls d → Wx cls d σ' H') : XOk w G Wx P H ex :=
  ⟨h.1, fun x q cls d σ' H' s z => h.2 x q cls d σ' H' (r.stp.trans s) s.tn (z.sub fun a w _ => .inl w)⟩
/-- the ways out of a part of a statement, behind a first part -/
abbrev XSt (w : Nat) (G : Go) (Wx : WX) (P : Pt) (H : Hp) (ex : D → Prop) : Prop := P.W.tn H + w ≤ Bt ∧ ∀ x, ex x → ∀ cls d σ' H', Stp P.W P.H0 H' → Tn w P.W H H' → EV G P.W P.Av H' x cls d → Wx cls d σ' H'
theorem XSt.l {P : Pt} {H : Hp} {ex : D → Prop} (h : XSt (w1 + w2) G Wx P H ex) : XSt w1 G Wx P H ex := ⟨by have := h.1; omega, fun x q cls d σ' H' s t z => h.2 x q cls d σ' H' s (t.mono (Nat.le_add_right _ _)) z⟩
theorem XSt.lo {P : Pt} {H : Hp} {ex : D → Prop} (h : XSt w2 G Wx P H ex) (l : w1 ≤ w2) : XSt w1 G Wx P H ex := ⟨by have := h.1; omega, fun x q cls d σ' H' s t z => h.2 x q cls d σ' H' s (t.mono l) z⟩
theorem XSt.step {P : Pt} {H H1 : Hp} {ex : D → Prop} (h : XSt (w1 + w2) G Wx P H ex) (s : Tn w1 P.W H H1) : XSt w2 G Wx P H1 ex := ⟨by have := h.1; unfold Tn at s; omega, fun x q cls d σ' H' s' t z => h.2 x q cls d σ' H' s' (s.trans t) z⟩

/-! ### small statements -/
def sNext : Ms := fun ρ E => E.nx ρ
def sSeq (a b : Ms) : Ms := fun ρ E => a ρ { E with nx := fun ρ' => b ρ' E }
def sNever : Ms := fun _ _ => False
theorem sd_nil : PSs X [] (LS 0 G Wx sNext) := pssW pss_nil fun D σ H ⟨P, ρ, E, r, q, h1, _⟩ => h1 ρ q P.O σ H r .refl
theorem sd_one (h : PS X st (LS w G Wx m1)) : PSs X [st] (LS w G Wx m1) := pss_one h
theorem wO_wO (P : Pt) (O O' : Nat → Option Addr) : (P.wO O).wO O' = P.wO O' := rfl
theorem sd_cons (h1 : PS X st (LS w1 G Wx m1)) (h2 : PSs X sts (LS w2 G Wx m2)) : PSs X (st :: sts) (LS (w1 + w2) G Wx (sSeq m1 m2)) := pssW (pss_cons h1 h2) fun D σ H ⟨P, ρ, E, r, q, c1, c2, c3, c4, c5⟩ =>
  ⟨P, ρ, _, r, q, fun ρ' q' O' σ' H' r' t => ⟨P.wO O', ρ', E, r', q', fun ρ2 k O2 σ2 H2 r2 t2 => c1 ρ2 k O2 σ2 H2 r2 (t.trans t2), fun d k v H2 s2 t2 z => c2 d k v H2 s2 (t.trans t2) z, fun ρ2 k O2 σ2 H2 r2 t2 => c3 ρ2 k O2 σ2 H2 r2 (t.trans t2), fun ρ2 k O2 σ2 H2 r2 t2 => c4 ρ2 k O2 σ2 H2 r2 (t.trans t2), XSt.step (P := P) c5 t⟩,
    fun d k v H2 s2 t2 z => c2 d k v H2 s2 (t2.mono (Nat.le_add_right _ _)) z, fun ρ2 k O2 σ2 H2 r2 t2 => c3 ρ2 k O2 σ2 H2 r2 (t2.mono (Nat.le_add_right _ _)), fun ρ2 k O2 σ2 H2 r2 t2 => c4 ρ2 k O2 σ2 H2 r2 (t2.mono (Nat.le_add_right _ _)), XSt.l (P := P) c5⟩
theorem sd_never : PS X st (LS w G Wx sNever) := psW ps_never fun D σ H ⟨_, _, _, _, q, _⟩ => q
theorem sds_never : PSs X sts (LS w G Wx sNever) := pssW pss_never fun D σ H ⟨_, _, _, _, q, _⟩ => q
theorem sd_pass : PS X (.Pass pos) (LS 0 G Wx sNext) := psW ps_pass fun D σ H ⟨P, ρ, E, r, q, h1, _⟩ => h1 ρ q P.O σ H r .refl
def sBreak : Ms := fun ρ E => E.bk ρ
def sCont : Ms := fun ρ E => E.ct ρ
theorem sd_break : PS X (.Break pos) (LS 0 G Wx sBreak) := psW ps_break fun D σ H ⟨P, ρ, E, r, q, h1, h2, h3, _⟩ => h3 ρ q P.O σ H r .refl
theorem sd_cont : PS X (.Continue pos) (LS 0 G Wx sCont) := psW ps_continue fun D σ H ⟨P, ρ, E, r, q, h1, h2, h3, h4, _⟩ => h4 ρ q P.O σ H r .refl
def sRet (m : Mv) : Ms := fun ρ E => m ρ E.rt E.ex
theorem sd_ret [s1 : Sub r1 DVr] (h : PE X e (LR w r1 G Wx ma)) : PS X (.Return (some e) pos) (LS w G Wx (sRet ma)) := psW (ps_ret h) fun D σ H ⟨P, ρ, E, r, q, c1, c2, c3, c4, c5⟩ =>
  ⟨P, ρ, E.rt, E.ex, r, q, fun d k v H' s z => c2 d k v H' (r.stp.trans s) s.tn ((show DV G P.W P.avo H' d v from s1.sub z).sub fun a w _ => .inl w), .of r c5⟩
def sRetN : Ms := fun ρ E => E.rt .non
theorem sd_retN : PS X (.Return none pos) (LS 0 G Wx sRetN) := psW ps_retN fun D σ H ⟨P, ρ, E, r, q, c1, c2, _⟩ => c2 _ q _ H r.stp .refl (by simp only [DV])
def sExpr (m : Mv) : Ms := fun ρ E => m ρ (fun _ => E.nx ρ) E.ex
theorem sd_expr (h : PE X e (LR w r1 G Wx ma)) (hs : swapsWith e none pos.line X.env = pure false := by rfl) : PS X (.Expr e pos) (LS w G Wx (sExpr ma)) := psW (ps_expr h hs) fun D σ H ⟨P, ρ, E, r, q, c1, c2, c3, c4, c5⟩ =>
  ⟨P, ρ, _, E.ex, r, q, fun d k v H' s z => c1 ρ k P.O σ H' (r.step s) s.tn, .of r c5⟩
def sIf (t : Mt) (a b : Ms) : Ms := fun ρ E => t ρ (fun c => if c = true then a ρ E else b ρ E) E.ex
theorem sd_if {c : Expr} {tc : Mt} {p q : List Stmt} (hc : PT X c (LT w1 G Wx tc)) (ha : PSs X p (LS w2 G Wx m1)) (hb : PSs X q (LS w3 G Wx m2)) : PS X (.If c p q pos) (LS (w1 + (w2 + w3)) G Wx (sIf tc m1 m2)) := psW (ps_if hc ha hb) fun D σ H ⟨P, ρ, E, r, q, c1, c2, c3, c4, c5⟩ =>
  ⟨P, ρ, _, E.ex, r, q, fun b k H' s => by
    have t : Tn w1 P.W H H' := s.tn
    have c6 := XSt.step (P := P) c5 t
    cases b with
    | true => rw [if_pos rfl] at k; show LS w2 G Wx m1 D σ H'; exact ⟨P, ρ, E, r.step s, k, fun ρ2 k O2 σ2 H2 r2 t2 => c1 ρ2 k O2 σ2 H2 r2 ((t.trans t2).mono (by omega)), fun d k v H2 s2 t2 z => c2 d k v H2 s2 ((t.trans t2).mono (by omega)) z, fun ρ2 k O2 σ2 H2 r2 t2 => c3 ρ2 k O2 σ2 H2 r2 ((t.trans t2).mono (by omega)), fun ρ2 k O2 σ2 H2 r2 t2 => c4 ρ2 k O2 σ2 H2 r2 ((t.trans t2).mono (by omega)), XSt.l (P := P) c6⟩
    | false => rw [if_neg Bool.false_ne_true] at k; show LS w3 G Wx m2 D σ H'; exact ⟨P, ρ, E, r.step s, k, fun ρ2 k O2 σ2 H2 r2 t2 => c1 ρ2 k O2 σ2 H2 r2 ((t.trans t2).mono (by omega)), fun d k v H2 s2 t2 z => c2 d k v H2 s2 ((t.trans t2).mono (by omega)) z, fun ρ2 k O2 σ2 H2 r2 t2 => c3 ρ2 k O2 σ2 H2 r2 ((t.trans t2).mono (by omega)), fun ρ2 k O2 σ2 H2 r2 t2 => c4 ρ2 k O2 σ2 H2 r2 ((t.trans t2).mono (by omega)), XSt.lo (P := P) c6 (by omega)⟩, .of r (XSt.l (P := P) c5)⟩
/-- an own object is given up ahead of a statement -/
def sRel (i : Nat) (m : Ms) : Ms := fun ρ E => ∃ d, ρ[i]? = some (.own d) ∧ m (ρ.set i (.dat d)) E
theorem sd_rel (i : Nat) (h : PS X st (LS w G Wx m1)) : PS X st (LS w G Wx (sRel i m1)) := psW h fun D σ H ⟨P, ρ, E, r, ⟨d, e, q⟩, c1, c2, c3, c4, c5⟩ =>
  ⟨P.wO _, _, E, r.release e, q, c1, c2, c3, c4, c5⟩

/-! ### targets: σ' differs from σ at most at the slots vs -/
abbrev Tgt := D → Env → (Env → Prop) → Prop
abbrev Tgs := List D → Env → (Env → Prop) → Prop
def Off (vs : List Nat) (σ σ' : St) : Prop := σ'.length = σ.length ∧ ∀ j, j ∉ vs → σ'[j]? = σ[j]?
theorem Off.refl {vs : List Nat} {σ : St} : Off vs σ σ := ⟨rfl, fun _ _ => rfl⟩
theorem Off.trans {vs us : List Nat} {σ σ1 σ2 : St} (a : Off vs σ σ1) (b : Off us σ1 σ2) : Off (vs ++ us) σ σ2 := ⟨b.1.trans a.1, fun j h => (b.2 j fun z => h (List.mem_append_right _ z)).trans (a.2 j fun z => h (List.mem_append_left _ z))⟩
def LG (G : Go) (vs : List Nat) (t : Tgt) : TG := fun v σ H Q => ∃ (P : Pt) (ρ : Env) (d : D) (k : Env → Prop), R G P ρ σ H ∧ DV G P.W P.avo H d v ∧ t d ρ k ∧
  ∀ ρ', k ρ' → ∀ σ', Off vs σ σ' → R G P ρ' σ' H → Q σ' H
def LGs (G : Go) (vs : List Nat) (t : Tgs) : TGs := fun us σ H Q => ∃ (P : Pt) (ρ : Env) (ds : List D) (k : Env → Prop), R G P ρ σ H ∧ DVs G P.W P.avo H ds us ∧ t ds ρ k ∧
  ∀ ρ', k ρ' → ∀ σ', Off vs σ σ' → R G P ρ' σ' H → Q σ' H
theorem pgW {tg : Expr} {t t' : TG} (h : PG X tg t) (i : ∀ v σ H Q, t' v σ H Q → t v σ H Q) : PG X tg t' := ⟨fun pins s σ H v u Q I r q => h.run pins s σ H v u Q I r (i v σ H Q q)⟩
theorem pgsW {tg : List Expr} {t t' : TGs} (h : PGs X tg t) (i : ∀ v σ H Q, t' v σ H Q → t v σ H Q) : PGs X tg t' := ⟨fun pins s σ H v u Q I r q => h.run pins s σ H v u Q I r (i v σ H Q q)⟩
def gN (i : Nat) : Tgt := fun d ρ k => k (ρ.set i (.dat d))
theorem gd_name {i : Nat} {x : Str} (hN : X.N.Nodup) (hi : X.N[i]? = some x := by rfl) (hx : Loc X.env.scope x := by first | exact .inl rfl | exact .inr rfl)
    (hf : X.fn x = true ∨ X.env.scope.names.lookup x = some .local := by first | exact .inl rfl | exact .inr rfl | assumption) : PG X (.Name x pos) (LG G [i] (gN i)) := pgW (pg_name hN hi hx hf) fun v σ H Q ⟨P, ρ, d, k, r, hd, q, h⟩ => by
  exact h _ q _ ⟨List.length_set, fun j hj => List.getElem?_set_ne (fun z => hj (by rw [z]; exact List.mem_singleton.mpr rfl))⟩ (r.setDat (i := i) hd)
def gNil' : Tgs := fun ds ρ k => ds = [] ∧ k ρ
def gCons' (t : Tgt) (u : Tgs) : Tgs := fun ds ρ k => ∃ d r, ds = d :: r ∧ t d ρ fun ρ' => u r ρ' k
theorem gds_nil : PGs X [] (LGs G [] gNil') := pgsW pgs_nil fun us σ H Q ⟨P, ρ, ds, k, r, hd, ⟨e, q⟩, h⟩ => by
  subst e
  simp only [DVs] at hd
  exact ⟨hd, h _ q σ Off.refl r⟩
theorem gds_cons {es : List Expr} {vs us : List Nat} {t : Tgt} {u : Tgs} (h1 : PG X e (LG G vs t)) (h2 : PGs X es (LGs G us u))
    (hs : (assignEach (e :: es) X.env).map (·.2) = assign e X.env :: (assignEach es X.env).map (·.2) := by rfl) : PGs X (e :: es) (LGs G (vs ++ us) (gCons' t u)) := pgsW (pgs_cons h1 h2 hs) fun ws σ H Q ⟨P, ρ, ds, k, r, hd, ⟨d, dr, e, q⟩, h⟩ => by
  subst e
  simp only [DVs] at hd
  obtain ⟨v, vr, rfl, hd1, hd2⟩ := hd
  refine ⟨v, vr, rfl, P, ρ, d, _, r, hd1, q, fun ρ1 q1 σ1 of1 R1 => ?_⟩
  exact ⟨P, ρ1, dr, k, R1, hd2, q1, fun ρ2 q2 σ2 of2 R2 => h ρ2 q2 σ2 (of1.trans of2) R2⟩
def gT (n : Nat) (t : Tgs) : Tgt := fun d ρ k => ∃ ds, d = .tup ds ∧ ds.length = n ∧ t ds ρ k
theorem gd_tup {es : List Expr} {j : Nat} {vs : List Nat} {t : Tgs} {n : Nat} (hK : G.K = X.K := by rfl) (hc : X.calm = true := by rfl) (h : PGs X es (LGs G vs t))
    (hn : (assignEach es X.env).length = n := by rfl) (hst : (assignEach es X.env).findIdx? (·.1) = none := by rfl) : PG X (.Tuple es j pos) (LG G vs (gT n t)) := pgW (pg_tup hc h hn hst) fun v σ H Q ⟨P, ρ, d, k, r, hd, ⟨ds, e, hl, q⟩, h⟩ => by
  subst e
  simp only [DV] at hd
  obtain ⟨a, xs, rfl, ht, hx⟩ := hd
  exact ⟨a, xs, rfl, by rw [← hK]; exact ht.to, by rw [hx.length]; exact hl, P, ρ, ds, k, r, hx, q, h⟩
def sAsg (m : Mv) (t : Tgt) : Ms := fun ρ E => m ρ (fun d => t d ρ E.nx) E.ex
theorem sd_asg {tg : Expr} {vs : List Nat} {t : Tgt} [s1 : Sub r1 DVr] (he : PE X e (LR w r1 G Wx ma)) (hg : PG X tg (LG G vs t)) (hs : swapsWithSole [tg] e pos.line X.env = pure false := by rfl) (hw : swappedStores [tg] e X.env = pure none := by rfl)
    (h1 : (assignEach [tg] X.env).map (·.2) = [assign tg X.env] := by rfl) : PS X (.Assign [tg] e pos) (LS w G Wx (sAsg ma t)) := psW (ps_asg he hg hs hw h1) fun D σ H ⟨P, ρ, E, r, q, c1, c2, c3, c4, c5⟩ =>
  ⟨P, ρ, _, E.ex, r, q, fun d k v H' s z => ⟨P, ρ, d, E.nx, r.step s, s1.sub z, k, fun ρ' k' σ' _ r' => c1 ρ' k' P.O σ' H' r' s.tn⟩, .of r c5⟩
/-- x = e -/
def sSet (i : Nat) (m : Mv) : Ms := fun ρ E => m ρ (fun d => E.nx (ρ.set i (.dat d))) E.ex
theorem sd_set {i : Nat} {x : Str} {pos' : Pos} [s1 : Sub r1 DVr] (hN : X.N.Nodup) (he : PE X e (LR w r1 G Wx ma)) (hi : X.N[i]? = some x := by rfl) (hx : Loc X.env.scope x := by first | exact .inl rfl | exact .inr rfl) (hs : swapsWith e (some (.Name x pos')) pos.line X.env = pure false := by rfl)
    (hf : X.fn x = true ∨ X.env.scope.names.lookup x = some .local := by first | exact .inl rfl | exact .inr rfl | assumption) : PS X (.Assign [.Name x pos'] e pos) (LS w G Wx (sSet i ma)) := psW (ps_set hN hi hx he hs hf) fun D σ H ⟨P, ρ, E, r, q, c1, c2, c3, c4, c5⟩ =>
  ⟨P, ρ, _, E.ex, r, q, fun d k v H' s z => c1 _ k P.O _ H' ((r.step s).setDat (show DV G P.W P.avo H' d v from s1.sub z)) s.tn, .of r c5⟩
/-- x = e, e a new list or dict that x owns -/
def sOwn (i : Nat) (m : Mv) : Ms := fun ρ E => m ρ (fun d => E.nx (ρ.set i (.own d))) E.ex
theorem R.takes {P : Pt} {ρ : Env} {σ : St} {H H' : Hp} {d : D} {p : Addr} {i : Nat} (r : R G P ρ σ H) (s : Stw w P.W H H') (hn : H p = none) (ht : Tr H' p) (ha : ¬ P.avo p) (ho : OwnAt G P.W (fun a => P.avo a ∨ a = p) H' p d) :
    R G (P.wO fun j => if j = i then some p else P.O j) (ρ.set i (.own d)) (σ.set i (some (.ref p))) H' := by
  have f := r.avoids hn
  have k : Keep (fun a => P.avo a ∨ a = p) H H' := s.toStp.keepA fun a h => .inl (r.sO a h)
  exact (r.step s).setOwn (r.stp.none hn) ha ht ho ⟨fun j x e => (f.1 j x e).keep k fun a u e1 z => s.keep a u z fun w => (r.own j a e1).1 (r.sAv a w), fun q hq => (f.2 q hq).keep k⟩
theorem sd_own {i : Nat} {x : Str} {pos' : Pos} (hN : X.N.Nodup) (he : PE X e (LR w FVr G Wx ma)) (hi : X.N[i]? = some x := by rfl) (hx : Loc X.env.scope x := by first | exact .inl rfl | exact .inr rfl) (hs : swapsWith e (some (.Name x pos')) pos.line X.env = pure false := by rfl)
    (hf : X.fn x = true ∨ X.env.scope.names.lookup x = some .local := by first | exact .inl rfl | exact .inr rfl | assumption) : PS X (.Assign [.Name x pos'] e pos) (LS w G Wx (sOwn i ma)) := psW (ps_set hN hi hx he hs hf) fun D σ H ⟨P, ρ, E, r, q, c1, c2, c3, c4, c5⟩ =>
  ⟨P, ρ, _, E.ex, r, q, fun d k v H' s ⟨p, ev, hn, ht, ha, ho⟩ => by subst ev; exact c1 _ k _ _ H' (r.takes s hn ht ha ho) s.tn, .of r c5⟩

/-! ### what is walked -/
/-- J yields the data ds one by one, while the data hs is held -/
structure Yields (G : Go) (W : Wd) (J : It) (ds : List D) (hs : List (D × V)) : Prop where
  go : ∀ (Av : Addr → Prop) (i : Nat) (H : Hp), (∀ p ∈ hs, DV G W Av H p.1 p.2) → i < ds.length → J.go i H
  yld : ∀ (Av : Addr → Prop) (i : Nat) (H : Hp) (x : V) (H' : Hp), (∀ p ∈ hs, DV G W Av H p.1 p.2) → (∀ a, Av a → Tr H a) → i < ds.length → J.yld i H x H' → (∀ b o, H b = some o → H' b = some o) ∧ ∃ d, ds[i]? = some d ∧ DV G W Av H' d x
  stop : ∀ (Av : Addr → Prop) (i : Nat) (H : Hp), (∀ p ∈ hs, DV G W Av H p.1 p.2) → ds.length ≤ i → J.stop i H
abbrev Mi := Env → (List D → Prop) → (D → Prop) → Prop
def LI (w : Nat) (G : Go) (X : WX) (m : Mi) : TI := fun σ H Rr => ∃ (P : Pt) (ρ : Env) (k : List D → Prop) (e : D → Prop), R G P ρ σ H ∧ m ρ k e ∧
  (∀ ds, k ds → ∀ J H' hs, Stw w P.W H H' → (∀ p ∈ hs, DV G P.W P.avo H' p.1 p.2) → Yields G P.W J ds hs → Rr J H') ∧ XOk w G X P H e
theorem piW {tg it : Expr} {t t' : TI} (h : PI X tg it t) (i : ∀ σ H Q, t' σ H Q → t σ H Q) : PI X tg it t' := ⟨fun pins s σ H R I q => h.run pins s σ H R I (i σ H R q)⟩
theorem yields_list {W : Wd} {K : PySem.W.Frag} (hK : G.K = K) {a : Addr} {ds : List D} : Yields G W (Itl K a) ds [(.lst ds, .ref a)] := by
  subst hK
  have get : ∀ {Av : Addr → Prop} {H : Hp}, (∀ p ∈ [(D.lst ds, V.ref a)], DV G W Av H p.1 p.2) → ∃ xs, SqL G.K H a xs ∧ DVs G W Av H ds xs := fun {Av H} h => by
    have z := h _ (List.mem_singleton.mpr rfl)
    simp only [DV] at z
    obtain ⟨b, xs, e, q, hx⟩ := z
    cases e
    exact ⟨xs, q.to, hx⟩
  refine ⟨fun Av i H h hi => ?_, fun Av i H x H' h _ _ y => ?_, fun Av i H h hi => ?_⟩
  · obtain ⟨xs, q, hx⟩ := get h
    exact ⟨xs, xs[i]'(by rw [hx.length]; exact hi), q, by simp⟩
  · obtain ⟨xs, q, hx⟩ := get h
    obtain ⟨e, y⟩ := y
    subst e
    obtain ⟨d, e1, e2⟩ := hx.getV (y xs q)
    exact ⟨fun _ _ e => e, d, e1, e2⟩
  · obtain ⟨xs, q, hx⟩ := get h
    exact ⟨xs, q, by rw [hx.length]; exact hi⟩
theorem yields_tup {W : Wd} {K : PySem.W.Frag} (hK : G.K = K) {a : Addr} {ds : List D} : Yields G W (Itt K a) ds [(.tup ds, .ref a)] := by
  subst hK
  have get : ∀ {Av : Addr → Prop} {H : Hp}, (∀ p ∈ [(D.tup ds, V.ref a)], DV G W Av H p.1 p.2) → ∃ xs, SqT G.K H a xs ∧ DVs G W Av H ds xs := fun {Av H} h => by
    have z := h _ (List.mem_singleton.mpr rfl)
    simp only [DV] at z
    obtain ⟨b, xs, e, q, hx⟩ := z
    cases e
    exact ⟨xs, q.to, hx⟩
  refine ⟨fun Av i H h hi => ?_, fun Av i H x H' h _ _ y => ?_, fun Av i H h hi => ?_⟩
  · obtain ⟨xs, q, hx⟩ := get h
    exact ⟨xs, xs[i]'(by rw [hx.length]; exact hi), q, by simp⟩
  · obtain ⟨xs, q, hx⟩ := get h
    obtain ⟨e, y⟩ := y
    subst e
    obtain ⟨d, e1, e2⟩ := hx.getV (y xs q)
    exact ⟨fun _ _ e => e, d, e1, e2⟩
  · obtain ⟨xs, q, hx⟩ := get h
    exact ⟨xs, q, by rw [hx.length]; exact hi⟩
/-- a range: lo, lo + 1, .. -/
def rangeD (lo : Int) (n : Nat) : List D := (List.range n).map fun i => .int (lo + (i : Nat))
theorem rangeD_length (lo : Int) (n : Nat) : (rangeD lo n).length = n := by simp [rangeD]
theorem rangeD_get (lo : Int) {n i : Nat} (h : i < n) : (rangeD lo n)[i]? = some (.int (lo + (i : Nat))) := by simp [rangeD, h]
theorem yields_range {W : Wd} {lo : Int} {n : Nat} : Yields G W (Itr lo n) (rangeD lo n) [] := by
  refine ⟨fun Av i H _ hi => ?_, fun Av i H x H' _ _ hi y => ?_, fun Av i H _ hi => ?_⟩
  · rw [rangeD_length] at hi; exact hi
  · obtain ⟨e, y⟩ := y
    subst e y
    rw [rangeD_length] at hi
    exact ⟨fun _ _ e => e, _, rangeD_get lo hi, by simp only [DV]⟩
  · rw [rangeD_length] at hi; exact hi
end
end DL
set_option Elab.async false
set_option linter.all false
set_option maxRecDepth 100000
set_option maxHeartbeats 4000000
namespace DL
open PySem PySem.Spec L2

section
variable {X : Cx} {G : Go} {Wx : WX} {e a b tg : Expr} {rel r1 r2 : Rl} {pos : Pos} {ma mb : Mv} {w w1 w2 wt : Nat}

/-! ### iterators -/
def iSeq (K : PySem.W.Frag) (tl : TE) : TI := fun σ H R => tl σ H fun x H1 => ∃ a, x = .ref a ∧ (((∃ xs, SqL K H1 a xs) ∧ R (Itl K a) H1) ∨ ((∃ xs, SqT K H1 a xs) ∧ R (Itt K a) H1))
theorem pi_seq {l : Expr} {tl : TE} (hl : PE X l tl) : PI X tg l (iSeq X.K tl) := by
  refine ⟨fun pins s σ H R I h => ?_⟩
  refine thn (hl.run pins s σ H _ I h) fun v s1 ⟨x, H1, I1, r1, q1⟩ => ?_
  obtain ⟨a, e, q⟩ := q1
  subst e
  cases r1
  rcases q with ⟨⟨xs, hq⟩, q⟩ | ⟨⟨xs, hq⟩, q⟩
  · obtain ⟨its, rv, p, hz⟩ := I1.list hq
    refine wpAny_pyIter_list p.isList ?_
    refine ⟨s1.heap.objs.size, [s1.heap.objs.size], _, _, H1, rfl, I1.kept (t' := s1.toks) fun b o e => Heap.get?_push_of_some _ e, turn_list a _, ⟨_, Heap.get?_push_size _ rfl, rfl, rfl⟩, fun b hb => ?_, q⟩
    have e : b = s1.heap.objs.size := by simpa using hb
    subst e
    exact I1.fpOk (Nat.le_refl _) (I1.hok.fresh (Nat.le_refl _))
  · obtain ⟨its, rv, p, hz⟩ := I1.tuple hq
    refine wpAny_pyIter_tuple (show s1.heap.IsTuple a its.toArray from p) ?_
    refine ⟨s1.heap.objs.size, [s1.heap.objs.size], _, _, H1, rfl, I1.kept (t' := s1.toks) fun b o e => Heap.get?_push_of_some _ e, turn_tuple a _, ⟨_, Heap.get?_push_size _ rfl, rfl, rfl⟩, fun b hb => ?_, q⟩
    have e : b = s1.heap.objs.size := by simpa using hb
    subst e
    exact I1.fpOk (Nat.le_refl _) (I1.hok.fresh (Nat.le_refl _))
/-- the items of a list or tuple -/
def seqD : D → Option (List D)
  | .lst ds => some ds
  | .tup ds => some ds
  | _ => none
def mItems (m : Mv) : Mi := fun ρ k e => m ρ (fun d => ∃ ds, seqD d = some ds ∧ k ds) e
theorem id_seq [s1 : Sub r1 DVr] {l : Expr} (hK : G.K = X.K := by rfl) (h : PE X l (LR w r1 G Wx ma)) : PI X tg l (LI w G Wx (mItems ma)) := piW (pi_seq h) fun σ H Rr ⟨P, ρ, k, e, r, q, hk, hx⟩ => by
  refine ⟨P, ρ, _, e, r, q, fun d ⟨ds, ed, kd⟩ v H' s z => ?_, hx⟩
  have z : DV G P.W P.avo H' d v := s1.sub z
  cases d with
  | lst xs =>
    cases ed
    have z' := z
    simp only [DV] at z'
    obtain ⟨a, vs, rfl, hl, _⟩ := z'
    exact ⟨a, rfl, .inl ⟨⟨vs, by rw [← hK]; exact hl.to⟩, hk ds kd _ H' _ s (fun p hp => by rw [List.mem_singleton.mp hp]; exact z) (yields_list hK)⟩⟩
  | tup xs =>
    cases ed
    have z' := z
    simp only [DV] at z'
    obtain ⟨a, vs, rfl, hl, _⟩ := z'
    exact ⟨a, rfl, .inr ⟨⟨vs, by rw [← hK]; exact hl.to⟩, hk ds kd _ H' _ s (fun p hp => by rw [List.mem_singleton.mp hp]; exact z) (yields_tup hK)⟩⟩
  | _ => cases ed
def mRange1 (m : Ma) : Mi := fun ρ k e => m ρ (fun ds => ∃ j : Int, ds = [.int j] ∧ -(2 ^ 62) ≤ j ∧ j < 2 ^ 62 ∧ k (rangeD 0 j.toNat)) e
def mRange2 (m : Ma) : Mi := fun ρ k e => m ρ (fun ds => ∃ i j : Int, ds = [.int i, .int j] ∧ (-(2 ^ 62) ≤ i ∧ i < 2 ^ 62 ∧ -(2 ^ 62) ≤ j ∧ j < 2 ^ 62) ∧ k (rangeD i (j - i).toNat)) e
theorem id_range1 {p : Pos} {mas : Ma} (hg : Gl X "range") (hm : X.mg "range" = none) (h : PA X [a] (LA w G Wx mas)) (hs : starEach [a] X.env = [(false, eval a X.env)] := by rfl) : PI X tg (.Call (.Name "range" p) [a] [] pos) (LI w G Wx (mRange1 mas)) :=
  piW (pi_range1 hg hm h hs) fun σ H Rr ⟨P, ρ, k, e, r, q, hk, hx⟩ => by
  refine ⟨P, ρ, _, e, r, q, fun ds ⟨j, ed, l1, l2, kd⟩ vs H' s z => ?_, hx⟩
  subst ed
  simp only [DVs] at z
  obtain ⟨v, r, rfl, hv, rfl⟩ := z
  simp only [DV] at hv
  subst hv
  exact ⟨j, rfl, l1, l2, hk _ kd _ H' [] s (fun p hp => absurd hp (by simp)) yields_range⟩
theorem id_range2 {p : Pos} {mas : Ma} (hg : Gl X "range") (hm : X.mg "range" = none) (h : PA X [a, b] (LA w G Wx mas)) (hs : starEach [a, b] X.env = [(false, eval a X.env), (false, eval b X.env)] := by rfl) (hs2 : starEach [b] X.env = [(false, eval b X.env)] := by rfl) : PI X tg (.Call (.Name "range" p) [a, b] [] pos) (LI w G Wx (mRange2 mas)) :=
  piW (pi_range2 hg hm h hs hs2) fun σ H Rr ⟨P, ρ, k, e, r, q, hk, hx⟩ => by
  refine ⟨P, ρ, _, e, r, q, fun ds ⟨i, j, ed, ls, kd⟩ vs H' s z => ?_, hx⟩
  subst ed
  simp only [DVs] at z
  obtain ⟨v, r, rfl, hv, v2, r2, rfl, hv2, rfl⟩ := z
  simp only [DV] at hv hv2
  subst hv hv2
  exact ⟨i, j, rfl, ls, hk _ kd _ H' [] s (fun p hp => absurd hp (by simp)) yields_range⟩

/-! ### for -/
/-- the turns: what each item makes of the slots -/
def wFor (body : D → Env → DE → Prop) : List D → Env → DE → Prop
  | [], ρ, E => E.nx ρ
  | d :: ds, ρ, E => body d ρ { E with nx := fun ρ' => wFor body ds ρ' E, ct := fun ρ' => wFor body ds ρ' E, bk := E.nx }
def fBody (t : Tgt) (b : Ms) : D → Env → DE → Prop := fun d ρ E => t d ρ fun ρ' => b ρ' E
def sFor (it : Mi) (t : Tgt) (b : Ms) : Ms := fun ρ E => it ρ (fun ds => wFor (fBody t b) ds ρ E) E.ex
theorem Stp.all {P : Pt} {ρ : Env} {σ : St} {H H' : Hp} (r : R G P ρ σ H) (h : ∀ b o, H b = some o → H' b = some o) : Stw 0 P.W H H' :=
  have hS : ∀ b, P.W.S b → H' b = H b := fun b hb => by obtain ⟨o, e⟩ := r.avH b (r.sAv b hb); rw [e]; exact h b o e
  ⟨⟨fun b o e _ => h b o e, fun b ⟨o, e⟩ => ⟨o, h b o e⟩, P.W.st H H' hS r.amb⟩, Nat.le_of_eq (P.W.tst H H' hS)⟩
theorem drop_eq {ds : List D} {i : Nat} {d : D} (h : ds[i]? = some d) : ds.drop i = d :: ds.drop (i + 1) := by
  obtain ⟨hi, e⟩ := List.getElem?_eq_some_iff.mp h
  rw [List.drop_eq_getElem_cons hi, e]
def sForC (c : Nat → Prop) (it : Mi) (t : Tgt) (b : Ms) : Ms := fun ρ E => it ρ (fun ds => c ds.length ∧ wFor (fBody t b) ds ρ E) E.ex
theorem sd_forC {c : Nat → Prop} {body : List Stmt} {it : Expr} {mi : Mi} {vs : List Nat} {t : Tgt} {mb : Ms} (hw : ∀ n, c n → n * w1 ≤ wt) (hp : PassesOwn (model X.prog X.w) X.A X.env X.xe) (hc : X.calm = true) (hi : PI X tg it (LI w G Wx mi)) (hg : PG X tg (LG G vs t)) (hb : PSs X body (LS w1 G Wx mb))
    (hs : ∀ x, foldedSetIterable it X.env x = pure x := by intro _; rfl) : PS X (.For tg it body [] pos) (LS (w + wt) G Wx (sForC c mi t mb)) := psW (ps_for hp hc hi hg hb hs) fun D σ H ⟨P, ρ, E, r, q, c1, c2, c3, c4, c5⟩ => by
  refine ⟨P, ρ, _, E.ex, r, q, fun ds ⟨hn, kd⟩ J H1 hs s hd y => ?_, .of r (XSt.l (P := P) c5)⟩
  have hn := hw _ hn
  have r1 : R G { P with X := hs ++ P.X } ρ σ H1 := (r.step s).hold hd
  have back : ∀ {O' ρ' σ' H'}, R G ({ P with X := hs ++ P.X }.wO O') ρ' σ' H' → R G (P.wO O') ρ' σ' H' := fun r' => r'.drop (hs := P.X) fun p hp => List.mem_append_right _ hp
  have t1 : P.W.tn H1 ≤ P.W.tn H + w := s.tn
  refine ⟨fun i m σ H2 => i ≤ ds.length ∧ m = ds.length - i ∧ P.W.tn H2 ≤ P.W.tn H + w + i * w1 ∧ ∃ O' ρ', R G ({ P with X := hs ++ P.X }.wO O') ρ' σ H2 ∧ wFor (fBody t mb) (ds.drop i) ρ' E, ⟨ds.length, Nat.zero_le _, rfl, by omega, P.O, ρ, r1, kd⟩, ?_⟩
  rintro i m σ2 H2 ⟨hi, rfl, ht, O', ρ', R2, w'⟩
  have hd2 : ∀ p ∈ hs, DV G P.W ({ P with X := hs ++ P.X }.wO O').avo H2 p.1 p.2 := fun p hp => R2.held p (List.mem_append_left _ hp)
  by_cases hlt : i < ds.length
  · have hm : (i + 1) * w1 ≤ ds.length * w1 := Nat.mul_le_mul_right _ hlt
    have hm' : (i + 1) * w1 = i * w1 + w1 := Nat.succ_mul i w1
    refine .inr ⟨y.go _ i H2 hd2 hlt, fun σ' H' => P.W.tn H' ≤ P.W.tn H + w + (i + 1) * w1 ∧ ∃ O2 ρ2, R G ({ P with X := hs ++ P.X }.wO O2) ρ2 σ' H' ∧ wFor (fBody t mb) (ds.drop (i + 1)) ρ2 E, fun σ' H' ⟨h0, O2, ρ2, h1, h2⟩ => ⟨ds.length - (i + 1), by omega, hlt, rfl, h0, O2, ρ2, h1, h2⟩, fun x H3 hy => ?_⟩
    obtain ⟨ka, d, ed, hv⟩ := y.yld _ i H2 x H3 hd2 (fun a h => R2.avoH h) hlt hy
    rw [drop_eq ed] at w'
    have t3 : P.W.tn H3 ≤ P.W.tn H2 + 0 := (Stp.all R2 ka).tn
    refine ⟨_, ρ', d, _, R2.step (Stp.all R2 ka), hv, w', fun ρ2 q2 σ3 _ R3 => ?_⟩
    have tr : ∀ {H4}, Tn w1 P.W H3 H4 → Tn (w + wt) P.W H H4 := fun {H4} z => by unfold Tn at z ⊢; omega
    have tb : ∀ {H4}, Tn w1 P.W H3 H4 → P.W.tn H4 ≤ P.W.tn H + w + (i + 1) * w1 := fun {H4} z => by unfold Tn at z; omega
    exact ⟨_, ρ2, _, R3, q2, fun ρ3 w3 O3 σ4 H4 R4 t4 => ⟨tb t4, O3, ρ3, R4, w3⟩, fun d k v H4 s4 t4 z => c2 d k v H4 s4 (tr t4) z, fun ρ3 w3 O3 σ4 H4 R4 t4 => c1 ρ3 w3 O3 σ4 H4 (back R4) (tr t4), fun ρ3 w3 O3 σ4 H4 R4 t4 => ⟨tb t4, O3, ρ3, R4, w3⟩, by have z := c5.1; show P.W.tn H3 + w1 ≤ Bt; omega, fun x q cls d σ' H4 s4 t4 z => c5.2 x q cls d σ' H4 s4 (tr t4) z⟩
  · have e : i = ds.length := by omega
    refine .inl ⟨y.stop _ i H2 hd2 (Nat.le_of_eq e.symm), c1 ρ' ?_ O' σ2 H2 (back R2) (by subst e; unfold Tn; omega)⟩
    rw [List.drop_eq_nil_of_le (Nat.le_of_eq e.symm)] at w'
    exact w'
/-- a body that draws nothing -/
theorem sd_for {body : List Stmt} {it : Expr} {mi : Mi} {vs : List Nat} {t : Tgt} {mb : Ms} (hp : PassesOwn (model X.prog X.w) X.A X.env X.xe) (hc : X.calm = true) (hi : PI X tg it (LI w G Wx mi)) (hg : PG X tg (LG G vs t)) (hb : PSs X body (LS w1 G Wx mb))
    (h0 : w1 = 0 := by rfl) (hs : ∀ x, foldedSetIterable it X.env x = pure x := by intro _; rfl) : PS X (.For tg it body [] pos) (LS w G Wx (sFor mi t mb)) := by
  subst h0
  have e : sFor mi t mb = sForC (fun _ => True) mi t mb := by
    unfold sFor sForC
    simp only [true_and]
  rw [e]
  exact sd_forC (wt := 0) (fun n _ => Nat.le_refl 0) hp hc hi hg hb hs
/-- a body that draws: 2 ^ 24 turns at most -/
abbrev few (n : Nat) : Prop := n ≤ 16777216
abbrev sForN (it : Mi) (t : Tgt) (b : Ms) : Ms := sForC few it t b
theorem sd_forN {body : List Stmt} {it : Expr} {mi : Mi} {vs : List Nat} {t : Tgt} {mb : Ms} (hp : PassesOwn (model X.prog X.w) X.A X.env X.xe) (hc : X.calm = true) (hi : PI X tg it (LI w G Wx mi)) (hg : PG X tg (LG G vs t)) (hb : PSs X body (LS w1 G Wx mb))
    (hs : ∀ x, foldedSetIterable it X.env x = pure x := by intro _; rfl) : PS X (.For tg it body [] pos) (LS (w + 16777216 * w1) G Wx (sForN mi t mb)) := sd_forC (fun n h => Nat.mul_le_mul_right _ h) hp hc hi hg hb hs

/-! ### while: n turns at most -/
def wWh (t : Mt) (b : Ms) : Nat → Env → DE → Prop
  | 0, _, _ => False
  | n + 1, ρ, E => t ρ (fun c => if c = true then b ρ { E with nx := fun ρ' => wWh t b n ρ' E, ct := fun ρ' => wWh t b n ρ' E, bk := E.nx } else E.nx ρ) E.ex
def sWh (t : Mt) (b : Ms) : Ms := fun ρ E => ∃ n, wWh t b n ρ E
def sWhC (c : Nat → Prop) (t : Mt) (b : Ms) : Ms := fun ρ E => ∃ n, c n ∧ wWh t b n ρ E
theorem sd_whileC {cn : Nat → Prop} {c : Expr} {body : List Stmt} {tc : Mt} {mb : Ms} (hw : ∀ n, cn n → n * (w1 + w2) ≤ wt) (hp : PassesOwn (model X.prog X.w) X.A X.env X.xe) (hc : PT X c (LT w1 G Wx tc)) (hb : PSs X body (LS w2 G Wx mb)) : PS X (.While c body [] pos) (LS wt G Wx (sWhC cn tc mb)) := psW (ps_while hp hc hb) fun D σ H ⟨P, ρ, E, r, ⟨n, hn, q⟩, c1, c2, c3, c4, c5⟩ => by
  have hn := hw n hn
  refine ⟨fun m σ H2 => P.W.tn H2 + m * (w1 + w2) ≤ P.W.tn H + wt ∧ ∃ O' ρ', R G (P.wO O') ρ' σ H2 ∧ wWh tc mb m ρ' E, ⟨n, by omega, P.O, ρ, r, q⟩, ?_⟩
  rintro m σ2 H2 ⟨ht, O', ρ', R2, w'⟩
  cases m with
  | zero => exact w'.elim
  | succ m =>
    have hm : (m + 1) * (w1 + w2) = m * (w1 + w2) + (w1 + w2) := Nat.succ_mul m _
    have b5 := c5.1
    have tr1 : ∀ {H4}, Tn w1 P.W H2 H4 → Tn wt P.W H H4 := fun {H4} z => by unfold Tn at z ⊢; omega
    refine ⟨P.wO O', ρ', _, E.ex, R2, w', fun b k H3 s => ?_, .of R2 (w := w1) ⟨by show P.W.tn H2 + w1 ≤ Bt; omega, fun x q cls d σ' H4 s4 t4 z => c5.2 x q cls d σ' H4 s4 (tr1 t4) z⟩⟩
    have t3 : P.W.tn H3 ≤ P.W.tn H2 + w1 := s.tn
    cases b with
    | true =>
      rw [if_pos rfl] at k
      have tr : ∀ {H4}, Tn w2 P.W H3 H4 → Tn wt P.W H H4 := fun {H4} z => by unfold Tn at z ⊢; omega
      have tb : ∀ {H4}, Tn w2 P.W H3 H4 → P.W.tn H4 + m * (w1 + w2) ≤ P.W.tn H + wt := fun {H4} z => by unfold Tn at z; omega
      simp only [if_true]
      refine ⟨fun σ' H' => P.W.tn H' + m * (w1 + w2) ≤ P.W.tn H + wt ∧ ∃ O2 ρ2, R G (P.wO O2) ρ2 σ' H' ∧ wWh tc mb m ρ2 E, fun σ' H' h => ⟨m, Nat.lt_succ_self m, h⟩, ?_⟩
      exact ⟨P.wO O', ρ', _, R2.step s, k, fun ρ3 w3 O3 σ4 H4 R4 t4 => ⟨tb t4, O3, ρ3, R4, w3⟩, fun d k v H4 s4 t4 z => c2 d k v H4 s4 (tr t4) z, fun ρ3 w3 O3 σ4 H4 R4 t4 => c1 ρ3 w3 O3 σ4 H4 R4 (tr t4), fun ρ3 w3 O3 σ4 H4 R4 t4 => ⟨tb t4, O3, ρ3, R4, w3⟩, by show P.W.tn H3 + w2 ≤ Bt; omega, fun x q cls d σ' H4 s4 t4 z => c5.2 x q cls d σ' H4 s4 (tr t4) z⟩
    | false =>
      rw [if_neg Bool.false_ne_true] at k
      simp only [Bool.false_eq_true, if_false]
      exact c1 ρ' k O' σ2 H3 (R2.step s) (tr1 t3)
theorem sd_while {c : Expr} {body : List Stmt} {tc : Mt} {mb : Ms} (hp : PassesOwn (model X.prog X.w) X.A X.env X.xe) (hc : PT X c (LT w1 G Wx tc)) (hb : PSs X body (LS w2 G Wx mb)) (h1 : w1 = 0 := by rfl) (h2 : w2 = 0 := by rfl) : PS X (.While c body [] pos) (LS 0 G Wx (sWh tc mb)) := by
  subst h1 h2
  have e : sWh tc mb = sWhC (fun _ => True) tc mb := by
    unfold sWh sWhC
    simp only [true_and]
  rw [e]
  exact sd_whileC (wt := 0) (fun n _ => Nat.le_refl 0) hp hc hb
abbrev sWhN (t : Mt) (b : Ms) : Ms := sWhC few t b
theorem sd_whileN {c : Expr} {body : List Stmt} {tc : Mt} {mb : Ms} (hp : PassesOwn (model X.prog X.w) X.A X.env X.xe) (hc : PT X c (LT w1 G Wx tc)) (hb : PSs X body (LS w2 G Wx mb)) : PS X (.While c body [] pos) (LS (16777216 * (w1 + w2)) G Wx (sWhN tc mb)) := sd_whileC (fun n h => Nat.mul_le_mul_right _ h) hp hc hb

/-! ### comprehensions -/
def wipeE (ρ : Env) : List Nat → Env
  | [] => ρ
  | i :: is => (wipeE ρ is).set i .un
def wLc (body : D → (Option D → Prop) → Prop) : List D → (List D → Prop) → Prop
  | [], k => k []
  | d :: ds, k => body d fun r => wLc body ds fun ys => k (match r with | some y => y :: ys | none => ys)
def lBody (ρ : Env) (t : Tgt) (tt : Mt) (m : Mv) : D → (Option D → Prop) → Prop := fun d k => t d ρ fun ρ' => tt ρ' (fun c => if c = true then m ρ' (fun y => k (some y)) (fun _ => False) else k none) (fun _ => False)
def mYes : Mt := fun _ k _ => k true
theorem tds_nil : PTs X [] (LT 0 G Wx mYes) := ⟨fun pins s σ H Q I ⟨P, ρ, k, e, r, q, hk, _⟩ => pts_nil.run pins s σ H Q I (hk _ q H r.same)⟩
theorem tds_one {c : Expr} {tc : Mt} (h : PT X c (LT w G Wx tc)) : PTs X [c] (LT w G Wx tc) := pts_one h
def mLc (it : Mi) (t : Tgt) (tt : Mt) (m : Mv) (vs : List Nat) : Mv := fun ρ k e => it ρ (fun ds => ds.length ≤ sizeLine ∧ wLc (lBody (wipeE ρ vs) t tt m) ds fun ys => k (.lst ys)) e
theorem wipe_set (σ : St) (vs : List Nat) : ∀ j, (wipe σ vs)[j]? = if j ∈ vs then (σ[j]?).map fun _ => none else σ[j]? := by
  induction vs with
  | nil => intro j; simp [wipe]
  | cons v vs ih =>
    intro j
    unfold wipe
    rw [List.getElem?_set]
    by_cases h : v = j
    · subst h
      rw [if_pos rfl]
      by_cases hl : v < σ.length
      · rw [if_pos (by rw [wipe_length]; exact hl)]
        simp [hl]
      · rw [if_neg (by rw [wipe_length]; exact hl)]
        simp [List.getElem?_eq_none (Nat.le_of_not_lt hl)]
    · rw [if_neg h, ih j]
      have : (j ∈ v :: vs) ↔ j ∈ vs := by simp [Ne.symm h]
      simp only [this]
theorem wipe_off {σ σ' : St} {vs us : List Nat} (h : Off us (wipe σ vs) σ') (hs : ∀ j ∈ us, j ∈ vs) : wipe σ' vs = wipe σ vs := by
  apply List.ext_getElem?
  intro j
  rw [wipe_set, wipe_set]
  have hl : σ'.length = σ.length := by rw [h.1, wipe_length]
  by_cases hj : j ∈ vs
  · rw [if_pos hj, if_pos hj]
    by_cases hlt : j < σ.length
    · rw [List.getElem?_eq_getElem hlt, List.getElem?_eq_getElem (by rw [hl]; exact hlt)]; rfl
    · rw [List.getElem?_eq_none (Nat.le_of_not_lt hlt), List.getElem?_eq_none (by rw [hl]; exact Nat.le_of_not_lt hlt)]
  · rw [if_neg hj, if_neg hj, h.2 j (fun z => hj (hs j z)), wipe_set, if_neg hj]
theorem R.wipe {P : Pt} {ρ : Env} {σ : St} {H : Hp} (vs : List Nat) (r : R G P ρ σ H) : R G P (wipeE ρ vs) (L2.wipe σ vs) H := by
  induction vs with
  | nil => exact r
  | cons v vs ih => exact ih.forget
/-- the reading of a comprehension by its data -/
theorem lc_data [r2s : Sub rel DVr] {wi : TI} {mi : Mi} {us vs : List Nat} {t : Tgt} {tt : Mt} {m' : Mv} {W1 W2 : WX} {σ : St} {H : Hp} {Q : VK} (hsub : ∀ j ∈ us, j ∈ vs) (h : LR (w + 16777216 * (w1 + w2)) FVr G Wx (mLc mi t tt m' vs) σ H Q) : tLc (LI w G Wx mi) (LG G us t) (LT w1 G W1 tt) (LR w2 rel G W2 m') vs σ H Q := by
  obtain ⟨P, ρ, k, e, r, q, hk, hx⟩ := h
  refine ⟨P, ρ, _, e, r, q, fun ds ⟨hl, kd⟩ J H1 hs s hd y => ?_, hx.l⟩
  intro D hD
  have R1 := r.step s
  have f1 := R1.fresh (o := .lst []) hD
  have hD0 : H D = none := s.none hD
  have s1 : Stw w P.W H (upd H1 D (.lst [])) := s.trans f1
  have hl' : ds.length ≤ 16777216 := by rw [sizeLine_eq] at hl; exact hl
  have b5 := hx.1
  have nD : ¬ P.avo D := R1.freshAv hD
  have nS : ¬ P.W.S D := fun z => nD (r.sO D z)
  -- the block's own point: the new list is avoided, the walked data are held
  obtain ⟨P2, hP2⟩ : ∃ P2 : Pt, P2 = { W := P.W, Av := fun a => P.Av a ∨ a = D, H0 := P.H0, O := P.O, X := hs ++ P.X } := ⟨_, rfl⟩
  have eW : P2.W = P.W := by rw [hP2]
  have eav : ∀ a, P2.avo a ↔ (P.avo a ∨ a = D) := fun a => by
    rw [hP2]
    exact ⟨fun z => z.elim (fun z => z.elim (fun z => .inl (.inl z)) .inr) fun z => .inl (.inr z), fun z => z.elim (fun z => z.elim (fun z => .inl (.inl z)) .inr) fun z => .inl (.inr z)⟩
  have hd1 : ∀ p ∈ hs, DV G P.W P2.avo (upd H1 D (.lst [])) p.1 p.2 := fun p hp =>
    ((hd p hp).sub (Av' := P2.avo) fun a z tr => ((eav a).mp z).elim id fun z => absurd z (tr.ne hD)).keep fun b o eb _ => by rw [upd_ne (ne_of_none eb hD)]; exact eb
  have R3 : R G P2 ρ σ (upd H1 D (.lst [])) := by
    rw [hP2] at hd1 ⊢
    exact (r.addAv hD0 ⟨_, upd_same⟩ s1.toStp).hold hd1
  have R4 := R3.wipe vs
  have Dav : P2.Av D := by rw [hP2]; exact .inr rfl
  have D0 : P2.H0 D = none := by rw [hP2]; exact r.stp.none hD0
  have mutD : ∀ {σ' ρ' H' xs}, R G P2 ρ' σ' H' → R G P2 ρ' σ' (upd H' D (.lst xs)) := fun r' => r'.mutAv Dav (by rw [eW]; exact nS) D0
  have keepD : ∀ {H' xs}, Keep P2.avo H' (upd H' D (.lst xs)) := fun {H' xs} b o eb nb => by rw [upd_ne (fun z => nb ((eav b).mpr (.inr z)))]; exact eb
  refine ⟨fun i m H' => i ≤ ds.length ∧ m = ds.length - i ∧ ∃ acc xs, H' D = some (.lst xs) ∧ acc.length ≤ i ∧ Stw (w + i * (w1 + w2)) P.W H H' ∧ DVs G P.W P2.avo H' acc xs ∧
      R G P2 (wipeE ρ vs) (L2.wipe σ vs) H' ∧ wLc (lBody (wipeE ρ vs) t tt m') (ds.drop i) fun ys => k (.lst (acc ++ ys)), ⟨ds.length, Nat.zero_le _, rfl, [], [], upd_same, Nat.le_refl _, s1.mono (by omega), DVs.nil, R4, kd⟩, ?_⟩
  rintro i m H2 ⟨hi, rfl, acc, xs, hxs, hacc, S2, va, R2, w'⟩
  have hd2 : ∀ p ∈ hs, DV G P.W P2.avo H2 p.1 p.2 := fun p hp => by
    have z := R2.held p (by rw [hP2]; exact List.mem_append_left _ hp)
    rw [eW] at z; exact z
  by_cases hlt : i < ds.length
  · have hm : (i + 1) * (w1 + w2) ≤ 16777216 * (w1 + w2) := Nat.mul_le_mul_right _ (by omega)
    have hm' : (i + 1) * (w1 + w2) = i * (w1 + w2) + (w1 + w2) := Nat.succ_mul i _
    refine .inr ⟨y.go _ i H2 hd2 hlt, fun H' => ∃ acc xs, H' D = some (.lst xs) ∧ acc.length ≤ i + 1 ∧ Stw (w + (i + 1) * (w1 + w2)) P.W H H' ∧ DVs G P.W P2.avo H' acc xs ∧ R G P2 (wipeE ρ vs) (L2.wipe σ vs) H' ∧ wLc (lBody (wipeE ρ vs) t tt m') (ds.drop (i + 1)) fun ys => k (.lst (acc ++ ys)),
      fun H' h => ⟨ds.length - (i + 1), by omega, hlt, rfl, h⟩, fun x H3 hy => ?_⟩
    obtain ⟨ka, d, ed, hv⟩ := y.yld _ i H2 x H3 hd2 (fun a h => R2.avoH h) hlt hy
    rw [drop_eq ed] at w'
    have S3 : Stw 0 P2.W H2 H3 := Stp.all R2 ka
    have tS2 := S2.tn
    have tS3 : P.W.tn H3 ≤ P.W.tn H2 + 0 := by have z := S3.tn; rw [eW] at z; exact z
    refine ⟨P2, wipeE ρ vs, d, _, R2.step S3, by rw [eW]; exact hv, w', fun ρ2 q2 σ3 off R5 => ⟨wipe_off off hsub, P2, ρ2, _, _, R5, q2, fun b kb H4 S4 => ?_, by rw [eW]; omega, fun x z => z.elim⟩⟩
    have S4' : Stw (0 + w1) P.W H2 H4 := by rw [← eW]; exact S3.trans S4
    have tS4 := S4'.tn
    have Rw : R G P2 (wipeE ρ vs) (L2.wipe σ vs) H4 := R2.step (by rw [eW]; exact S4')
    have va4 : DVs G P.W P2.avo H4 acc xs := va.keep (S4'.toStp.keepA fun a z => (eav a).mpr (.inl (r.sO a z)))
    have hx4 : H4 D = some (.lst xs) := S4'.keep D _ hxs nS
    cases b with
    | true =>
      simp only [if_true] at kb ⊢
      refine ⟨P2, ρ2, _, _, R5.step S4, kb, fun y kd v H5 S5 z => ?_, by rw [eW]; omega, fun x z => z.elim⟩
      have S5' : Stw w2 P.W H4 H5 := by rw [← eW]; exact S5
      have tS5 := S5'.tn
      have z : DV G P2.W P2.avo H5 y v := r2s.sub z
      rw [eW] at z
      have va5 : DVs G P.W P2.avo H5 acc xs := va4.keep (S5'.toStp.keepA fun a z => (eav a).mpr (.inl (r.sO a z)))
      refine ⟨xs, S5'.keep D _ hx4 nS, by rw [va5.length]; omega, acc ++ [y], xs ++ [v], upd_same, by rw [List.length_append, List.length_singleton]; omega, ?_, (va5.append (DVs.cons z DVs.nil)).keep keepD, mutD (Rw.step S5), ?_⟩
      · have S := S2.trans (S4'.trans S5')
        have hS : ∀ b, P.W.S b → upd H5 D (.lst (xs ++ [v])) b = H5 b := fun b hb => by rw [upd_ne]; exact fun z => nS (by rw [← z]; exact hb)
        refine ⟨⟨fun b o eb nb => ?_, fun b tb => ?_, ?_⟩, ?_⟩
        · rw [upd_ne (ne_of_none eb hD0)]; exact S.keep b o eb nb
        · obtain ⟨u, eu⟩ := S.live b tb
          exact ⟨u, by rw [upd_ne (tb.ne hD0)]; exact eu⟩
        · exact P.W.st H5 _ hS S.amb
        · rw [P.W.tst H5 _ hS]; omega
      · simpa only [List.append_assoc, List.singleton_append] using kd
    | false =>
      simp only [Bool.false_eq_true, if_false] at kb ⊢
      exact ⟨acc, xs, hx4, Nat.le_succ_of_le hacc, (S2.trans S4').mono (by omega), va4, Rw, kb⟩
  · have e : i = ds.length := by omega
    refine .inl ⟨y.stop _ i H2 hd2 (Nat.le_of_eq e.symm), ?_⟩
    rw [List.drop_eq_nil_of_le (Nat.le_of_eq e.symm)] at w'
    have w' : k (.lst (acc ++ [])) := w'
    rw [List.append_nil] at w'
    have hm : i * (w1 + w2) ≤ 16777216 * (w1 + w2) := Nat.mul_le_mul_right _ (by omega)
    exact hk _ w' _ H2 (S2.mono (by omega)) ⟨D, rfl, hD0, ⟨_, hxs⟩, nD, xs, hxs, va.sub fun a z _ => (eav a).mpr z⟩
theorem pd_lc [r2s : Sub rel DVr] {elt it : Expr} {ifs : List Expr} {scope : Scope} {own : List (Str × Nat)} {mi : Mi} {us : List Nat} {t : Tgt} {tt : Mt} {m' : Mv} {W1 W2 : WX} (hc : X.calm = true) (hN : X.N.Nodup) (hi : PI X tg it (LI w G Wx mi)) (ok : BlkOk X.N X.env.scope scope own)
    (hg : ∀ (s : Shared) (H : Hp) (C : Addr) (cl : List (Str × Addr)) (fp : List Addr), PG (X.blk s H scope (compEnvC scope cl C X.env) fp) tg (LG G us t)) (ht : ∀ (s : Shared) (H : Hp) (C : Addr) (cl : List (Str × Addr)) (fp : List Addr), PTs (X.blk s H scope (compEnvC scope cl C X.env) fp) ifs (LT w1 G W1 tt))
    (he : ∀ (s : Shared) (H : Hp) (C : Addr) (cl : List (Str × Addr)) (fp : List Addr), PE (X.blk s H scope (compEnvC scope cl C X.env) fp) elt (LR w2 rel G W2 m')) (hsub : ∀ j ∈ us, j ∈ own.map (·.2)) (hs : ∀ x, foldedSetIterable it X.env x = pure x := by intro _; rfl) :
    PE X (.ListComp elt [⟨tg, it, ifs, 0⟩] scope pos) (LR (w + 16777216 * (w1 + w2)) FVr G Wx (mLc mi t tt m' (own.map (·.2)))) := peW (pe_lc hc hN hi ok hg ht he hs) fun σ H Q h => lc_data (wi := LI w G Wx mi) hsub h
/-- y = [..] on one line: y data, or y its owner -/
theorem sd_setLc [r2s : Sub rel DVr] {i : Nat} {y : Str} {py : Pos} {elt it : Expr} {ifs : List Expr} {scope : Scope} {own : List (Str × Nat)} {mi : Mi} {us : List Nat} {t : Tgt} {tt : Mt} {m' : Mv} {W1 W2 : WX} {spos : Pos} (hc : X.calm = true) (hN : X.N.Nodup) (hi : PI X tg it (LI w G Wx mi)) (ok : BlkOk X.N X.env.scope scope own)
    (hg : ∀ (s : Shared) (H : Hp) (C : Addr) (cl : List (Str × Addr)) (fp : List Addr), PG (X.blk s H scope (compEnvC scope cl C X.env) fp) tg (LG G us t)) (ht : ∀ (s : Shared) (H : Hp) (C : Addr) (cl : List (Str × Addr)) (fp : List Addr), PTs (X.blk s H scope (compEnvC scope cl C X.env) fp) ifs (LT w1 G W1 tt))
    (he : ∀ (s : Shared) (H : Hp) (C : Addr) (cl : List (Str × Addr)) (fp : List Addr), PE (X.blk s H scope (compEnvC scope cl C X.env) fp) elt (LR w2 rel G W2 m')) (hsub : ∀ j ∈ us, j ∈ own.map (·.2)) (hsw : swapsWith (.ListComp elt [⟨tg, it, ifs, 0⟩] scope pos) (some (.Name y py)) spos.line X.env = pure true)
    (hy : X.N[i]? = some y := by rfl) (hyl : X.env.scope.names.lookup y = some .local := by rfl) (hs : ∀ x, foldedSetIterable it X.env x = pure x := by intro _; rfl) :
    PS X (.Assign [.Name y py] (.ListComp elt [⟨tg, it, ifs, 0⟩] scope pos) spos) (LS (w + 16777216 * (w1 + w2)) G Wx (sSet i (mLc mi t tt m' (own.map (·.2))))) := psW (ps_setLc hc hN hy hyl hsw hi ok hg ht he hs) fun D σ H ⟨P, ρ, E, r, q, c1, c2, c3, c4, c5⟩ =>
  lc_data (wi := LI w G Wx mi) hsub ⟨P, ρ, _, E.ex, r, q, fun d k v H' s z => c1 _ k P.O _ H' ((r.step s).setDat (show DV G P.W P.avo H' d v from Sub.sub (r := FVr) (r' := DVr) z)) s.tn, .of r c5⟩
theorem sd_ownLc [r2s : Sub rel DVr] {i : Nat} {y : Str} {py : Pos} {elt it : Expr} {ifs : List Expr} {scope : Scope} {own : List (Str × Nat)} {mi : Mi} {us : List Nat} {t : Tgt} {tt : Mt} {m' : Mv} {W1 W2 : WX} {spos : Pos} (hc : X.calm = true) (hN : X.N.Nodup) (hi : PI X tg it (LI w G Wx mi)) (ok : BlkOk X.N X.env.scope scope own)
    (hg : ∀ (s : Shared) (H : Hp) (C : Addr) (cl : List (Str × Addr)) (fp : List Addr), PG (X.blk s H scope (compEnvC scope cl C X.env) fp) tg (LG G us t)) (ht : ∀ (s : Shared) (H : Hp) (C : Addr) (cl : List (Str × Addr)) (fp : List Addr), PTs (X.blk s H scope (compEnvC scope cl C X.env) fp) ifs (LT w1 G W1 tt))
    (he : ∀ (s : Shared) (H : Hp) (C : Addr) (cl : List (Str × Addr)) (fp : List Addr), PE (X.blk s H scope (compEnvC scope cl C X.env) fp) elt (LR w2 rel G W2 m')) (hsub : ∀ j ∈ us, j ∈ own.map (·.2)) (hsw : swapsWith (.ListComp elt [⟨tg, it, ifs, 0⟩] scope pos) (some (.Name y py)) spos.line X.env = pure true)
    (hy : X.N[i]? = some y := by rfl) (hyl : X.env.scope.names.lookup y = some .local := by rfl) (hs : ∀ x, foldedSetIterable it X.env x = pure x := by intro _; rfl) :
    PS X (.Assign [.Name y py] (.ListComp elt [⟨tg, it, ifs, 0⟩] scope pos) spos) (LS (w + 16777216 * (w1 + w2)) G Wx (sOwn i (mLc mi t tt m' (own.map (·.2))))) := psW (ps_setLc hc hN hy hyl hsw hi ok hg ht he hs) fun D σ H ⟨P, ρ, E, r, q, c1, c2, c3, c4, c5⟩ =>
  lc_data (wi := LI w G Wx mi) hsub ⟨P, ρ, _, E.ex, r, q, fun d k v H' s ⟨p, ev, hn, ht, ha, ho⟩ => by subst ev; exact c1 _ k _ _ H' (r.takes s hn ht ha ho) s.tn, .of r c5⟩
end
end DL
set_option Elab.async false
set_option linter.all false
set_option maxRecDepth 100000
set_option maxHeartbeats 4000000
namespace DL
open PySem PySem.Spec L2

/-! ### defs -/
abbrev Fd := List D → (D → Prop) → (D → Prop) → Prop
/-- where a def may be called -/
structure Ok0 (P : Pt) (H : Hp) : Prop where
  amb : P.W.Amb H
  sAv : ∀ a, P.W.S a → P.avo a
  live : ∀ a, P.avo a → Tr H a
/-- a def of n parameters does f on data -/
def spD (G : Go) (n w : Nat) (f : Fd) : Sp := fun vs H Q E => ∃ (P : Pt) (ds : List D) (k e : D → Prop), Ok0 P H ∧ ds.length = n ∧ DVs G P.W P.avo H ds vs ∧ f ds k e ∧
  (∀ d, k d → ∀ v H', Stw w P.W H H' → DV G P.W P.avo H' d v → Q v H') ∧ P.W.tn H + w ≤ Bt ∧ (∀ x, e x → ∀ cls d H', Stw w P.W H H' → EV G P.W P.avo H' x cls d → E cls d H')
/-- the slots at the entry -/
def startE (n : Nat) (ds : List D) : Env := ds.map .dat ++ List.replicate (n - ds.length) .un
def body (m : Ms) (n : Nat) : Fd := fun ds k e => m (startE n ds) { nx := fun _ => k .non, rt := k, ex := e }
section
variable {G : Go} {w w1 w2 : Nat}
theorem R.entry {P : Pt} {H : Hp} {ds : List D} {vs : List V} {N : List Str} (o : Ok0 P H) (h : DVs G P.W P.avo H ds vs) : R G { W := P.W, Av := P.avo, H0 := H, O := fun _ => none, X := [] } (startE N.length ds) (L2.start N vs) H := by
  have hl := h.length
  have av : ∀ a, P.avo a ↔ ({ W := P.W, Av := P.avo, H0 := H, O := fun _ => none, X := [] } : Pt).avo a := fun a => ⟨.inl, fun z => z.elim id fun ⟨_, e⟩ => nomatch e⟩
  refine ⟨⟨Keep.refl, fun _ t => t, o.amb⟩, o.sAv, o.live, fun i a e => (nomatch e), fun i j a e => (nomatch e), ?_, fun i s e => ?_, fun p hp => absurd hp (by simp)⟩
  · simp [L2.start, startE, hl]
  · unfold startE at e
    unfold L2.start
    by_cases hi : i < ds.length
    · rw [List.getElem?_append_left (by simpa using hi), List.getElem?_map] at e
      rw [List.getElem?_append_left (by simpa [hl] using hi), List.getElem?_map]
      cases hd : ds[i]? with
      | none => rw [hd] at e; cases e
      | some d =>
        rw [hd] at e
        cases e
        obtain ⟨v, e1, e2⟩ := h.get hd
        exact ⟨v, by rw [e1]; rfl, e2.sub fun a z _ => (av a).mpr z⟩
    · rw [List.getElem?_append_right (by simpa using Nat.le_of_not_lt hi)] at e
      rw [List.getElem?_append_right (by simpa [hl] using Nat.le_of_not_lt hi)]
      rw [List.getElem?_replicate] at e
      split at e
      · rename_i hlt
        cases e
        refine ⟨none, ?_⟩
        rw [List.getElem?_replicate, if_pos]
        simpa [hl] using hlt
      · cases e
variable {P : Program} {wd : World} {K : PySem.W.Frag} {mg : Str → Option Value} {base : Heap}
theorem body_reads {m : Ms} {vs : List V} {H : Hp} {Q : VK} {E : XK} {N ps : List Str} (h : spD G ps.length w (body m N.length) vs H Q E) :
    LS w G (fun cls d _ H => E cls d H) m { nx := fun _ H' => Q .non H', rt := Q } (L2.start N vs) H := by
  obtain ⟨P, ds, k, e, o, hl, hd, hf, hk, hb, he⟩ := h
  refine ⟨_, _, _, R.entry o hd, hf, fun ρ' z O' σ' H' r' t => hk _ z _ H' ⟨r'.stp, t⟩ (by simp only [DV]), fun d z v H' s t q => hk d z v H' ⟨s, t⟩ q, fun _ z => z.elim, fun _ z => z.elim, hb, fun x z cls d σ' H' s t q => he x z cls d H' ⟨s, t⟩ q⟩
/-- a def that raises nothing, by its body's reading -/
theorem fn0 {x qual : Str} {st : Stmt} {f : Addr} {fd : FuncData} {N ps : List Str} {k : Nat} {m : Ms} (F : Fun K x qual st f fd) (S : FnScope N ps (defScope st))
    (hb : ∀ (cdv : Value) (A : Around) (outer : List PySem.Env) (s : Shared) (H : Hp) (E : XK), Room k (A.deeper (PyProof.Rows.envOfC qual (defScope st) s.heap.objs.size f cdv)) →
      PSs (cxOf CX0 P wd K mg base N qual (defScope st) f cdv A outer s H E).nox (defBody st) (LS w G (fun cls d _ H => E cls d H) m)) :
    FnOk P wd K mg base CX0 (k + 1) f fd ps (spD G ps.length w (body m N.length)) :=
  F.ok S (fun vs H Q E ⟨P, ds, k, e, _, hl, hd, _⟩ => by rw [hd.length, hl]) fun cdv A outer s H vs Q E hr h => ⟨_, hb cdv A outer s H E hr, body_reads h⟩
/-- a def that may raise -/
theorem fnX {x qual : Str} {st : Stmt} {f : Addr} {fd : FuncData} {N ps : List Str} {k : Nat} {m : Ms} (F : Fun K x qual st f fd) (S : FnScope N ps (defScope st))
    (hb : ∀ (cdv : Value) (A : Around) (outer : List PySem.Env) (s : Shared) (H : Hp) (E : XK), Room k (A.deeper (PyProof.Rows.envOfC qual (defScope st) s.heap.objs.size f cdv)) →
      PSs (cxOf (L2.CX P wd) P wd K mg base N qual (defScope st) f cdv A outer s H E) (defBody st) (LS w G (fun cls d _ H => E cls d H) m)) :
    FnOk P wd K mg base (L2.CX P wd) (k + 1) f fd ps (spD G ps.length w (body m N.length)) :=
  F.okX S (fun vs H Q E ⟨P, ds, k, e, _, hl, hd, _⟩ => by rw [hd.length, hl]) fun cdv A outer s H vs Q E hr h => ⟨_, hb cdv A outer s H E hr, body_reads h⟩
/-- another word for what it does -/
theorem spD_imp {n : Nat} {f g : Fd} (h : ∀ ds k e, ds.length = n → g ds k e → f ds k e) : ∀ vs H Q E, spD G n w g vs H Q E → spD G n w f vs H Q E := fun vs H Q E ⟨P, ds, k, e, o, hl, hd, hf, r⟩ => ⟨P, ds, k, e, o, hl, hd, h ds k e hl hf, r⟩
theorem spD_mono {n : Nat} {f : Fd} (h : w1 ≤ w2) : ∀ vs H Q E, spD G n w2 f vs H Q E → spD G n w1 f vs H Q E := fun vs H Q E ⟨P, ds, k, e, o, hl, hd, hf, hk, hb, hx⟩ => ⟨P, ds, k, e, o, hl, hd, hf, fun d kd v H' s z => hk d kd v H' (s.mono h) z, by omega, fun x q cls d H' s z => hx x q cls d H' (s.mono h) z⟩
end

/-! ### calls -/
section
variable {X : Cx} {G : Go} {Wx : WX} {e a b : Expr} {es : List Expr} {pos p : Pos} {mas : Ma} {n k w w1 w2 : Nat} {f : Addr} {fd : FuncData} {ps : List Str} {g : Fd} {x : Str}
/-- f(..), then the defaults -/
def mCall (n : Nat) (g : Fd) (dds : List D) (as : Ma) : Mv := fun ρ k e => as ρ (fun ds => (ds ++ dds).length = n ∧ g (ds ++ dds) k fun _ => False) e
def mCallX (n : Nat) (g : Fd) (as : Ma) : Mv := fun ρ k e => as ρ (fun ds => ds.length = n ∧ g ds k e) e
/-- the defaults stand for data -/
def Dfl (G : Go) (dvs : List V) (dds : List D) : Prop := ∀ W Av H, DVs G W Av H dds dvs
theorem Dfl.nil : Dfl G [] [] := fun _ _ _ => DVs.nil
theorem R.ok0 {P : Pt} {ρ : Env} {σ : St} {H : Hp} (r : R G P ρ σ H) : Ok0 P H := ⟨r.amb, r.sO, fun _ h => r.avoH h⟩
theorem pd_call (dds : List D) {dvs : List V} {dss : List Value} (F : FnOk X.prog X.w X.K X.mg X.base CX0 k f fd ps (spD G n w2 g)) (hr : Room k X.A) (hg : Gl X x) (hm : X.mg x = some (.ref f)) (hk : PySem.W.keepIn X.K (.ref f) = true) (hb : Binds X.K fd ps dss) (hd : Vals dvs dss) (hdd : Dfl G dvs dds)
    (ha : PA X (e :: es) (LA w1 G Wx mas)) (hdb : (x == ("__debug__" : Str)) = false := by decide) (he : starEach (e :: es) X.env = (false, eval e X.env) :: starEach es X.env := by rfl) (hpl : (backTo pos (starEach es X.env)).any (·.1) = false := by rfl) :
    PE X (.Call (.Name x p) (e :: es) [] pos) (LR (w1 + w2) DVr G Wx (mCall n g dds mas)) := peW (pe_call F hr hg hm hk hb hd pass0 ha hdb he hpl) fun σ H Q ⟨P, ρ, k, e, r, q, hk, hx⟩ =>
  ⟨P, ρ, _, e, r, q, fun ds ⟨hl, hf⟩ vs H1 s hv => ⟨P, ds ++ dds, k, _, (r.step s).ok0, hl, hv.append (hdd _ _ _), hf, fun d kd v H' s' z => hk d kd v H' (s.trans s') z, (hx.step s).1, fun x z => z.elim⟩, hx.l⟩
theorem pd_call0 (dds : List D) {dvs : List V} {dss : List Value} (F : FnOk X.prog X.w X.K X.mg X.base CX0 k f fd ps (spD G n w2 g)) (hr : Room k X.A) (hg : Gl X x) (hm : X.mg x = some (.ref f)) (hk : PySem.W.keepIn X.K (.ref f) = true) (hb : Binds X.K fd ps dss) (hd : Vals dvs dss) (hdd : Dfl G dvs dds)
    (hdb : (x == ("__debug__" : Str)) = false := by decide) : PE X (.Call (.Name x p) [] [] pos) (LR w2 DVr G Wx (mCall n g dds mNil)) := peW (pe_call0 F hr hg hm hk hb hd pass0 hdb) fun σ H Q ⟨P, ρ, k, e, r, ⟨hl, hf⟩, hk, hx⟩ =>
  ⟨P, [] ++ dds, k, _, r.ok0, hl, DVs.nil.append (hdd _ _ _), hf, fun d kd v H' s' z => hk d kd v H' s' z, hx.1, fun x z => z.elim⟩
/-- f(..), f may raise -/
theorem pd_callX (F : FnOk X.prog X.w X.K X.mg X.base (L2.CX X.prog X.w) k f fd ps (spD G n w2 g)) (hr : Room k X.A) (hg : Gl X x) (hm : X.mg x = some (.ref f)) (hk : PySem.W.keepIn X.K (.ref f) = true) (hb : Binds X.K fd ps []) (tk : Takes X Wx)
    (ha : PA X (e :: es) (LA w1 G Wx mas)) (hdb : (x == ("__debug__" : Str)) = false := by decide) (he : starEach (e :: es) X.env = (false, eval e X.env) :: starEach es X.env := by rfl) (hpl : (backTo pos (starEach es X.env)).any (·.1) = false := by rfl) :
    PE X (.Call (.Name x p) (e :: es) [] pos) (LR (w1 + w2) DVr G Wx (mCallX n g mas)) := peW (pe_callS F hr hg hm hk hb (fun σ => passAt tk σ) ha hdb he hpl) fun σ H Q ⟨P, ρ, k, e, r, q, hk, hx⟩ =>
  ⟨P, ρ, _, e, r, q, fun ds ⟨hl, hf⟩ vs H1 s hv => ⟨P, ds, k, e, (r.step s).ok0, hl, hv, hf, fun d kd v H' s' z => hk d kd v H' (s.trans s') z, (hx.step s).1, fun x z cls d H' s' ev => hx.2 x z cls d σ H' (s.trans s') ev⟩, hx.l⟩
/-- a built-in by values -/
def OpA (G : Go) (X : WX) (rel : Rl) (r : List V → Hp → VK → Prop) (f : Fd) : Prop := ∀ (P : Pt) (ρ : Env) (σ : St) (H : Hp) (vs : List V) (Q : VK) (ds : List D) (k e : D → Prop), R G P ρ σ H → DVs G P.W P.avo H ds vs → f ds k e →
  (∀ d, k d → ∀ v H', Stw 0 P.W H H' → rel G P H H' d v → Q v H') → XOk 0 G X P H e → r vs H Q
def mCB (g : Fd) (as : Ma) : Mv := fun ρ k e => as ρ (fun ds => g ds k e) e
variable {rel : Rl} {id T : String} {r : List V → Hp → VK → Prop}
theorem lrA [Back rel] (ho : OpA G Wx rel r g) {σ : St} {H : Hp} {Q : VK} (h : LR w1 rel G Wx (mCB g mas) σ H Q) : tCB r (LA w1 G Wx mas) σ H Q := by
  obtain ⟨P, ρ, k, e, r0, q, hk, hx⟩ := h
  exact ⟨P, ρ, _, e, r0, q, fun ds hf vs H1 s hv => ho P ρ σ H1 vs Q ds k e (r0.step s) hv hf (fun d kd v H' s' z => hk d kd v H' (s.trans s') (Back.back s z)) (hx.done s), hx⟩
theorem pd_B [Back rel] (hc : CallR X (.builtin id) r) (ho : OpA G Wx rel r g) (hg : Gl X x) (hm : X.mg x = none) (hv : bootBuiltins x = some (.builtin id)) (ha : PA X (e :: es) (LA w1 G Wx mas)) (hn : x ≠ "__name__" := by decide) (hdb : (x == ("__debug__" : Str)) = false := by decide)
    (he : starEach (e :: es) X.env = (false, eval e X.env) :: starEach es X.env := by rfl) (hpl : (backTo pos (starEach es X.env)).any (·.1) = false := by rfl) : PE X (.Call (.Name x p) (e :: es) [] pos) (LR w1 rel G Wx (mCB g mas)) :=
  peW (pe_callB hc hg hm hv ha hn hdb he hpl) fun σ H Q h => lrA ho h
theorem pd_T [Back rel] (hc : CallR X (.type T) r) (ho : OpA G Wx rel r g) (hg : Gl X x) (hm : X.mg x = none) (hv : bootBuiltins x = some (.type T)) (ha : PA X (e :: es) (LA w1 G Wx mas)) (hn : x ≠ "__name__" := by decide) (hdb : (x == ("__debug__" : Str)) = false := by decide)
    (he : starEach (e :: es) X.env = (false, eval e X.env) :: starEach es X.env := by rfl) (hpl : (backTo pos (starEach es X.env)).any (·.1) = false := by rfl) : PE X (.Call (.Name x p) (e :: es) [] pos) (LR w1 rel G Wx (mCB g mas)) :=
  peW (pe_callTy hc hg hm hv ha hn hdb he hpl) fun σ H Q h => lrA ho h
/-- of one argument that may be a slot's own object -/
def OpB (G : Go) (X : WX) (rel : Rl) (r : List V → Hp → VK → Prop) (f : Op1) : Prop := ∀ (P : Pt) (ρ : Env) (σ : St) (H : Hp) (v : V) (Q : VK) (d : D) (k e : D → Prop), R G P ρ σ H → DBr G P H H d v → f d k e →
  (∀ d, k d → ∀ v H', Stw 0 P.W H H' → rel G P H H' d v → Q v H') → XOk 0 G X P H e → r [v] H Q
variable {r1 : Rl} {ma : Mv} {f1 : Op1}
theorem lrB1 [Back rel] [s1 : Sub r1 DBr] (ho : OpB G Wx rel r f1) {σ : St} {H : Hp} {Q : VK} (h : LR w1 rel G Wx (m1 f1 ma) σ H Q) : tCB r (tCons (LR w1 r1 G Wx ma) tNil) σ H Q := by
  obtain ⟨P, ρ, k, e, r0, q, hk, hx⟩ := h
  exact ⟨P, ρ, _, e, r0, q, fun d hf v H1 s hv => ho P ρ σ H1 v Q d k e (r0.step s) (show DBr G P H H1 d v from s1.sub hv) hf (fun d kd v H' s' z => hk d kd v H' (s.trans s') (Back.back s z)) (hx.done s), hx⟩
theorem pd_B1 [Back rel] [s1 : Sub r1 DBr] (hc : CallR X (.builtin id) r) (ho : OpB G Wx rel r f1) (hg : Gl X x) (hm : X.mg x = none) (hv : bootBuiltins x = some (.builtin id)) (ha : PE X e (LR w1 r1 G Wx ma)) (hn : x ≠ "__name__" := by decide) (hdb : (x == ("__debug__" : Str)) = false := by decide)
    (he : starEach (e :: []) X.env = (false, eval e X.env) :: starEach [] X.env := by rfl) (hpl : (backTo pos (starEach [] X.env)).any (·.1) = false := by rfl) : PE X (.Call (.Name x p) [e] [] pos) (LR w1 rel G Wx (m1 f1 ma)) :=
  peW (pe_callB hc hg hm hv (pa_cons ha pa_nil he) hn hdb he hpl) fun σ H Q h => lrB1 ho h
theorem pd_T1 [Back rel] [s1 : Sub r1 DBr] (hc : CallR X (.type T) r) (ho : OpB G Wx rel r f1) (hg : Gl X x) (hm : X.mg x = none) (hv : bootBuiltins x = some (.type T)) (ha : PE X e (LR w1 r1 G Wx ma)) (hn : x ≠ "__name__" := by decide) (hdb : (x == ("__debug__" : Str)) = false := by decide)
    (he : starEach (e :: []) X.env = (false, eval e X.env) :: starEach [] X.env := by rfl) (hpl : (backTo pos (starEach [] X.env)).any (·.1) = false := by rfl) : PE X (.Call (.Name x p) [e] [] pos) (LR w1 rel G Wx (m1 f1 ma)) :=
  peW (pe_callTy hc hg hm hv (pa_cons ha pa_nil he) hn hdb he hpl) fun σ H Q h => lrB1 ho h
end
end DL
set_option Elab.async false
set_option linter.all false
set_option maxRecDepth 100000
set_option maxHeartbeats 4000000
namespace DL
open PySem PySem.Spec L2

section
variable {X : Cx} {G : Go} {Wx : WX}
/-! ### reading data off values -/
section
variable {P : Pt} {H H' : Hp} {v : V}
theorem dV (h : DBr G P H H' d v) (hd : ∀ a, P.avo a → True := fun _ _ => trivial) : True := trivial
theorem db_int {i : Int} (h : DBr G P H H' (.int i) v) : v = .int i := h.elim (fun z => by simpa only [DV] using z) fun ⟨_, _, _, _, z⟩ => z.elim
theorem db_str {i : Str} (h : DBr G P H H' (.str i) v) : v = .str i := h.elim (fun z => by simpa only [DV] using z) fun ⟨_, _, _, _, z⟩ => z.elim
theorem db_non (h : DBr G P H H' .non v) : v = .non := h.elim (fun z => by simpa only [DV] using z) fun ⟨_, _, _, _, z⟩ => z.elim
theorem db_tup {ds : List D} (h : DBr G P H H' (.tup ds) v) : ∃ a xs, v = .ref a ∧ SqT G.K H' a xs ∧ DVs G P.W P.avo H' ds xs := h.elim (fun z => by simp only [DV] at z; obtain ⟨a, xs, e, q, z⟩ := z; exact ⟨a, xs, e, q.to, z⟩) fun ⟨_, _, _, _, z⟩ => z.elim
theorem db_lst {ds : List D} (h : DBr G P H H' (.lst ds) v) : ∃ a xs, v = .ref a ∧ SqL G.K H' a xs ∧ DVs G P.W P.avo H' ds xs := h.elim (fun z => by simp only [DV] at z; obtain ⟨a, xs, e, q, z⟩ := z; exact ⟨a, xs, e, q.to, z⟩) fun ⟨_, a, _, e, xs, q, z⟩ => ⟨a, xs, e, SqL.of q, z⟩
theorem dv_seq {d : D} {ds : List D} (h : DBr G P H H' d v) (e : seqD d = some ds) : ∃ a xs, v = .ref a ∧ (SqL G.K H' a xs ∨ SqT G.K H' a xs) ∧ DVs G P.W P.avo H' ds xs := by
  cases d with
  | lst xs => cases e; obtain ⟨a, xs, e, q, z⟩ := db_lst h; exact ⟨a, xs, e, .inl q, z⟩
  | tup xs => cases e; obtain ⟨a, xs, e, q, z⟩ := db_tup h; exact ⟨a, xs, e, .inr q, z⟩
  | _ => cases e
end

/-! ### ints -/
def oI (C : Int → Int → Prop) (g : Int → Int → D) : Op2 := fun a b k _ => match a, b with
  | .int i, .int j => C i j ∧ k (g i j)
  | _, _ => False
def yes2 : Int → Int → Prop := fun _ _ => True
theorem does_I {C : Int → Int → Prop} {g : Int → Int → Int} : Does2 G Wx DVr (rI C fun i j => .int (g i j)) (oI C fun i j => .int (g i j)) := fun P ρ σ H x y Q d1 d2 k e r h1 h2 hf hk hx => by
  unfold oI at hf
  split at hf
  · rename_i i j
    exact ⟨i, j, db_int h1, db_int h2, hf.1, hk _ hf.2 _ H r.same (by simp only [DVr, DV])⟩
  · exact hf.elim
theorem does_I0 {g : Int → Int → Int} : Does2 G Wx DVr (rI0 fun i j => .int (g i j)) (oI yes2 fun i j => .int (g i j)) := fun P ρ σ H x y Q d1 d2 k e r h1 h2 hf hk hx => by
  unfold oI at hf
  split at hf
  · rename_i i j
    exact ⟨i, j, db_int h1, db_int h2, hk _ hf.2 _ H r.same (by simp only [DVr, DV])⟩
  · exact hf.elim
theorem does_B0 {g : Int → Int → Bool} : Does2 G Wx DVr (rI0 fun i j => .bl (g i j)) (oI yes2 fun i j => .bl (g i j)) := fun P ρ σ H x y Q d1 d2 k e r h1 h2 hf hk hx => by
  unfold oI at hf
  split at hf
  · rename_i i j
    exact ⟨i, j, db_int h1, db_int h2, hk _ hf.2 _ H r.same (by simp only [DVr, DV])⟩
  · exact hf.elim
abbrev oSub : Op2 := oI yes2 fun i j => .int (i - j)
abbrev oMul : Op2 := oI CMul fun i j => .int (i * j)
abbrev oDiv : Op2 := oI CDiv fun i j => .int (i / j)
abbrev oMod : Op2 := oI (fun _ j => 0 < j) fun i j => .int (i % j)
abbrev oPow : Op2 := oI CPow fun i j => .int (i ^ j.toNat)
abbrev oLt : Op2 := oI yes2 fun i j => .bl (decide (i < j))
abbrev oLe : Op2 := oI yes2 fun i j => .bl (decide (i ≤ j))
abbrev oGt : Op2 := oI yes2 fun i j => .bl (decide (j < i))
abbrev oGe : Op2 := oI yes2 fun i j => .bl (decide (j ≤ i))

/-! ### + : ints, texts, tuples, lists -/
def rCatL (K : PySem.W.Frag) : R2 := fun x y H Q => ∃ a b xs ys, x = .ref a ∧ y = .ref b ∧ SqL K H a xs ∧ SqL K H b ys ∧ xs.length + ys.length ≤ sizeLine ∧ ∀ p, H p = none → Q (.ref p) (upd H p (.lst (xs ++ ys)))
theorem op_catL : OpR X (binaryOp .Add) (rCatL X.K) := by
  intro pins s σ H x y v u Q I rx ry h
  obtain ⟨l, b, xs, zs, rfl, rfl, hH, hB, hz, q⟩ := h
  cases rx
  cases ry
  obtain ⟨vs, r, ⟨⟨cls, dd, data, sl⟩, n, ho, hc, hdd, hd⟩, z⟩ := I.list hH
  obtain ⟨ws, r2, ⟨⟨cls2, dd2, data2, sl2⟩, n2, ho2, hc2, hdd2, hd2⟩, z2⟩ := I.list hB
  simp only at hc hd hc2 hd2
  subst hc hd hc2 hd2
  have e : vs.toArray ++ ws.toArray = (vs ++ ws).toArray := by simp
  have l1 := r.length
  have l2 := r2.length
  refine PySem.concat_meets ⟨_, ho, rfl⟩ ⟨_, ho2, rfl⟩ noFill_list_add seq_list_add PySem.F.slot_list_add PySem.F.entry_list_add (PySem.F.args_list_add_2 _ _) (PyProof.Rows.list_addW l b vs.toArray ws.toArray n n2 dd dd2 sl sl2 (by simp only [List.size_toArray]; omega)) ⟨ho, ho2, ?_⟩
  rw [e]
  exact ⟨.ref _, _, I.lnew (t' := s.toks) (r.append r2) (by rw [List.length_append]; omega), rfl, q _ I.fresh⟩
def rStrAdd : R2 := fun x y H Q => ∃ i j, x = .str i ∧ y = .str j ∧ i.length + j.length ≤ sizeLine ∧ Q (.str (i ++ j)) H
def rAdd (K : PySem.W.Frag) : R2 := fun x y H Q => (rI0 fun i j => .int (i + j)) x y H Q ∨ rCatA K x y H Q ∨ rCatL K x y H Q ∨ rStrAdd x y H Q
theorem op_addD : OpR X (binaryOp .Add) (rAdd X.K) := op_add.or (op_catA.or (op_catL.or op_add_str))
def oAdd : Op2 := fun a b k _ => match a, b with
  | .int i, .int j => k (.int (i + j))
  | .tup xs, .tup ys => xs.length + ys.length ≤ sizeLine ∧ k (.tup (xs ++ ys))
  | .lst xs, .lst ys => xs.length + ys.length ≤ sizeLine ∧ k (.lst (xs ++ ys))
  | .str x, .str y => x.length + y.length ≤ sizeLine ∧ k (.str (x ++ y))
  | _, _ => False
/-- a new tuple -/
theorem dv_newT {P : Pt} {ρ : Env} {σ : St} {H : Hp} (r : R G P ρ σ H) {p : Addr} {vs : List V} {ds : List D} (hp : H p = none) (hv : DVs G P.W P.avo H ds vs) : Stw 0 P.W H (upd H p (.tup vs)) ∧ DVr G P H (upd H p (.tup vs)) (.tup ds) (.ref p) := by
  have s := r.fresh (o := .tup vs) hp
  refine ⟨s, ?_⟩
  simp only [DVr, DV]
  exact ⟨p, vs, rfl, .inl ⟨r.freshAv hp, .inl upd_same⟩, hv.keep (s.keepA r.sO)⟩
theorem dv_newL {P : Pt} {ρ : Env} {σ : St} {H : Hp} (r : R G P ρ σ H) {p : Addr} {vs : List V} {ds : List D} (hp : H p = none) (hv : DVs G P.W P.avo H ds vs) : Stw 0 P.W H (upd H p (.lst vs)) ∧ FVr G P H (upd H p (.lst vs)) (.lst ds) (.ref p) :=
  ⟨r.fresh hp, p, rfl, hp, ⟨_, upd_same⟩, r.freshAv hp, r.ownNew hp hv⟩
/-- a tuple that stands elsewhere, too -/
theorem dv_tup {P : Pt} {H : Hp} {a : Addr} {d : D} (h : DBr G P H H d (.ref a)) {ds : List D} (e : d = .tup ds) : DVr G P H H d (.ref a) := h.elim id fun ⟨_, _, _, _, z⟩ => by subst e; exact z.elim
theorem does_add (hK : G.K = X.K) : Does2 G Wx DVr (rAdd X.K) oAdd := fun P ρ σ H x y Q d1 d2 k e r h1 h2 hf hk hx => by
  unfold oAdd at hf
  split at hf
  · exact .inl ⟨_, _, db_int h1, db_int h2, hk _ hf _ H r.same (by simp only [DVr, DV])⟩
  · obtain ⟨a, xs, e1, q1, z1⟩ := db_tup h1
    obtain ⟨b, ys, e2, q2, z2⟩ := db_tup h2
    subst e1 e2
    refine .inr (.inl ⟨a, b, xs, ys, rfl, rfl, by rw [← hK]; exact q1, by rw [← hK]; exact q2, by rw [z1.length, z2.length]; exact hf.1, fun e => ?_, fun _ e => ?_, fun _ _ p hp => ?_⟩)
    · subst e
      have e' := z1.length
      rw [List.length_nil] at e'
      have e0 := List.eq_nil_of_length_eq_zero e'.symm
      have hf2 := hf.2
      rw [e0, List.nil_append] at hf2
      exact hk _ hf2 _ H r.same (dv_tup h2 rfl)
    · subst e
      have e' := z2.length
      rw [List.length_nil] at e'
      have e0 := List.eq_nil_of_length_eq_zero e'.symm
      have hf2 := hf.2
      rw [e0, List.append_nil] at hf2
      exact hk _ hf2 _ H r.same (dv_tup h1 rfl)
    · obtain ⟨s, z⟩ := dv_newT r hp (z1.append z2)
      exact hk _ hf.2 _ _ s z
  · obtain ⟨a, xs, e1, q1, z1⟩ := db_lst h1
    obtain ⟨b, ys, e2, q2, z2⟩ := db_lst h2
    subst e1 e2
    refine .inr (.inr (.inl ⟨a, b, xs, ys, rfl, rfl, by rw [← hK]; exact q1, by rw [← hK]; exact q2, by rw [z1.length, z2.length]; exact hf.1, fun p hp => ?_⟩))
    obtain ⟨s, z⟩ := dv_newL r hp (z1.append z2)
    exact hk _ hf.2 _ _ s (Sub.sub z)
  · exact .inr (.inr (.inr ⟨_, _, db_str h1, db_str h2, hf.1, hk _ hf.2 _ H r.same (by simp only [DVr, DV])⟩))
  · exact hf.elim
/-- list + list, owned -/
def oAddL : Op2 := fun a b k _ => match a, b with
  | .lst xs, .lst ys => xs.length + ys.length ≤ sizeLine ∧ k (.lst (xs ++ ys))
  | _, _ => False
theorem does_addL (hK : G.K = X.K) : Does2 G Wx FVr (rCatL X.K) oAddL := fun P ρ σ H x y Q d1 d2 k e r h1 h2 hf hk hx => by
  unfold oAddL at hf
  split at hf
  · obtain ⟨a, xs, e1, q1, z1⟩ := db_lst h1
    obtain ⟨b, ys, e2, q2, z2⟩ := db_lst h2
    subst e1 e2
    refine ⟨a, b, xs, ys, rfl, rfl, by rw [← hK]; exact q1, by rw [← hK]; exact q2, by rw [z1.length, z2.length]; exact hf.1, fun p hp => ?_⟩
    obtain ⟨s, z⟩ := dv_newL r hp (z1.append z2)
    exact hk _ hf.2 _ _ s z
  · exact hf.elim

/-! ### == and in -/
mutual
def D.py : D → Option PyData
  | .non => some .none
  | .bl b => some (.bool b)
  | .int i => some (.int i)
  | .str s => some (.str s)
  | .tup ds => (D.pys ds).map .tuple
  | .lst ds => (D.pys ds).map .list
  | .dct _ _ => none
  | .hdl _ => none
  | .exc _ _ => none
  | .fn _ => none
def D.pys : List D → Option (List PyData)
  | [] => some []
  | d :: ds => match D.py d, D.pys ds with
    | some p, some ps => some (p :: ps)
    | _, _ => none
end
mutual
theorem dp_of {W : Wd} {Av : Addr → Prop} {H : Hp} : ∀ {d : D} {v : V} {p : PyData}, DV G W Av H d v → d.py = some p → Dp G.K H v p
  | .non, _, _, h, e => by simp only [DV] at h; simp only [D.py] at e; cases e; subst h; exact .non
  | .bl _, _, _, h, e => by simp only [DV] at h; simp only [D.py] at e; cases e; subst h; exact .bl _
  | .int _, _, _, h, e => by simp only [DV] at h; simp only [D.py] at e; cases e; subst h; exact .int _
  | .str _, _, _, h, e => by simp only [DV] at h; simp only [D.py] at e; cases e; subst h; exact .str _
  | .tup ds, _, _, h, e => by
    simp only [DV] at h
    obtain ⟨a, xs, rfl, q, z⟩ := h
    simp only [D.py] at e
    cases hp : D.pys ds with
    | none => rw [hp] at e; cases e
    | some ps => rw [hp] at e; cases e; exact .tup q.to (dps_of z hp)
  | .lst ds, _, _, h, e => by
    simp only [DV] at h
    obtain ⟨a, xs, rfl, q, z⟩ := h
    simp only [D.py] at e
    cases hp : D.pys ds with
    | none => rw [hp] at e; cases e
    | some ps => rw [hp] at e; cases e; exact .lst q.to (dps_of z hp)
  | .dct _ _, _, _, _, e => by simp only [D.py] at e; cases e
  | .hdl _, _, _, _, e => by simp only [D.py] at e; cases e
  | .exc _ _, _, _, _, e => by simp only [D.py] at e; cases e
  | .fn _, _, _, _, e => by simp only [D.py] at e; cases e
theorem dps_of {W : Wd} {Av : Addr → Prop} {H : Hp} : ∀ {ds : List D} {vs : List V} {ps : List PyData}, DVs G W Av H ds vs → D.pys ds = some ps → DpAll G.K H vs ps
  | [], _, _, h, e => by simp only [DVs] at h; simp only [D.pys] at e; cases e; subst h; exact .nil
  | d :: ds, _, _, h, e => by
    simp only [DVs] at h
    obtain ⟨v, r, rfl, h1, h2⟩ := h
    simp only [D.pys] at e
    split at e
    · rename_i p ps hp hps
      cases e
      exact .cons (dp_of h1 hp) (dps_of h2 hps)
    · cases e
end
theorem dpB_of {P : Pt} {H H0 : Hp} {d : D} {v : V} {p : PyData} (h : DBr G P H0 H d v) (e : d.py = some p) : Dp G.K H v p := by
  rcases h with h | ⟨i, a, _, rfl, h⟩
  · exact dp_of h e
  · cases d with
    | lst ds =>
      obtain ⟨xs, q, z⟩ := h
      simp only [D.py] at e
      cases hp : D.pys ds with
      | none => rw [hp] at e; cases e
      | some ps => rw [hp] at e; cases e; exact .lst (SqL.of q) (dps_of z hp)
    | dct _ _ => simp only [D.py] at e; cases e
    | _ => exact h.elim
/-- data that can be compared -/
def Good (d : D) (p : PyData) : Prop := d.py = some p ∧ SeqAt.shaped p = true
def oEq : Op2 := fun a b k _ => ∃ p q, Good a p ∧ Good b q ∧ k (.bl (PyData.eqv p q))
def oNe : Op2 := fun a b k _ => ∃ p q, Good a p ∧ Good b q ∧ k (.bl (!PyData.eqv p q))
theorem does_eq (hK : G.K = X.K) : Does2 G Wx DVr (rEqD X.K) oEq := fun P ρ σ H x y Q d1 d2 k e r h1 h2 ⟨p, q, g1, g2, kk⟩ hk hx =>
  ⟨p, q, by rw [← hK]; exact dpB_of h1 g1.1, by rw [← hK]; exact dpB_of h2 g2.1, g1.2, g2.2, hk _ kk _ H r.same (by simp only [DVr, DV])⟩
theorem does_ne (hK : G.K = X.K) : Does2 G Wx DVr (rNeD X.K) oNe := fun P ρ σ H x y Q d1 d2 k e r h1 h2 ⟨p, q, g1, g2, kk⟩ hk hx =>
  ⟨p, q, by rw [← hK]; exact dpB_of h1 g1.1, by rw [← hK]; exact dpB_of h2 g2.1, g1.2, g2.2, hk _ kk _ H r.same (by simp only [DVr, DV])⟩
/-- x in a list, a tuple -/
def rInS (K : PySem.W.Frag) : R2 := fun x y H Q => ∃ d ds, Dp K H x d ∧ (Dp K H y (.list ds) ∨ Dp K H y (.tuple ds)) ∧ SeqAt.shaped d = true ∧ SeqAt.shaped (.list ds) = true ∧ Q (.bl (ds.any fun z => PyData.eqv z d)) H
def rNotInS (K : PySem.W.Frag) : R2 := fun x y H Q => ∃ d ds, Dp K H x d ∧ (Dp K H y (.list ds) ∨ Dp K H y (.tuple ds)) ∧ SeqAt.shaped d = true ∧ SeqAt.shaped (.list ds) = true ∧ Q (.bl (!ds.any fun z => PyData.eqv z d)) H
theorem shaped_tup {ds : List PyData} (h : SeqAt.shaped (.list ds) = true) : SeqAt.shaped (.tuple ds) = true := by
  unfold SeqAt.shaped at h ⊢
  simpa [PyData.canLay0, PyData.depth] using h
theorem op_inS (hu : X.A.units + 65 < cLine) : OpR X (compareOp .In) (rInS X.K) := by
  intro pins s σ H x y v u Q I rx ry h
  obtain ⟨d, ds, hd, he, sd, se, q⟩ := h
  obtain ⟨as, r1⟩ := Dp.reads I d x v hd rx
  rcases he with he | he
  · obtain ⟨bs, r2⟩ := Dp.reads I (.list ds) y u he ry
    exact SeqAt.in_list_reads r2 r1 (SeqAt.canLay_of_shaped se) (SeqAt.canLay_of_shaped sd) (PyProof.Rows.room_in_shaped sd hu) ⟨.bl _, H, I, rfl, q⟩
  · obtain ⟨bs, r2⟩ := Dp.reads I (.tuple ds) y u he ry
    exact SeqAt.in_tuple_reads r2 r1 (SeqAt.canLay_of_shaped se) (SeqAt.canLay_of_shaped sd) (PyProof.Rows.room_in_shaped sd hu) ⟨.bl _, H, I, rfl, q⟩
theorem op_notInS (hu : X.A.units + 65 < cLine) : OpR X (compareOp .NotIn) (rNotInS X.K) := by
  intro pins s σ H x y v u Q I rx ry h
  obtain ⟨d, ds, hd, he, sd, se, q⟩ := h
  obtain ⟨as, r1⟩ := Dp.reads I d x v hd rx
  rcases he with he | he
  · obtain ⟨bs, r2⟩ := Dp.reads I (.list ds) y u he ry
    exact SeqAt.notIn_list_reads r2 r1 (SeqAt.canLay_of_shaped se) (SeqAt.canLay_of_shaped sd) (PyProof.Rows.room_in_shaped sd hu) ⟨.bl _, H, I, rfl, q⟩
  · obtain ⟨bs, r2⟩ := Dp.reads I (.tuple ds) y u he ry
    exact SeqAt.notIn_tuple_reads r2 r1 (SeqAt.canLay_of_shaped se) (SeqAt.canLay_of_shaped sd) (PyProof.Rows.room_in_shaped sd hu) ⟨.bl _, H, I, rfl, q⟩
def oIn : Op2 := fun a b k _ => ∃ p qs ds, Good a p ∧ seqD b = some ds ∧ D.pys ds = some qs ∧ SeqAt.shaped (.list qs) = true ∧ k (.bl (qs.any fun z => PyData.eqv z p))
def oNotIn : Op2 := fun a b k _ => ∃ p qs ds, Good a p ∧ seqD b = some ds ∧ D.pys ds = some qs ∧ SeqAt.shaped (.list qs) = true ∧ k (.bl (!qs.any fun z => PyData.eqv z p))
theorem seq_dp {P : Pt} {H : Hp} {b : D} {ds : List D} {qs : List PyData} {y : V} (h : DBr G P H H b y) (e : seqD b = some ds) (hq : D.pys ds = some qs) : Dp G.K H y (.list qs) ∨ Dp G.K H y (.tuple qs) := by
  cases b with
  | lst xs => cases e; exact .inl (dpB_of h (by simp only [D.py, hq]; rfl))
  | tup xs => cases e; exact .inr (dpB_of h (by simp only [D.py, hq]; rfl))
  | _ => cases e
theorem does_in (hK : G.K = X.K) : Does2 G Wx DVr (rInS X.K) oIn := fun P ρ σ H x y Q d1 d2 k e r h1 h2 ⟨p, qs, ds, g1, es, eq, sh, kk⟩ hk hx =>
  ⟨p, qs, by rw [← hK]; exact dpB_of h1 g1.1, by rw [← hK]; exact seq_dp h2 es eq, g1.2, sh, hk _ kk _ H r.same (by simp only [DVr, DV])⟩
theorem does_notIn (hK : G.K = X.K) : Does2 G Wx DVr (rNotInS X.K) oNotIn := fun P ρ σ H x y Q d1 d2 k e r h1 h2 ⟨p, qs, ds, g1, es, eq, sh, kk⟩ hk hx =>
  ⟨p, qs, by rw [← hK]; exact dpB_of h1 g1.1, by rw [← hK]; exact seq_dp h2 es eq, g1.2, sh, hk _ kk _ H r.same (by simp only [DVr, DV])⟩

/-! ### is None, is True -/
def isN : D → Bool
  | .non => true
  | _ => false
def oIsN : Op2 := fun a b k _ => b = .non ∧ k (.bl (isN a))
def oNotN : Op2 := fun a b k _ => b = .non ∧ k (.bl (!isN a))
theorem db_isN {P : Pt} {H : Hp} {d : D} {v : V} (h : DBr G P H H d v) : decide (v = .non) = isN d := by
  rcases h with h | ⟨i, a, _, rfl, h⟩
  · cases d with
    | non => simp only [DV] at h; subst h; rfl
    | bl _ => simp only [DV] at h; subst h; rfl
    | int _ => simp only [DV] at h; subst h; rfl
    | str _ => simp only [DV] at h; subst h; rfl
    | tup _ => simp only [DV] at h; obtain ⟨a, xs, rfl, _⟩ := h; rfl
    | lst _ => simp only [DV] at h; obtain ⟨a, xs, rfl, _⟩ := h; rfl
    | dct _ _ => simp only [DV] at h; obtain ⟨a, xs, rfl, _⟩ := h; rfl
    | hdl _ => simp only [DV] at h; subst h; rfl
    | exc _ _ => simp only [DV] at h; obtain ⟨a, _, rfl, _⟩ := h; rfl
    | fn _ => simp only [DV] at h; subst h; rfl
  · cases d with
    | lst _ => rfl
    | dct _ _ => rfl
    | _ => exact h.elim
theorem does_isN : Does2 G Wx DVr (fun x y H Q => y = .non ∧ Q (.bl (decide (x = .non))) H) oIsN := fun P ρ σ H x y Q d1 d2 k e r h1 h2 ⟨eb, kk⟩ hk hx => by
  subst eb
  exact ⟨db_non h2, by rw [db_isN h1]; exact hk _ kk _ H r.same (by simp only [DVr, DV])⟩
theorem does_notN : Does2 G Wx DVr (fun x y H Q => y = .non ∧ Q (.bl (!decide (x = .non))) H) oNotN := fun P ρ σ H x y Q d1 d2 k e r h1 h2 ⟨eb, kk⟩ hk hx => by
  subst eb
  exact ⟨db_non h2, by rw [db_isN h1]; exact hk _ kk _ H r.same (by simp only [DVr, DV])⟩
/-- x is True, x is False: of a bool -/
def oIsB : Op2 := fun a b k _ => match a, b with
  | .bl x, .bl y => k (.bl (decide (x = y)))
  | _, _ => False
def oIsNotB : Op2 := fun a b k _ => match a, b with
  | .bl x, .bl y => k (.bl (!decide (x = y)))
  | _, _ => False
theorem does_isB : Does2 G Wx DVr (fun x y H Q => ∃ a b, x = .bl a ∧ y = .bl b ∧ Q (.bl (decide (a = b))) H) oIsB := fun P ρ σ H x y Q d1 d2 k e r h1 h2 hf hk hx => by
  unfold oIsB at hf
  split at hf
  · exact ⟨_, _, dbl h1, dbl h2, hk _ hf _ H r.same (by simp only [DVr, DV])⟩
  · exact hf.elim
theorem does_isNotB : Does2 G Wx DVr (fun x y H Q => ∃ a b, x = .bl a ∧ y = .bl b ∧ Q (.bl (!decide (a = b))) H) oIsNotB := fun P ρ σ H x y Q d1 d2 k e r h1 h2 hf hk hx => by
  unfold oIsNotB at hf
  split at hf
  · exact ⟨_, _, dbl h1, dbl h2, hk _ hf _ H r.same (by simp only [DVr, DV])⟩
  · exact hf.elim

/-! ### subscripts, slices -/
def oIx : Op2 := fun a b k _ => match b with
  | .int i => match a with
    | .str z => z.length ≤ sizeLine ∧ ∃ c, atI z.cps.toList i = some c ∧ k (.str ⟨#[c]⟩)
    | _ => ∃ ds d, seqD a = some ds ∧ atI ds i = some d ∧ k d
  | _ => False
theorem atI_map {ds : List D} {vs : List V} {W : Wd} {Av : Addr → Prop} {H : Hp} {i : Int} {d : D} (h : DVs G W Av H ds vs) (e : atI ds i = some d) : ∃ v, atI vs i = some v ∧ DV G W Av H d v := by
  unfold atI at e ⊢
  rw [h.length]
  cases hn : ixN ds.length i with
  | none => rw [hn] at e; cases e
  | some j =>
    rw [hn] at e
    exact h.get (i := j) e
theorem does_ix (hK : G.K = X.K) : Does2 G Wx DVr (rIx X.K) oIx := fun P ρ σ H x y Q d1 d2 k e r h1 h2 hf hk hx => by
  unfold oIx at hf
  split at hf
  · rename_i i
    have ey := db_int h2
    subst ey
    have seq : (∃ ds d, seqD d1 = some ds ∧ atI ds i = some d ∧ k d) → rIx X.K x (.int i) H Q := fun ⟨ds, d, es, ed, kd⟩ => by
      obtain ⟨a, xs, rfl, q, z⟩ := dv_seq h1 es
      obtain ⟨v, ev, hv⟩ := atI_map z ed
      rcases q with q | q
      · exact .inl ⟨a, xs, i, v, rfl, rfl, by rw [← hK]; exact q, ev, hk _ kd _ H r.same hv⟩
      · exact .inr (.inl ⟨a, xs, i, v, rfl, rfl, by rw [← hK]; exact q, ev, hk _ kd _ H r.same hv⟩)
    split at hf
    · obtain ⟨hz, c, hc, kc⟩ := hf
      exact .inr (.inr ⟨_, i, c, db_str h1, rfl, hz, hc, hk _ kc _ H r.same (by simp only [DVr, DV])⟩)
    · exact seq hf
  · exact hf.elim
theorem pd_ix {a b : Expr} {pos : Pos} {r1 r2 : Rl} {w1 w2 : Nat} [s1 : Sub r1 DBr] [s2 : Sub r2 DBr] {ma mb : Mv} (hK : G.K = X.K := by rfl) (ha : PE X a (LR w1 r1 G Wx ma)) (hb : PE X b (LR w2 r2 G Wx mb)) (hs : PlainIx b := by exact fun _ _ => rfl) :
    PE X (.Subscript a b pos) (LR (w1 + w2) DVr G Wx (m2 oIx ma mb)) := peW (pe_ix ix_seq ha hb hs) fun _ _ _ => lr2 (does_ix hK)
abbrev Mo := Env → (Option Int → Prop) → (D → Prop) → Prop
def LO (w : Nat) (G : Go) (Wx : WX) (m : Mo) : TO := fun σ H Q => ∃ (P : Pt) (ρ : Env) (k : Option Int → Prop) (e : D → Prop), R G P ρ σ H ∧ m ρ k e ∧ (∀ b, k b → ∀ H', Stw w P.W H H' → Q b H') ∧ XOk w G Wx P H e
def moN : Mo := fun _ k _ => k none
def moS (m : Mv) : Mo := fun ρ k e => m ρ (fun d => ∃ i, d = .int i ∧ k (some i)) e
theorem od_none : PO X none (LO 0 G Wx moN) := ⟨fun pins s σ H Q I ⟨P, ρ, k, e, r, q, h, _⟩ => po_none.run pins s σ H Q I (h _ q H r.same)⟩
theorem od_some {e : Expr} {ma : Mv} {r1 : Rl} {w : Nat} [s1 : Sub r1 DBr] (h : PE X e (LR w r1 G Wx ma)) : PO X (some e) (LO w G Wx (moS ma)) := ⟨fun pins s σ H Q I ⟨P, ρ, k, e, r, q, hk, hx⟩ => (po_some h).run pins s σ H Q I
  ⟨P, ρ, _, e, r, q, fun d ⟨i, ed, ki⟩ v H' s z => by subst ed; exact ⟨i, db_int (H := H) (s1.sub z), hk _ ki H' s⟩, hx⟩⟩
def cutD (xs : List D) (lo hi : Option Int) : List D := (xs.drop (HT.sIx xs.length 0 lo)).take (HT.sIx xs.length xs.length hi - HT.sIx xs.length 0 lo)
def mSl (ma : Mv) (lo hi : Mo) : Mv := fun ρ k e => ma ρ (fun d => lo ρ (fun l => hi ρ (fun h => match d with
  | .tup ds => k (.tup (cutD ds l h))
  | .lst ds => k (.lst (cutD ds l h))
  | _ => False) e) e) e
def rSlS (K : PySem.W.Frag) : V → Option Int → Option Int → Hp → VK → Prop := fun x lo hi H Q => rSlA K x lo hi H Q ∨ rSlL K x lo hi H Q
theorem cutD_whole {ds : List D} {lo hi : Option Int} (h : HT.sIx ds.length 0 lo = 0 ∧ HT.sIx ds.length ds.length hi = ds.length) : cutD ds lo hi = ds := by
  unfold cutD
  rw [h.1, h.2]
  simp
theorem pd_sl {a : Expr} {lo hi : Option Expr} {p2 pos : Pos} {r1 : Rl} {w1 w2 w3 : Nat} [s1 : Sub r1 DBr] {ma : Mv} {ml mh : Mo} (hK : G.K = X.K := by rfl) (ha : PE X a (LR w1 r1 G Wx ma)) (hl : PO X lo (LO w2 G Wx ml)) (hh : PO X hi (LO w3 G Wx mh)) :
    PE X (.Subscript a (.Slice lo hi none p2) pos) (LR ((w1 + w2) + w3) DVr G Wx (mSl ma ml mh)) := peW (pe_slice (sl_tupA.or sl_list) ha hl hh) fun σ H Q ⟨P, ρ, k, e, r, q, hk, hx⟩ => by
  refine ⟨P, ρ, _, e, r, q, fun d qd v H1 st1 z1 => ?_, hx.l.l⟩
  have R1 := r.step st1
  have z1' : DBr G P H H1 d v := s1.sub z1
  clear z1
  refine ⟨P, ρ, _, e, R1, qd, fun l ql H2 st2 => ?_, hx.l.step st1⟩
  have R2 := R1.step st2
  refine ⟨P, ρ, _, e, R2, ql, fun h qh H3 st3 => ?_, hx.step (st1.trans st2)⟩
  have R3 := R2.step st3
  have z3 : DBr G P H3 H3 d v := z1'.step R1 (st2.trans st3).toStp
  clear z1'
  have hk3 : ∀ d, k d → ∀ v H', Stw 0 P.W H3 H' → DVr G P H3 H' d v → Q v H' := fun d kd v H' s z => hk d kd v H' (((st1.trans st2).trans st3).trans s) z
  split at qh
  · rename_i ds
    obtain ⟨a, xs, rfl, q, z⟩ := db_tup z3
    refine .inl ⟨a, xs, rfl, by rw [← hK]; exact q, fun hw => ?_, fun hw p hp => ?_⟩
    · rw [z.length] at hw
      rw [cutD_whole hw] at qh
      exact hk3 _ qh _ H3 R3.same (dv_tup z3 rfl)
    · have zc : DVs G P.W P.avo H3 (cutD ds l h) (cutV xs l h) := by
        unfold cutD cutV
        rw [z.length]
        exact (z.drop _).take _
      obtain ⟨s, w⟩ := dv_newT R3 hp zc
      exact hk3 _ qh _ _ s w
  · rename_i ds
    obtain ⟨a, xs, rfl, q, z⟩ := db_lst z3
    refine .inr ⟨a, xs, rfl, by rw [← hK]; exact q, fun p hp => ?_⟩
    have zc : DVs G P.W P.avo H3 (cutD ds l h) (cutV xs l h) := by
      unfold cutD cutV
      rw [z.length]
      exact (z.drop _).take _
    obtain ⟨s, w⟩ := dv_newL R3 hp zc
    exact hk3 _ qh _ _ s (Sub.sub w)
  · exact qh.elim

/-! ### built-ins of one argument -/
def oLen : Op1 := fun a k _ => match a with
  | .str z => z.length ≤ sizeLine ∧ k (.int z.length)
  | _ => ∃ ds, seqD a = some ds ∧ k (.int ds.length)
def rLen (K : PySem.W.Frag) : List V → Hp → VK → Prop := fun xs H Q => (∃ p ys, xs = [.ref p] ∧ (SqL K H p ys ∨ SqT K H p ys) ∧ Q (.int ys.length) H) ∨ ∃ z, xs = [.str z] ∧ z.length ≤ sizeLine ∧ Q (.int z.length) H
theorem call_lenD : CallR X (.builtin "len") (rLen X.K) := call_len_seq.or call_len_str
theorem does_len (hK : G.K = X.K) : OpB G Wx DVr (rLen X.K) oLen := fun P ρ σ H v Q d k e r h hf hk hx => by
  unfold oLen at hf
  have seq : (∃ ds, seqD d = some ds ∧ k (.int ds.length)) → rLen X.K [v] H Q := fun ⟨ds, es, kd⟩ => by
    obtain ⟨a, xs, rfl, q, z⟩ := dv_seq h es
    have kd' : k (.int xs.length) := by rw [z.length]; exact kd
    exact .inl ⟨a, xs, rfl, by rw [← hK]; exact q, hk _ kd' _ H r.same (by simp only [DVr, DV])⟩
  split at hf
  · exact .inr ⟨_, by rw [db_str h], hf.1, hk _ hf.2 _ H r.same (by simp only [DVr, DV])⟩
  · exact seq hf
def oTuple : Op1 := fun a k _ => ∃ ds, seqD a = some ds ∧ k (.tup ds)
theorem does_tuple (hK : G.K = X.K) : OpB G Wx DVr (fun xs H Q => ∃ p ys, xs = [.ref p] ∧ ((SqL X.K H p ys ∧ ∀ l, H l = none → Q (.ref l) (upd H l (.tup ys))) ∨ (SqT X.K H p ys ∧ Q (.ref p) H))) oTuple := fun P ρ σ H v Q d k e r h ⟨ds, es, kd⟩ hk hx => by
  cases d with
  | lst ys =>
    cases es
    obtain ⟨a, xs, rfl, q, z⟩ := db_lst h
    refine ⟨a, xs, rfl, .inl ⟨by rw [← hK]; exact q, fun p hp => ?_⟩⟩
    obtain ⟨s, w⟩ := dv_newT r hp z
    exact hk _ kd _ _ s w
  | tup ys =>
    cases es
    obtain ⟨a, xs, rfl, q, z⟩ := db_tup h
    exact ⟨a, xs, rfl, .inr ⟨by rw [← hK]; exact q, hk _ kd _ H r.same (dv_tup h rfl)⟩⟩
  | _ => cases es
def oList : Op1 := fun a k _ => ∃ ds, seqD a = some ds ∧ k (.lst ds)
theorem does_list (hK : G.K = X.K) : OpB G Wx FVr (fun xs H Q => ∃ p ys, xs = [.ref p] ∧ (SqL X.K H p ys ∨ SqT X.K H p ys) ∧ ∀ l, H l = none → Q (.ref l) (upd H l (.lst ys))) oList := fun P ρ σ H v Q d k e r h ⟨ds, es, kd⟩ hk hx => by
  obtain ⟨a, xs, rfl, q, z⟩ := dv_seq h es
  refine ⟨a, xs, rfl, by rw [← hK]; exact q, fun p hp => ?_⟩
  obtain ⟨s, w⟩ := dv_newL r hp z
  exact hk _ kd _ _ s w
/-- all, any of a list of bools -/
def blsD : List D → Option (List Bool)
  | [] => some []
  | .bl b :: r => (blsD r).map (b :: ·)
  | _ :: _ => none
theorem bls_vals {W : Wd} {Av : Addr → Prop} {H : Hp} : ∀ {ds : List D} {vs : List V} {bs : List Bool}, DVs G W Av H ds vs → blsD ds = some bs → vs = bs.map V.bl
  | [], _, _, h, e => by simp only [DVs] at h; simp only [blsD] at e; cases e; subst h; rfl
  | d :: ds, _, bs, h, e => by
    simp only [DVs] at h
    obtain ⟨v, r, rfl, h1, h2⟩ := h
    cases d with
    | bl b =>
      simp only [blsD] at e
      cases hb : blsD ds with
      | none => rw [hb] at e; cases e
      | some cs =>
        rw [hb] at e
        cases e
        simp only [DV] at h1
        subst h1
        rw [bls_vals h2 hb]
        rfl
    | _ => simp only [blsD] at e; cases e
def oAll : Op1 := fun a k _ => ∃ ds bs, a = .lst ds ∧ blsD ds = some bs ∧ k (.bl (bs.all id))
def oAny : Op1 := fun a k _ => ∃ ds bs, a = .lst ds ∧ blsD ds = some bs ∧ k (.bl (bs.any id))
theorem does_all (hK : G.K = X.K) : OpB G Wx DVr (rAll X.K) oAll := fun P ρ σ H v Q d k e r h ⟨ds, bs, ed, eb, kd⟩ hk hx => by
  subst ed
  obtain ⟨a, xs, rfl, q, z⟩ := db_lst h
  have ev := bls_vals z eb
  subst ev
  exact ⟨a, bs, rfl, by rw [← hK]; exact q, hk _ kd _ H r.same (by simp only [DVr, DV])⟩
theorem does_any (hK : G.K = X.K) : OpB G Wx DVr (rAny X.K) oAny := fun P ρ σ H v Q d k e r h ⟨ds, bs, ed, eb, kd⟩ hk hx => by
  subst ed
  obtain ⟨a, xs, rfl, q, z⟩ := db_lst h
  have ev := bls_vals z eb
  subst ev
  exact ⟨a, bs, rfl, by rw [← hK]; exact q, hk _ kd _ H r.same (by simp only [DVr, DV])⟩
/-- int(n), abs(n) -/
def oInt : Op1 := fun a k _ => match a with
  | .int i => k (.int i)
  | .bl b => k (.int (if b then 1 else 0))
  | _ => False
theorem does_int : OpB G Wx DVr (fun xs H Q => (∃ i, xs = [.int i] ∧ Q (.int i) H) ∨ ∃ k, xs = [.bl k] ∧ Q (.int (if k then 1 else 0)) H) oInt := fun P ρ σ H v Q d k e r h hf hk hx => by
  unfold oInt at hf
  split at hf
  · exact .inl ⟨_, by rw [db_int h], hk _ hf _ H r.same (by simp only [DVr, DV])⟩
  · exact .inr ⟨_, by rw [dbl h], hk _ hf _ H r.same (by simp only [DVr, DV])⟩
  · exact hf.elim
def oAbs : Op1 := fun a k _ => match a with
  | .int i => k (.int (if i < 0 then -i else i))
  | _ => False
theorem does_abs : OpB G Wx DVr (fun xs H Q => ∃ i, xs = [.int i] ∧ Q (.int (if i < 0 then -i else i)) H) oAbs := fun P ρ σ H v Q d k e r h hf hk hx => by
  unfold oAbs at hf
  split at hf
  · exact ⟨_, by rw [db_int h], hk _ hf _ H r.same (by simp only [DVr, DV])⟩
  · exact hf.elim
/-- min(a, b), max(a, b) of ints -/
def fMin : Fd := fun ds k _ => match ds with
  | [.int i, .int j] => k (.int (if j < i then j else i))
  | _ => False
def fMax : Fd := fun ds k _ => match ds with
  | [.int i, .int j] => k (.int (if j > i then j else i))
  | _ => False
theorem dvs2 {W : Wd} {Av : Addr → Prop} {H : Hp} {i j : Int} {vs : List V} (h : DVs G W Av H [.int i, .int j] vs) : vs = [.int i, .int j] := by
  simp only [DVs, DV] at h
  obtain ⟨v, r, rfl, rfl, u, r2, rfl, rfl, rfl⟩ := h
  rfl
theorem does_min : OpA G Wx DVr (fun xs H Q => ∃ i j, xs = [.int i, .int j] ∧ Q (.int (if j < i then j else i)) H) fMin := fun P ρ σ H vs Q ds k e r h hf hk hx => by
  unfold fMin at hf
  split at hf
  · exact ⟨_, _, dvs2 h, hk _ hf _ H r.same (by simp only [DVr, DV])⟩
  · exact hf.elim
theorem does_max : OpA G Wx DVr (fun xs H Q => ∃ i j, xs = [.int i, .int j] ∧ Q (.int (if j > i then j else i)) H) fMax := fun P ρ σ H vs Q ds k e r h hf hk hx => by
  unfold fMax at hf
  split at hf
  · exact ⟨_, _, dvs2 h, hk _ hf _ H r.same (by simp only [DVr, DV])⟩
  · exact hf.elim
end
end DL
set_option Elab.async false
set_option linter.all false
set_option maxRecDepth 100000
set_option maxHeartbeats 4000000
namespace DL
open PySem PySem.Spec L2

section
variable {X : Cx} {G : Go} {Wx : WX} {e a b tg : Expr} {rel r1 r2 : Rl} {pos cpos apos p : Pos} {ma mb : Mv} {w w1 w2 : Nat}

/-! ### expressions that change an own object -/
abbrev Mx := Env → (D → Env → Prop) → (D → Prop) → Prop
def LX (w : Nat) (G : Go) (X : WX) (m : Mx) : TE := fun σ H Q => ∃ (P : Pt) (ρ : Env) (k : D → Env → Prop) (e : D → Prop), R G P ρ σ H ∧ m ρ k e ∧
  (∀ d ρ', k d ρ' → ∀ v H', R G P ρ' σ H' → Tn w P.W H H' → DV G P.W P.avo H' d v → Q v H') ∧ XOk w G X P H e
def xV (m : Mv) : Mx := fun ρ k e => m ρ (fun d => k d ρ) e
/-- an expression that changes nothing -/
theorem xd_of [s1 : Sub r1 DVr] (h : PE X e (LR w r1 G Wx ma)) : PE X e (LX w G Wx (xV ma)) := peW h fun σ H Q ⟨P, ρ, k, e, r, q, hk, hx⟩ =>
  ⟨P, ρ, _, e, r, q, fun d kd v H' s z => hk d ρ kd v H' (r.step s) s.tn (s1.sub z), hx⟩
/-- x.pop() -/
def xPop (i : Nat) : Mx := fun ρ k _ => ∃ ds d, ρ[i]? = some (.own (.lst (ds ++ [d]))) ∧ k d (ρ.set i (.own (.lst ds)))
theorem own_get {P : Pt} {ρ : Env} {σ : St} {H : Hp} {i : Nat} {ds : List D} (r : R G P ρ σ H) (h : ρ[i]? = some (.own (.lst ds))) : ∃ a xs, P.O i = some a ∧ σ[i]? = some (some (.ref a)) ∧ H a = some (.lst xs) ∧ DVs G P.W P.avo H ds xs := by
  obtain ⟨a, e1, e2, xs, q, z⟩ := r.sl i _ h
  exact ⟨a, xs, e1, e2, q, z⟩
/-- the data at hand outlive the own object's change -/
theorem R.keepOwn {P : Pt} {ρ : Env} {σ : St} {H : Hp} {i : Nat} {a : Addr} {o : HO} (r : R G P ρ σ H) (e : P.O i = some a) : Keep P.avo H (upd H a o) := fun b u eb nb => by
  rw [upd_ne (fun z => nb (by rw [z]; exact .inr ⟨i, e⟩))]; exact eb
theorem DVs.snoc {W : Wd} {Av : Addr → Prop} {H : Hp} {ds : List D} {d : D} {xs : List V} (h : DVs G W Av H (ds ++ [d]) xs) : ∃ v, xs = xs.dropLast ++ [v] ∧ xs[xs.length - 1]? = some v ∧ DV G W Av H d v ∧ DVs G W Av H ds xs.dropLast := by
  have hl := h.length
  rw [List.length_append, List.length_singleton] at hl
  obtain ⟨v, e1, e2⟩ := h.get (i := ds.length) (d := d) (by rw [List.getElem?_append_right (Nat.le_refl _)]; simp)
  have e3 : xs[xs.length - 1]? = some v := by rw [hl]; exact e1
  have hne : xs ≠ [] := fun z => by rw [z] at hl; simp at hl
  have e4 : xs.getLast? = some v := by rw [List.getLast?_eq_getElem?]; exact e3
  have e5 : xs = xs.dropLast ++ [v] := by
    have h1 := List.dropLast_concat_getLast hne
    have h2 : some (xs.getLast hne) = some v := by rw [← List.getLast?_eq_some_getLast hne]; exact e4
    rw [Option.some.inj h2] at h1
    exact h1.symm
  refine ⟨v, e5, e3, e2, ?_⟩
  have ht := h.take ds.length
  rw [List.take_left'] at ht
  · have : xs.take ds.length = xs.dropLast := by rw [List.dropLast_eq_take, hl]; rfl
    rw [this] at ht
    exact ht
  · rfl
theorem xd_pop (i : Nat) {x : Str} {px : Pos} (hN : X.N[i]? = some x := by rfl) (hv : Vis X.env.scope x := by first | exact Or.inl rfl | exact Or.inr (Or.inl rfl) | exact Or.inr (Or.inr rfl)) (hd : (x == ("__debug__" : Str)) = false := by decide)
    (hcd : (x == ("__classdict__" : Str)) = false := by decide) (hbase : attributeBase (.Name x px) "pop" X.env (eval (.Name x px) X.env) = eval (.Name x px) X.env := by rfl) (hline : (apos.endLine == cpos.line) = true := by rfl) :
    PE X (.Call (.Attribute (.Name x px) "pop" apos) [] [] cpos) (LX 0 G Wx (xPop i)) :=
  peW (pe_bm0 PySem.F.plainAttrs_list PySem.F.slot_list_pop PySem.F.type_list_pop mt_pop (pe_var hN hv hd hcd) hbase hline) fun σ H Q ⟨P, ρ, k, e, r, ⟨ds, d, hi, kd⟩, hk, hx⟩ => by
  obtain ⟨a, xs, eO, eσ, eH, z⟩ := own_get r hi
  obtain ⟨v, e5, e3, e2, z2⟩ := z.snoc
  have kp := r.keepOwn (o := .lst xs.dropLast) eO
  refine ⟨.ref a, eσ, .inl ⟨rfl, xs, SqL.of eH⟩, a, xs, v, rfl, rfl, eH, e3, hk d _ kd v _ (r.mut hi eO ⟨_, upd_same, z2.keep kp⟩) (Nat.le_of_eq (r.tnO (r.nS eO))) (e2.keep kp)⟩
/-- x.pop(e) -/
def xPopAt (i : Nat) (m : Mv) : Mx := fun ρ k e => ∃ ds, ρ[i]? = some (.own (.lst ds)) ∧ m ρ (fun d => ∃ (j : Nat) (y : D), d = .int j ∧ j < 2 ^ 63 ∧ ds[j]? = some y ∧ k y (ρ.set i (.own (.lst (ds.eraseIdx j))))) e
theorem xd_popAt (i : Nat) {x : Str} {px : Pos} [s1 : Sub r1 DVr] (he : PE X e (LR w r1 G Wx ma)) (hN : X.N[i]? = some x := by rfl) (hv : Vis X.env.scope x := by first | exact Or.inl rfl | exact Or.inr (Or.inl rfl) | exact Or.inr (Or.inr rfl)) (hd : (x == ("__debug__" : Str)) = false := by decide)
    (hcd : (x == ("__classdict__" : Str)) = false := by decide) (hbase : attributeBase (.Name x px) "pop" X.env (eval (.Name x px) X.env) = eval (.Name x px) X.env := by rfl)
    (hfew : ((backTo cpos (starEach (e :: []) X.env)).all (fun x => !x.1) && (backToKw cpos (keywordEach [] X.env)).all (fun x => x.1.isSome)
      && decide ((e :: []).length + ([] : List Keyword).length + (if ([] : List Keyword).isEmpty then 0 else 1) < 30)) = true := by rfl)
    (hline : (apos.endLine == cpos.line) = true := by rfl) (hs : starEach (e :: []) X.env = (false, eval e X.env) :: starEach [] X.env := by rfl) (hplain : (backTo cpos (starEach [] X.env)).any (·.1) = false := by rfl) :
    PE X (.Call (.Attribute (.Name x px) "pop" apos) [e] [] cpos) (LX w G Wx (xPopAt i ma)) :=
  peW (pe_bm PySem.F.plainAttrs_list PySem.F.slot_list_pop PySem.F.type_list_pop mt_popAt (pe_var hN hv hd hcd) (pa_cons he pa_nil hs) hbase hfew hline hs hplain) fun σ H Q ⟨P, ρ, k, e, r, ⟨ds, hi, q⟩, hk, hx⟩ => by
  obtain ⟨a, xs, eO, eσ, eH, z⟩ := own_get r hi
  refine ⟨.ref a, eσ, .inl ⟨rfl, xs, SqL.of eH⟩, P, ρ, _, e, r, q, fun d ⟨j, y, ed, hj, hy, kd⟩ v H1 s zv => ?_, hx⟩
  subst ed
  have r1 := r.step s
  obtain ⟨a', xs1, eO1, eσ1, eH1, z1⟩ := own_get r1 hi
  have e0 : a' = a := by rw [eσ] at eσ1; cases eσ1; rfl
  subst e0
  have ev : v = .int j := by
    have zv : DV G P.W P.avo H1 (.int j) v := s1.sub zv
    simpa only [DV] using zv
  subst ev
  obtain ⟨u, hu, zu⟩ := z1.get hy
  have hlt : j < xs1.length := (List.getElem?_eq_some_iff.mp hu).1
  have kp := r1.keepOwn (o := .lst (xs1.eraseIdx j)) eO1
  refine ⟨a', xs1, (j : Int), j, u, rfl, rfl, eH1, by omega, by omega, ?_, hu, hk y _ kd u _ (r1.mut hi eO1 ⟨_, upd_same, (z1.eraseIdx j).keep kp⟩) (by have t := s.tn; unfold Tn; rw [r1.tnO (r1.nS eO1)]; exact t) (zu.keep kp)⟩
  have h := seqIndex_of (k := (j : Int)) (n := xs1.length) (by omega) (by omega)
  rw [h]
  rfl

/-! ### statements that change an own object -/
/-- x.append(e) -/
def sAppend (i : Nat) (m : Mx) : Ms := fun ρ E => ∃ ds, ρ[i]? = some (.own (.lst ds)) ∧ m ρ (fun d ρ' => ρ'[i]? = some (.own (.lst ds)) ∧ ds.length < sizeLine ∧ E.nx (ρ'.set i (.own (.lst (ds ++ [d]))))) E.ex
theorem pa_one {t : TE} (ha : PE X e t) (hs : starEach (e :: []) X.env = (false, eval e X.env) :: starEach [] X.env := by rfl) : PA X [e] (tCons t tNil) := pa_cons ha pa_nil hs
theorem sd_append (i : Nat) {x : Str} {px spos : Pos} {mx : Mx} (he : PE X e (LX w G Wx mx)) (hN : X.N[i]? = some x := by rfl) (hv : Vis X.env.scope x := by first | exact Or.inl rfl | exact Or.inr (Or.inl rfl) | exact Or.inr (Or.inr rfl)) (hd : (x == ("__debug__" : Str)) = false := by decide)
    (hcd : (x == ("__classdict__" : Str)) = false := by decide) (hbase : attributeBase (.Name x px) "append" X.env (eval (.Name x px) X.env) = eval (.Name x px) X.env := by rfl)
    (hfew : ((backTo cpos (starEach (e :: []) X.env)).all (fun x => !x.1) && (backToKw cpos (keywordEach [] X.env)).all (fun x => x.1.isSome)
      && decide ((e :: []).length + ([] : List Keyword).length + (if ([] : List Keyword).isEmpty then 0 else 1) < 30)) = true := by rfl)
    (hline : (apos.endLine == cpos.line) = true := by rfl) (hs : starEach (e :: []) X.env = (false, eval e X.env) :: starEach [] X.env := by rfl) (hplain : (backTo cpos (starEach [] X.env)).any (·.1) = false := by rfl)
    (hsw : swapsWith (.Call (.Attribute (.Name x px) "append" apos) [e] [] cpos) none spos.line X.env = pure false := by rfl) :
    PS X (.Expr (.Call (.Attribute (.Name x px) "append" apos) [e] [] cpos) spos) (LS w G Wx (sAppend i mx)) :=
  psW (ps_expr (pe_bm PySem.F.plainAttrs_list PySem.F.slot_list_append PySem.F.type_list_append mt_append (pe_var hN hv hd hcd) (pa_one he hs) hbase hfew hline hs hplain) hsw) fun D σ H ⟨P, ρ, E, r, ⟨ds, hi, q⟩, c1, c2, c3, c4, c5⟩ => by
  obtain ⟨a, xs, eO, eσ, eH, z⟩ := own_get r hi
  refine ⟨.ref a, eσ, .inl ⟨rfl, xs, SqL.of eH⟩, P, ρ, _, E.ex, r, q, fun d ρ' ⟨hi', hl, kd⟩ v H1 r1 t1 zv => ?_, .of r c5⟩
  obtain ⟨a', xs1, eO1, eσ1, eH1, z1⟩ := own_get r1 hi'
  have e0 : a' = a := by rw [eσ] at eσ1; cases eσ1; rfl
  subst e0
  have kp := r1.keepOwn (o := .lst (xs1 ++ [v])) eO1
  exact ⟨a', xs1, v, rfl, rfl, eH1, by rw [z1.length]; exact hl, c1 _ kd P.O σ _ (r1.mut hi' eO1 ⟨_, upd_same, (z1.append (DVs.cons zv DVs.nil)).keep kp⟩) (by unfold Tn at *; rw [r1.tnO (r1.nS eO1)]; exact t1)⟩
/-- x.extend(e), e a new list -/
def sExtend (i : Nat) (m : Mv) : Ms := fun ρ E => ∃ ds, ρ[i]? = some (.own (.lst ds)) ∧ m ρ (fun d => ∃ es, d = .lst es ∧ ds.length + es.length ≤ sizeLine ∧ E.nx (ρ.set i (.own (.lst (ds ++ es))))) E.ex
theorem sd_extend (i : Nat) {x : Str} {px spos : Pos} (he : PE X e (LR w FVr G Wx ma)) (hN : X.N[i]? = some x := by rfl) (hv : Vis X.env.scope x := by first | exact Or.inl rfl | exact Or.inr (Or.inl rfl) | exact Or.inr (Or.inr rfl)) (hd : (x == ("__debug__" : Str)) = false := by decide)
    (hcd : (x == ("__classdict__" : Str)) = false := by decide) (hbase : attributeBase (.Name x px) "extend" X.env (eval (.Name x px) X.env) = eval (.Name x px) X.env := by rfl)
    (hfew : ((backTo cpos (starEach (e :: []) X.env)).all (fun x => !x.1) && (backToKw cpos (keywordEach [] X.env)).all (fun x => x.1.isSome)
      && decide ((e :: []).length + ([] : List Keyword).length + (if ([] : List Keyword).isEmpty then 0 else 1) < 30)) = true := by rfl)
    (hline : (apos.endLine == cpos.line) = true := by rfl) (hs : starEach (e :: []) X.env = (false, eval e X.env) :: starEach [] X.env := by rfl) (hplain : (backTo cpos (starEach [] X.env)).any (·.1) = false := by rfl)
    (hsw : swapsWith (.Call (.Attribute (.Name x px) "extend" apos) [e] [] cpos) none spos.line X.env = pure false := by rfl) :
    PS X (.Expr (.Call (.Attribute (.Name x px) "extend" apos) [e] [] cpos) spos) (LS w G Wx (sExtend i ma)) :=
  psW (ps_expr (pe_bm PySem.F.plainAttrs_list PySem.F.slot_list_extend PySem.F.type_list_extend mt_extend (pe_var hN hv hd hcd) (pa_one he hs) hbase hfew hline hs hplain) hsw) fun D σ H ⟨P, ρ, E, r, ⟨ds, hi, q⟩, c1, c2, c3, c4, c5⟩ => by
  obtain ⟨a, xs, eO, eσ, eH, z⟩ := own_get r hi
  refine ⟨.ref a, eσ, .inl ⟨rfl, xs, SqL.of eH⟩, P, ρ, _, E.ex, r, q, fun d ⟨es, ed, hl, kd⟩ v H1 s ⟨p, ev, hn, ht, hav, ho⟩ => ?_, .of r c5⟩
  subst ed ev
  obtain ⟨ys, eH2, z2⟩ := ho
  have r1 := r.step s
  obtain ⟨a', xs1, eO1, eσ1, eH1, z1⟩ := own_get r1 hi
  have e0 : a' = a := by rw [eσ] at eσ1; cases eσ1; rfl
  subst e0
  have z2' : DVs G P.W P.avo H1 es ys := z2.sub fun a h _ => .inl h
  have kp := r1.keepOwn (o := .lst (xs1 ++ ys)) eO1
  exact ⟨a', p, xs1, ys, rfl, rfl, eH1, eH2, by rw [z1.length, z2'.length]; exact hl, c1 _ kd P.O σ _ (r1.mut hi eO1 ⟨_, upd_same, (z1.append z2').keep kp⟩) (by have t := s.tn; unfold Tn; rw [r1.tnO (r1.nS eO1)]; exact t)⟩
/-- target = e, e changes an own object -/
def sAsgX (m : Mx) (t : Tgt) : Ms := fun ρ E => m ρ (fun d ρ' => t d ρ' E.nx) E.ex
theorem sd_asgX {vs : List Nat} {t : Tgt} {mx : Mx} (he : PE X e (LX w G Wx mx)) (hg : PG X tg (LG G vs t)) (hs : swapsWithSole [tg] e pos.line X.env = pure false := by rfl) (hw : swappedStores [tg] e X.env = pure none := by rfl)
    (h1 : (assignEach [tg] X.env).map (·.2) = [assign tg X.env] := by rfl) : PS X (.Assign [tg] e pos) (LS w G Wx (sAsgX mx t)) := psW (ps_asg he hg hs hw h1) fun D σ H ⟨P, ρ, E, r, q, c1, c2, c3, c4, c5⟩ =>
  ⟨P, ρ, _, E.ex, r, q, fun d ρ' k v H' r' t z => ⟨P, ρ', d, E.nx, r', z, k, fun ρ2 k2 σ' _ r2 => c1 ρ2 k2 P.O σ' H' r2 t⟩, .of r c5⟩
/-- x = e -/
def sSetX (i : Nat) (m : Mx) : Ms := fun ρ E => m ρ (fun d ρ' => E.nx (ρ'.set i (.dat d))) E.ex
theorem sd_setX {i : Nat} {x : Str} {pos' : Pos} {mx : Mx} (hN : X.N.Nodup) (he : PE X e (LX w G Wx mx)) (hi : X.N[i]? = some x := by rfl) (hx : Loc X.env.scope x := by first | exact .inl rfl | exact .inr rfl) (hs : swapsWith e (some (.Name x pos')) pos.line X.env = pure false := by rfl)
    (hf : X.fn x = true ∨ X.env.scope.names.lookup x = some .local := by first | exact .inl rfl | exact .inr rfl | assumption) : PS X (.Assign [.Name x pos'] e pos) (LS w G Wx (sSetX i mx)) := psW (ps_set hN hi hx he hs hf) fun D σ H ⟨P, ρ, E, r, q, c1, c2, c3, c4, c5⟩ =>
  ⟨P, ρ, _, E.ex, r, q, fun d ρ' k v H' r' t z => c1 _ k P.O _ H' (r'.setDat z) t, .of r c5⟩
end
end DL
set_option Elab.async false
set_option linter.all false
set_option maxRecDepth 100000
set_option maxHeartbeats 4000000
namespace DL
open PySem PySem.Spec L2

theorem hu1 {k : Nat} {A : Around} (r : Room k A) : A.units + 1 < cLine := by have := r.un; omega
theorem hu64 {k : Nat} {A : Around} (r : Room k A) : A.units + 64 < cLine := r.units
theorem hu65 {k : Nat} {A : Around} (r : Room k A) : A.units + 65 < cLine := by have := r.un; omega

/-! ### a def as others call it -/
def Cal (P : Program) (w : World) (K : PySem.W.Frag) (mg : Str → Option Value) (base : Heap) (k : Nat) (x : Str) (ps : List Str) (sp : Sp) : Prop :=
  ∃ (f : Addr) (fd : FuncData), FnOk P w K mg base CX0 k f fd ps sp ∧ mg x = some (.ref f) ∧ PySem.W.keepIn K (.ref f) = true ∧ Binds K fd ps []
theorem Cal.imp {P : Program} {w : World} {K : PySem.W.Frag} {mg : Str → Option Value} {base : Heap} {k : Nat} {x : Str} {ps : List Str} {sp sp' : Sp} (c : Cal P w K mg base k x ps sp) (h : ∀ vs H Q E, sp' vs H Q E → sp vs H Q E) : Cal P w K mg base k x ps sp' := by
  obtain ⟨f, fd, F, r⟩ := c
  exact ⟨f, fd, F.imp h, r⟩
section
variable {X : Cx} {G : Go} {Wx : WX} {e a b tg : Expr} {es : List Expr} {rel r1 r2 : Rl} {pos cpos apos p : Pos} {ma mb : Mv} {mas : Ma} {w w1 w2 : Nat}
theorem pd_C {k n : Nat} {x : Str} {ps : List Str} {g : Fd} (c : Cal X.prog X.w X.K X.mg X.base k x ps (spD G n w2 g)) (hr : Room k X.A) (ha : PA X (e :: es) (LA w1 G Wx mas)) (hg : Gl X x := by rfl) (hdb : (x == ("__debug__" : Str)) = false := by decide) (he : starEach (e :: es) X.env = (false, eval e X.env) :: starEach es X.env := by rfl) (hpl : (backTo pos (starEach es X.env)).any (·.1) = false := by rfl) :
    PE X (.Call (.Name x p) (e :: es) [] pos) (LR (w1 + w2) DVr G Wx (mCall n g [] mas)) := by
  obtain ⟨f, fd, F, hm, hk, hb⟩ := c
  exact pd_call [] F hr hg hm hk hb .nil Dfl.nil ha hdb he hpl

/-! ### - -/
def oNeg : Op1 := fun a k _ => match a with
  | .int i => k (.int (-i))
  | _ => False
theorem does_neg : Does1 G Wx DVr (rU fun i => .int (-i)) oNeg := fun P ρ σ H x Q d k e r h hf hk hx => by
  unfold oNeg at hf
  split at hf
  · exact ⟨_, db_int h, hk _ hf _ H r.same (by simp only [DVr, DV])⟩
  · exact hf.elim

/-! ### isinstance -/
def tyN : D → Option String
  | .non => some "NoneType"
  | .bl _ => some "bool"
  | .int _ => some "int"
  | .str _ => some "str"
  | .tup _ => some "tuple"
  | .lst _ => some "list"
  | .dct _ _ => some "dict"
  | _ => none
def isTy (a T : String) : Bool := a == T || (a == "bool" && T == "int")
def okT (T : String) : Bool := ["NoneType", "bool", "int", "str", "tuple", "list", "dict"].all fun a => decide (kitB a T = some (isTy a T))
theorem tyX_of {P : Pt} {H : Hp} {d : D} {v : V} {a : String} (h : DBr G P H H d v) (e : tyN d = some a) : TyX G.K H v (.type a) := by
  rcases h with h | ⟨i, p, _, rfl, h⟩
  · cases d with
    | non => simp only [DV] at h; subst h; cases e; exact .base .non
    | bl _ => simp only [DV] at h; subst h; cases e; exact .base (.bl _)
    | int _ => simp only [DV] at h; subst h; cases e; exact .base (.int _)
    | str _ => simp only [DV] at h; subst h; cases e; exact .base (.str _)
    | tup _ =>
      simp only [DV] at h
      obtain ⟨q, xs, rfl, ⟨_, z | ⟨o, z⟩⟩ | ⟨o, its, n, z, c, _⟩, _⟩ := h
      · cases e; exact .base (.tup z)
      · cases e; exact .fTuple z
      · cases e; exact .kTuple z c
    | lst _ =>
      simp only [DV] at h
      obtain ⟨q, xs, rfl, ⟨_, z | ⟨o, z⟩⟩ | ⟨o, its, n, z, c, _⟩, _⟩ := h
      · cases e; exact .base (.lst z)
      · cases e; exact .base (.frz z)
      · cases e; exact .kList z c
    | dct _ _ =>
      simp only [DV] at h
      obtain ⟨q, xs, rfl, _, z | ⟨o, z⟩, _⟩ := h
      · cases e; exact .base (.dK z)
      · cases e; exact .fDict z
    | _ => cases e
  · cases d with
    | lst _ => obtain ⟨xs, q, _⟩ := h; cases e; exact .base (.lst q)
    | dct _ _ => obtain ⟨xs, q, _⟩ := h; cases e; exact .base (.dK q)
    | _ => exact h.elim
def oIsi (T : String) : Op1 := fun d k _ => ∃ a, tyN d = some a ∧ k (.bl (isTy a T))
def oIsi2 (T U : String) : Op1 := fun d k _ => ∃ a, tyN d = some a ∧ k (.bl (isTy a T || isTy a U))
theorem tyN_mem {d : D} {a : String} (e : tyN d = some a) : a ∈ ["NoneType", "bool", "int", "str", "tuple", "list", "dict"] := by
  cases d <;> simp only [tyN] at e <;> cases e <;> simp
theorem kit_d {d : D} {a T : String} {K : PySem.W.Frag} (h : okT T = true) (e : tyN d = some a) : PySem.W.kitOne K (.type a) (.type T) = some (isTy a T) := by
  have := List.all_eq_true.mp h a (tyN_mem e)
  exact kit_ty (of_decide_eq_true this)
/-- isinstance(e, T) -/
theorem pd_isi [s1 : Sub r1 DBr] (T : String) {x : Str} {p1 p2 : Pos} (hm : X.mg "isinstance" = none) (hT : X.mg x = none) (hok : okT T = true) (ha : PE X e (LR w r1 G Wx ma)) (hK : G.K = X.K := by rfl) (hg : Gl X "isinstance" := by rfl) (hgT : Gl X x := by rfl) (hbT : bootBuiltins x = some (.type T) := by decide +kernel)
    (hnT : x ≠ "__name__" := by decide) (hdT : (x == ("__debug__" : Str)) = false := by decide) (he : starEach [e, .Name x p2] X.env = (false, eval e X.env) :: starEach [.Name x p2] X.env := by rfl) (he2 : starEach [.Name x p2] X.env = (false, eval (.Name x p2) X.env) :: starEach [] X.env := by rfl) (hpl : (backTo pos (starEach [.Name x p2] X.env)).any (·.1) = false := by rfl) :
    PE X (.Call (.Name "isinstance" p1) [e, .Name x p2] [] pos) (LR w DVr G Wx (m1 (oIsi T) ma)) :=
  peW (pe_callB call_isi hg hm (by decide +kernel) (pa_cons ha (pa_cons (pe_bltn (v := .ty T) hgT hT hbT rfl hnT hdT) pa_nil he2) he) (by decide) (by decide) he hpl) fun σ H Q ⟨P, ρ, k, e, r, q, hk, hx⟩ =>
  ⟨P, ρ, _, e, r, q, fun d ⟨t, et, kd⟩ v H1 s z => ⟨v, .ty T, .type t, .type T, isTy t T, rfl, .ty T, by rw [← hK]; exact tyX_of (show DBr G P H H1 d v from s1.sub z) et, kit_d hok et, hk _ kd _ H1 s (by simp only [DVr, DV])⟩, hx⟩
/-- isinstance(e, (T, U)) -/
theorem pd_isi2 [s1 : Sub r1 DBr] (T U : String) {x y : Str} {p1 p2 p3 p4 : Pos} {tk} (hm : X.mg "isinstance" = none) (hT : X.mg x = none) (hU : X.mg y = none) (hok : okT T = true) (hokU : okT U = true) (ha : PE X e (LR w r1 G Wx ma)) (hK : G.K = X.K := by rfl) (hg : Gl X "isinstance" := by rfl) (hgT : Gl X x := by rfl) (hbT : bootBuiltins x = some (.type T) := by decide +kernel)
    (hnT : x ≠ "__name__" := by decide) (hdT : (x == ("__debug__" : Str)) = false := by decide) (hgU : Gl X y := by rfl) (hbU : bootBuiltins y = some (.type U) := by decide +kernel) (hnU : y ≠ "__name__" := by decide) (hdU : (y == ("__debug__" : Str)) = false := by decide)
    (he : starEach [e, .Tuple [.Name x p2, .Name y p3] tk p4] X.env = (false, eval e X.env) :: starEach [.Tuple [.Name x p2, .Name y p3] tk p4] X.env := by rfl) (he2 : starEach [.Tuple [.Name x p2, .Name y p3] tk p4] X.env = (false, eval (.Tuple [.Name x p2, .Name y p3] tk p4) X.env) :: starEach [] X.env := by rfl)
    (he3 : starEach [.Name x p2, .Name y p3] X.env = (false, eval (.Name x p2) X.env) :: starEach [.Name y p3] X.env := by rfl) (he4 : starEach [.Name y p3] X.env = (false, eval (.Name y p3) X.env) :: starEach [] X.env := by rfl)
    (hpl : (backTo pos (starEach [.Tuple [.Name x p2, .Name y p3] tk p4] X.env)).any (·.1) = false := by rfl) :
    PE X (.Call (.Name "isinstance" p1) [e, .Tuple [.Name x p2, .Name y p3] tk p4] [] pos) (LR w DVr G Wx (m1 (oIsi2 T U) ma)) :=
  peW (pe_callB call_isiT hg hm (by decide +kernel) (pa_cons ha (pa_cons (pe_tup (pa_cons (pe_bltn (v := .ty T) hgT hT hbT rfl hnT hdT) (pa_cons (pe_bltn (v := .ty U) hgU hU hbU rfl hnU hdU) pa_nil he4) he3)) pa_nil he2) he) (by decide) (by decide) he hpl) fun σ H Q ⟨P, ρ, k, e, r, q, hk, hx⟩ => by
  refine ⟨P, ρ, _, e, r, q, fun d ⟨t, et, kd⟩ v H1 s z => ⟨(by show 2 ≤ sizeLine; decide), fun p hp => ?_⟩, hx⟩
  have r1 := r.step s
  have s2 := r1.fresh (o := .tup [.ty T, .ty U]) hp
  have z2 : DBr G P _ _ d v := (show DBr G P H H1 d v from s1.sub z).step r1 s2.toStp
  refine ⟨v, p, [.ty T, .ty U], .type t, [.type T, .type U], isTy t T || isTy t U, rfl, upd_same, .cons (.ty T) (.cons (.ty U) .nil), by rw [← hK]; exact tyX_of z2 et, ?_, hk _ kd _ _ (s.trans s2) (by simp only [DVr, DV])⟩
  refine kitAny_cons (kit_d hok et) (fun h1 => kitAny_cons (kit_d hokU et) (fun h2 => ?_) fun h2 => by rw [h2, Bool.or_true]) fun h1 => by rw [h1, Bool.true_or]
  rw [h1, h2]
  exact kitAny_nil

/-! ### several values at once: data, or own objects -/
/-- P' is P with more addresses avoided -/
structure More (P P' : Pt) : Prop where
  W : P'.W = P.W
  H0 : P'.H0 = P.H0
  O : P'.O = P.O
  X : P'.X = P.X
  Av : ∀ a, P.Av a → P'.Av a
/-- the values at hand, each data or an own object; the own ones are the addresses that P' avoids beyond Av -/
def Comps (G : Go) (P' : Pt) (H : Hp) : (Addr → Prop) → List Slot → List V → Prop
  | Av, [], vs => vs = [] ∧ ∀ a, P'.Av a → Av a
  | Av, .dat d :: ss, vs => ∃ v vr, vs = v :: vr ∧ DV G P'.W P'.avo H d v ∧ Comps G P' H Av ss vr
  | Av, .own d :: ss, vs => ∃ p vr, vs = .ref p :: vr ∧ OwnAt G P'.W P'.avo H p d ∧ ¬ Av p ∧ P'.Av p ∧ (∀ j, P'.O j ≠ some p) ∧ ¬ P'.W.S p ∧ P'.H0 p = none ∧ Tr H p ∧ Comps G P' H (fun a => Av a ∨ a = p) ss vr
  | _, .un :: _, _ => False
theorem Comps.xs {P' : Pt} {H : Hp} {Z : List (D × V)} : ∀ {Av : Addr → Prop} {ss : List Slot} {vs : List V}, Comps G P' H Av ss vs → Comps G { P' with X := Z } H Av ss vs
  | _, [], _, h => h
  | _, .dat d :: ss, _, h => by
    obtain ⟨v, vr, e, h1, h2⟩ := h
    exact ⟨v, vr, e, h1, Comps.xs h2⟩
  | _, .own d :: ss, _, h => by
    obtain ⟨p, vr, e, h1, h2, h3, h4, h5, h6, h7, h8⟩ := h
    exact ⟨p, vr, e, h1, h2, h3, h4, h5, h6, h7, Comps.xs h8⟩
  | _, .un :: _, _, h => h.elim
theorem Comps.av {P' : Pt} {H : Hp} : ∀ {A B : Addr → Prop} {ss : List Slot} {vs : List V}, (∀ a, A a ↔ B a) → Comps G P' H A ss vs → Comps G P' H B ss vs
  | _, _, [], _, e, h => ⟨h.1, fun a z => (e a).mp (h.2 a z)⟩
  | _, _, .dat d :: ss, _, e, h => by
    obtain ⟨v, vr, ev, h1, h2⟩ := h
    exact ⟨v, vr, ev, h1, Comps.av e h2⟩
  | _, _, .own d :: ss, _, e, h => by
    obtain ⟨p, vr, ev, h1, h2, h3, h4, h5, h6, h7, h8⟩ := h
    exact ⟨p, vr, ev, h1, fun z => h2 ((e p).mpr z), h3, h4, h5, h6, h7, Comps.av (fun a => or_congr (e a) Iff.rfl) h8⟩
  | _, _, .un :: _, _, _, h => h.elim
/-- an own object moves from the avoided ones to its slot -/
abbrev Pt.mv (P : Pt) (p : Addr) (i : Nat) : Pt := { P with Av := fun a => P.Av a ∧ a ≠ p, O := fun j => if j = i then some p else P.O j }
theorem mv_avo {P : Pt} {p : Addr} {i : Nat} (h : P.Av p) {a : Addr} (z : (P.mv p i).avo a) : P.avo a := by
  rcases z with z | ⟨j, e⟩
  · exact .inl z.1
  · have e : (if j = i then some p else P.O j) = some a := e
    split at e
    · cases e; exact .inl h
    · exact .inr ⟨j, e⟩
theorem Comps.move {P' : Pt} {H : Hp} {p : Addr} {i : Nat} (hp : P'.Av p) : ∀ {A B : Addr → Prop} {ss : List Slot} {vs : List V}, (∀ a, A a → B a ∨ a = p) → (∀ a, B a → A a) → A p → Comps G P' H A ss vs → Comps G (P'.mv p i) H B ss vs
  | _, _, [], _, h1, _, _, h => ⟨h.1, fun a z => (h1 a (h.2 a z.1)).elim id fun e => absurd e z.2⟩
  | _, _, .dat d :: ss, _, h1, h2, h3, h => by
    obtain ⟨v, vr, ev, z1, z2⟩ := h
    exact ⟨v, vr, ev, z1.sub fun a z _ => mv_avo hp z, Comps.move hp h1 h2 h3 z2⟩
  | _, _, .own d :: ss, _, h1, h2, h3, h => by
    obtain ⟨q, vr, ev, z1, z2, z3, z4, z5, z6, z7, z8⟩ := h
    have hq : q ≠ p := fun e => z2 (by rw [e]; exact h3)
    refine ⟨q, vr, ev, z1.sub fun a z _ => mv_avo hp z, fun z => z2 (h2 q z), ⟨z3, hq⟩, fun j e => ?_, z5, z6, z7, Comps.move hp (fun a z => z.elim (fun z => (h1 a z).elim (fun z => .inl (.inl z)) .inr) fun z => .inl (.inr z)) (fun a z => z.imp (h2 a) id) (.inl h3) z8⟩
    have e : (if j = i then some p else P'.O j) = some q := e
    split at e
    · cases e; exact hq rfl
    · exact z4 j e
  | _, _, .un :: _, _, _, _, _, h => h.elim
theorem R.moveOwn {P : Pt} {ρ : Env} {σ : St} {H : Hp} {p : Addr} {i : Nat} {d : D} (r : R G P ρ σ H) (hp : P.Av p) (ho : OwnAt G P.W P.avo H p d) (hO : ∀ j, P.O j ≠ some p) (hS : ¬ P.W.S p) (h0 : P.H0 p = none) (ht : Tr H p) :
    R G (P.mv p i) (ρ.set i (.own d)) (σ.set i (some (.ref p))) H := by
  have sub : ∀ a, (P.mv p i).avo a → Tr H a → P.avo a := fun a z _ => mv_avo hp z
  refine ⟨r.stp, fun a z => ⟨r.sAv a z, fun e => hS (by rw [← e]; exact z)⟩, fun a z => r.avH a z.1, fun j a e => ?_, fun j k a e1 e2 => ?_, by rw [len_set, len_set]; exact r.len, fun j x e => ?_, fun q hq => (r.held q hq).sub sub⟩
  · have e : (if j = i then some p else P.O j) = some a := e
    split at e
    · cases e
      exact ⟨fun z => z.2 rfl, h0, ht⟩
    · exact ⟨fun z => (r.own j a e).1 z.1, (r.own j a e).2⟩
  · have e1 : (if j = i then some p else P.O j) = some a := e1
    have e2 : (if k = i then some p else P.O k) = some a := e2
    split at e1
    · split at e2
      · omega
      · cases e1
        exact absurd e2 (hO k)
    · split at e2
      · cases e2
        exact absurd e1 (hO j)
      · exact r.inj j k a e1 e2
  · by_cases hj : j = i
    · subst hj
      have hlt : j < ρ.length := by
        have := (List.getElem?_eq_some_iff.mp e).1
        rw [len_set] at this; exact this
      rw [List.getElem?_set_self hlt] at e
      cases e
      exact ⟨p, if_pos rfl, List.getElem?_set_self (by rw [r.len]; exact hlt), ho.sub sub⟩
    · rw [List.getElem?_set_ne (Ne.symm hj)] at e
      have q := r.sl j x e
      rw [List.getElem?_set_ne (Ne.symm hj)]
      cases x with
      | un => exact q
      | dat d => obtain ⟨v, e1, h⟩ := q; exact ⟨v, e1, h.sub sub⟩
      | own d =>
        obtain ⟨a, e1, e2, h⟩ := q
        exact ⟨a, by show (if j = i then some p else P.O j) = some a; rw [if_neg hj]; exact e1, e2, h.sub sub⟩
def setsE : Env → List Nat → List Slot → Env
  | ρ, i :: is, s :: ss => setsE (ρ.set i s) is ss
  | ρ, _, _ => ρ
def setsV : St → List Nat → List V → St
  | σ, i :: is, v :: vs => setsV (σ.set i (some v)) is vs
  | σ, _, _ => σ
theorem Comps.set {H : Hp} : ∀ {P' P : Pt} {ρ : Env} {σ : St} {is : List Nat} {ss : List Slot} {vs : List V}, is.length = ss.length → R G P' ρ σ H → P'.W = P.W → P'.H0 = P.H0 → P'.X = P.X → (∀ a, P.Av a → P'.Av a) → Comps G P' H P.Av ss vs →
    ∃ O', R G (P.wO O') (setsE ρ is ss) (setsV σ is vs) H
  | P', P, ρ, σ, [], [], vs, _, r, eW, eH, eX, le, h => by
    obtain ⟨rfl, hA⟩ := h
    have eA : P'.Av = P.Av := funext fun a => propext ⟨hA a, le a⟩
    refine ⟨P'.O, ?_⟩
    obtain ⟨W, Av, H0, O, X⟩ := P'
    subst eW eH eX eA
    exact r
  | P', P, ρ, σ, i :: is, .dat d :: ss, vs, hl, r, eW, eH, eX, le, h => by
    obtain ⟨v, vr, rfl, h1, h2⟩ := h
    exact Comps.set (is := is) (ss := ss) (vs := vr) (by simpa using hl) (r.setDat (i := i) h1) eW eH eX le h2
  | P', P, ρ, σ, i :: is, .own d :: ss, vs, hl, r, eW, eH, eX, le, h => by
    obtain ⟨p, vr, rfl, h1, h2, h3, h4, h5, h6, h7, h8⟩ := h
    exact Comps.set (P' := P'.mv p i) (is := is) (ss := ss) (vs := vr) (by simpa using hl) (r.moveOwn (i := i) h3 h1 h4 h5 h6 h7) eW eH eX (fun a z => ⟨le a z, fun e => h2 (by rw [← e]; exact z)⟩) (Comps.move (i := i) (ss := ss) (vs := vr) h3 (fun a z => z) (fun a z => .inl z) (.inr rfl) h8)
  | _, _, _, _, _ :: _, .un :: _, _, _, _, _, _, _, _, h => h.elim
  | _, _, _, _, [], _ :: _, _, hl, _, _, _, _, _, _ => by simp at hl
  | _, _, _, _, _ :: _, [], _, hl, _, _, _, _, _, _ => by simp at hl

abbrev Mk' := Env → (List Slot → Prop) → (D → Prop) → Prop
def LK (w : Nat) (G : Go) (X : WX) (m : Mk') : TA := fun σ H Q => ∃ (P : Pt) (ρ : Env) (k : List Slot → Prop) (e : D → Prop), R G P ρ σ H ∧ m ρ k e ∧
  (∀ ss, k ss → ∀ vs H' P', More P P' → Stw w P.W H H' → R G P' ρ σ H' → Comps G P' H' P.Av ss vs → Q vs H') ∧ XOk w G X P H e
def kNil : Mk' := fun _ k _ => k []
def kDat (a : Mv) (as : Mk') : Mk' := fun ρ k e => a ρ (fun d => as ρ (fun ss => k (.dat d :: ss)) e) e
def kOwn (a : Mv) (as : Mk') : Mk' := fun ρ k e => a ρ (fun d => as ρ (fun ss => k (.own d :: ss)) e) e
variable {mk : Mk'}
theorem kd_nil : PA X [] (LK 0 G Wx kNil) := paW pa_nil fun σ H Q ⟨P, ρ, k, e, r, q, hk, hx⟩ => hk [] q [] H P ⟨rfl, rfl, rfl, rfl, fun _ z => z⟩ r.same r ⟨rfl, fun _ z => z⟩
theorem XOk.hold {P : Pt} {H : Hp} {e : D → Prop} {Z : List (D × V)} (h : XOk w G Wx P H e) : XOk w G Wx { P with X := Z } H e := h
theorem kd_dat [s1 : Sub r1 DVr] (ha : PE X e (LR w1 r1 G Wx ma)) (hr : PA X es (LK w2 G Wx mk)) (hs : starEach (e :: es) X.env = (false, eval e X.env) :: starEach es X.env := by rfl) : PA X (e :: es) (LK (w1 + w2) G Wx (kDat ma mk)) :=
  paW (pa_cons ha hr hs) fun σ H Q ⟨P, ρ, k, e, r, q, hk, hx⟩ => by
  refine ⟨P, ρ, _, e, r, q, fun d qd v H1 st z => ?_, hx.l⟩
  have z : DV G P.W P.avo H1 d v := s1.sub z
  have r1 := (r.step st).hold (hs := [(d, v)]) fun p hp => by rw [List.mem_singleton.mp hp]; exact z
  refine ⟨_, ρ, _, e, r1, qd, fun ss qs vs H2 P2 mo st2 r2 c => ?_, hx.step st⟩
  have hd : DV G P2.W P2.avo H2 d v := r2.held (d, v) (by rw [mo.X]; exact List.mem_cons_self)
  refine hk _ qs (v :: vs) H2 { P2 with X := P.X } ⟨mo.W, mo.H0, mo.O, rfl, mo.Av⟩ (st.trans st2) (r2.drop fun p hp => by rw [mo.X]; exact List.mem_cons_of_mem _ hp) ⟨v, vs, rfl, hd, c.xs⟩
theorem zip_dvs {W : Wd} {Av : Addr → Prop} {H : Hp} : ∀ {ds : List D} {xs : List V}, xs.length = ds.length → (∀ p ∈ ds.zip xs, DV G W Av H p.1 p.2) → DVs G W Av H ds xs
  | [], [], _, _ => DVs.nil
  | d :: ds, x :: xs, hl, h => DVs.cons (h (d, x) (by simp)) (zip_dvs (by simpa using hl) fun p hp => h p (by simp only [List.zip_cons_cons]; exact List.mem_cons_of_mem _ hp))
  | [], _ :: _, hl, _ => by simp at hl
  | _ :: _, [], hl, _ => by simp at hl
theorem dvs_zip {W : Wd} {Av : Addr → Prop} {H : Hp} : ∀ {ds : List D} {xs : List V}, DVs G W Av H ds xs → ∀ p ∈ ds.zip xs, DV G W Av H p.1 p.2
  | [], _, _, p, hp => by simp at hp
  | d :: ds, _, h, p, hp => by
    simp only [DVs] at h
    obtain ⟨v, r, rfl, h1, h2⟩ := h
    rw [List.zip_cons_cons] at hp
    rcases List.mem_cons.mp hp with e | hp
    · rw [e]; exact h1
    · exact dvs_zip h2 p hp
theorem kd_own (ha : PE X e (LR w1 FVr G Wx ma)) (hr : PA X es (LK w2 G Wx mk)) (hs : starEach (e :: es) X.env = (false, eval e X.env) :: starEach es X.env := by rfl) : PA X (e :: es) (LK (w1 + w2) G Wx (kOwn ma mk)) :=
  paW (pa_cons ha hr hs) fun σ H Q ⟨P, ρ, k, e, r, q, hk, hx⟩ => by
  refine ⟨P, ρ, _, e, r, q, fun d qd v H1 st ⟨p, ev, hn, ht, hav, ho⟩ => ?_, hx.l⟩
  subst ev
  have r0 := r.addAv hn ht st.toStp
  have avE : ∀ a, ({ P with Av := fun a => P.Av a ∨ a = p } : Pt).avo a ↔ (P.avo a ∨ a = p) := fun a =>
    ⟨fun z => z.elim (fun z => z.elim (fun z => .inl (.inl z)) .inr) fun z => .inl (.inr z), fun z => z.elim (fun z => z.elim (fun z => .inl (.inl z)) fun z => .inr z) fun z => .inl (.inr z)⟩
  have nS : ¬ P.W.S p := fun z => hav (r.sO p z)
  have hx1 : XOk w2 G Wx { P with Av := fun a => P.Av a ∨ a = p } H1 e := ⟨(hx.step st).1, fun x q cls d σ' H' s z => hx.2 x q cls d σ' H' (st.trans s) (z.sub fun a w _ => (avE a).mpr (.inl w))⟩
  -- the own object's data are held
  obtain ⟨hs, hhs, hback⟩ : ∃ hs : List (D × V), (∀ p' ∈ hs, DV G P.W ({ P with Av := fun a => P.Av a ∨ a = p } : Pt).avo H1 p'.1 p'.2) ∧
      ∀ (P2 : Pt) (H2 : Hp), (∀ p' ∈ hs, DV G P2.W P2.avo H2 p'.1 p'.2) → (∀ o, H1 p = some o → H2 p = some o) → OwnAt G P2.W P2.avo H2 p d := by
    cases d with
    | lst ds =>
      obtain ⟨xs, eH, z⟩ := ho
      exact ⟨ds.zip xs, fun p' hp' => (dvs_zip z p' hp').sub fun a w _ => (avE a).mp w, fun P2 H2 h ke => ⟨xs, ke _ eH, zip_dvs z.length h⟩⟩
    | dct ks vs =>
      obtain ⟨kvs, eH, ek, z⟩ := ho
      exact ⟨vs.zip (kvs.map (·.2)), fun p' hp' => (dvs_zip z p' hp').sub fun a w _ => (avE a).mp w, fun P2 H2 h ke => ⟨kvs, ke _ eH, ek, zip_dvs z.length h⟩⟩
    | _ => exact ho.elim
  have r1 := r0.hold hhs
  refine ⟨_, ρ, _, e, r1, qd, fun ss qs vs H2 P2 mo st2 r2 c => ?_, hx1⟩
  have st2' : Stw w2 P.W H1 H2 := st2
  have own2 := hback P2 H2 (fun p' hp' => r2.held p' (by rw [mo.X]; exact List.mem_append_left _ hp')) fun o eo => st2'.keep p o eo nS
  refine hk _ qs (.ref p :: vs) H2 { P2 with X := P.X } ⟨mo.W, mo.H0, mo.O, rfl, fun a z => mo.Av a (.inl z)⟩ (st.trans st2') (r2.drop fun q hq => by rw [mo.X]; exact List.mem_append_right _ hq) ?_
  exact ⟨p, vs, rfl, own2, fun z => hav (.inl z), mo.Av p (.inr rfl), fun j ej => hav (.inr ⟨j, by rw [← ej]; show P.O j = P2.O j; rw [mo.O]⟩), by show ¬ P2.W.S p; rw [mo.W]; exact nS, by show P2.H0 p = none; rw [mo.H0]; exact r.stp.none hn, st2'.live p ht, c.xs⟩
/-- a, b = x, y -/
def sPar (is : List Nat) (m : Mk') : Ms := fun ρ E => m ρ (fun ss => ss.length = is.length ∧ E.nx (setsE ρ is ss)) E.ex
theorem Comps.len {P' : Pt} {H : Hp} : ∀ {Av : Addr → Prop} {ss : List Slot} {vs : List V}, Comps G P' H Av ss vs → vs.length = ss.length
  | _, [], _, h => by rw [h.1]; rfl
  | _, .dat d :: ss, _, h => by
    obtain ⟨v, vr, e, h1, h2⟩ := h
    rw [e, List.length_cons, List.length_cons, Comps.len h2]
  | _, .own d :: ss, _, h => by
    obtain ⟨p, vr, e, h1, h2, h3, h4, h5, h6, h7, h8⟩ := h
    rw [e, List.length_cons, List.length_cons, Comps.len h8]
  | _, .un :: _, _, h => h.elim
theorem sd_par2 {i j : Nat} {x y : Str} {px py pt pos : Pos} {kt k2 pt2} (hN : X.N.Nodup) (ha : PA X [a, b] (LK w G Wx mk)) (hij : i ≠ j := by decide) (hi : X.N[i]? = some x := by rfl) (hj : X.N[j]? = some y := by rfl) (hc : X.calm = true := by rfl)
    (hx : X.env.scope.names.lookup x = some .local := by rfl) (hy : X.env.scope.names.lookup y = some .local := by rfl)
    (hw : swappedStores [.Tuple [.Name x px, .Name y py] kt pt] (.Tuple [a, b] k2 pt2) X.env = pure (some [x, y]) := by rfl)
    (hs : swapsWithSole [.Tuple [.Name x px, .Name y py] kt pt] (.Tuple [a, b] k2 pt2) pos.line X.env = pure false := by rfl) :
    PS X (.Assign [.Tuple [.Name x px, .Name y py] kt pt] (.Tuple [a, b] k2 pt2) pos) (LS w G Wx (sPar [i, j] mk)) := psW (ps_par hc hN hi hj hij hx hy ha hw hs) fun D σ H ⟨P, ρ, E, r, q, c1, c2, c3, c4, c5⟩ => by
  refine ⟨P, ρ, _, E.ex, r, q, fun ss ⟨hl, k⟩ vs H1 P' mo st r1 c => ?_, .of r c5⟩
  have hv := c.len
  rw [hl] at hv
  obtain ⟨v, u, rfl⟩ : ∃ v u, vs = [v, u] := by
    match vs, hv with
    | [v, u], _ => exact ⟨v, u, rfl⟩
  obtain ⟨O', rr⟩ := Comps.set (P := P) (is := [i, j]) hl.symm r1 mo.W mo.H0 mo.X mo.Av c
  exact ⟨v, u, rfl, c1 _ k O' _ H1 rr st.tn⟩
theorem sd_par3 {i j l : Nat} {x y z : Str} {c : Expr} {px py pz pt pos : Pos} {kt k2 pt2} (hN : X.N.Nodup) (ha : PA X [a, b, c] (LK w G Wx mk)) (hij : i ≠ j := by decide) (hil : i ≠ l := by decide) (hjl : j ≠ l := by decide) (hi : X.N[i]? = some x := by rfl) (hj : X.N[j]? = some y := by rfl) (hl : X.N[l]? = some z := by rfl) (hc : X.calm = true := by rfl)
    (hx : X.env.scope.names.lookup x = some .local := by rfl) (hy : X.env.scope.names.lookup y = some .local := by rfl) (hz : X.env.scope.names.lookup z = some .local := by rfl)
    (hw : swappedStores [.Tuple [.Name x px, .Name y py, .Name z pz] kt pt] (.Tuple [a, b, c] k2 pt2) X.env = pure (some [x, y, z]) := by rfl)
    (hs : swapsWithSole [.Tuple [.Name x px, .Name y py, .Name z pz] kt pt] (.Tuple [a, b, c] k2 pt2) pos.line X.env = pure false := by rfl) :
    PS X (.Assign [.Tuple [.Name x px, .Name y py, .Name z pz] kt pt] (.Tuple [a, b, c] k2 pt2) pos) (LS w G Wx (sPar [i, j, l] mk)) := psW (ps_par3 hc hN hi hj hl hij hil hjl hx hy hz ha hw hs) fun D σ H ⟨P, ρ, E, r, q, c1, c2, c3, c4, c5⟩ => by
  refine ⟨P, ρ, _, E.ex, r, q, fun ss ⟨hl, k⟩ vs H1 P' mo st r1 c => ?_, .of r c5⟩
  have hv := c.len
  rw [hl] at hv
  obtain ⟨v, u, t, rfl⟩ : ∃ v u t, vs = [v, u, t] := by
    match vs, hv with
    | [v, u, t], _ => exact ⟨v, u, t, rfl⟩
  obtain ⟨O', rr⟩ := Comps.set (P := P) (is := [i, j, l]) hl.symm r1 mo.W mo.H0 mo.X mo.Av c
  exact ⟨v, u, t, rfl, c1 _ k O' _ H1 rr st.tn⟩
/-- a tuple made and unpacked -/
theorem Comps.step {P' : Pt} {H H' : Hp} (s : ∀ b o, H b = some o → H' b = some o) : ∀ {Av : Addr → Prop} {ss : List Slot} {vs : List V}, Comps G P' H Av ss vs → Comps G P' H' Av ss vs
  | _, [], _, h => h
  | _, .dat d :: ss, _, h => by
    obtain ⟨v, vr, e, h1, h2⟩ := h
    exact ⟨v, vr, e, h1.keep fun b o eb _ => s b o eb, Comps.step s h2⟩
  | _, .own d :: ss, _, h => by
    obtain ⟨p, vr, e, h1, h2, h3, h4, h5, h6, h7, h8⟩ := h
    exact ⟨p, vr, e, h1.keep (fun o eo => s _ _ eo) fun b o eb _ => s b o eb, h2, h3, h4, h5, h6, by obtain ⟨o, eo⟩ := h7; exact ⟨o, s _ _ eo⟩, Comps.step s h8⟩
  | _, .un :: _, _, h => h.elim
theorem sd_tup2 {i j : Nat} {x y : Str} {px py pt pos : Pos} {kt k2 pt2} (hN : X.N.Nodup) (ha : PA X [a, b] (LK w G Wx mk)) (hi : X.N[i]? = some x := by rfl) (hj : X.N[j]? = some y := by rfl) (hc : X.calm = true := by rfl)
    (hx : Loc X.env.scope x := by first | exact .inl rfl | exact .inr rfl) (hy : Loc X.env.scope y := by first | exact .inl rfl | exact .inr rfl)
    (hfx : X.fn x = true ∨ X.env.scope.names.lookup x = some .local := by first | exact .inl rfl | exact .inr rfl) (hfy : X.fn y = true ∨ X.env.scope.names.lookup y = some .local := by first | exact .inl rfl | exact .inr rfl)
    (hw : swappedStores [.Tuple [.Name x px, .Name y py] kt pt] (.Tuple [a, b] k2 pt2) X.env = pure none := by rfl)
    (hs : swapsWithSole [.Tuple [.Name x px, .Name y py] kt pt] (.Tuple [a, b] k2 pt2) pos.line X.env = pure false := by rfl)
    (h1 : (assignEach [.Tuple [.Name x px, .Name y py] kt pt] X.env).map (·.2) = [assign (.Tuple [.Name x px, .Name y py] kt pt) X.env] := by rfl)
    (hn : (assignEach [.Name x px, .Name y py] X.env).length = 2 := by rfl) (hst : (assignEach [.Name x px, .Name y py] X.env).findIdx? (·.1) = none := by rfl)
    (hs1 : (assignEach [.Name x px, .Name y py] X.env).map (·.2) = assign (.Name x px) X.env :: (assignEach [.Name y py] X.env).map (·.2) := by rfl) (hs2 : (assignEach [.Name y py] X.env).map (·.2) = assign (.Name y py) X.env :: (assignEach [] X.env).map (·.2) := by rfl) :
    PS X (.Assign [.Tuple [.Name x px, .Name y py] kt pt] (.Tuple [a, b] k2 pt2) pos) (LS w G Wx (sPar [i, j] mk)) :=
  psW (ps_asg (pe_tup ha) (pg_tup hc (pgs_cons (pg_name (i := i) hN hi hx hfx) (pgs_cons (pg_name (i := j) hN hj hy hfy) pgs_nil hs2) hs1) hn hst) hs hw h1) fun D σ H ⟨P, ρ, E, r, q, c1, c2, c3, c4, c5⟩ => by
  refine ⟨P, ρ, _, E.ex, r, q, fun ss ⟨hl, k⟩ vs H1 P' mo st r1 c => ?_, .of r c5⟩
  have hv := c.len
  rw [hl] at hv
  obtain ⟨v, u, rfl⟩ : ∃ v u, vs = [v, u] := by
    match vs, hv with
    | [v, u], _ => exact ⟨v, u, rfl⟩
  refine ⟨(by show 2 ≤ sizeLine; decide), fun p hp => ?_⟩
  have fr := r1.fresh (o := .tup [v, u]) hp
  have r2 := r1.step fr
  have tt : Tn w P.W H (upd H1 p (.tup [v, u])) := by
    have a := st.tn
    have b := fr.tn
    rw [mo.W] at b
    unfold Tn
    omega
  obtain ⟨O', rr⟩ := Comps.set (P := P) (is := [i, j]) hl.symm r2 mo.W mo.H0 mo.X mo.Av (c.step fun b o eb => by rw [upd_ne (ne_of_none eb hp)]; exact eb)
  exact ⟨p, [v, u], rfl, SqT.of upd_same, rfl, v, [u], rfl, u, [], rfl, rfl, c1 _ k O' _ _ rr tt⟩
theorem sd_tup3 {i j l : Nat} {x y z : Str} {c : Expr} {px py pz pt pos : Pos} {kt k2 pt2} (hN : X.N.Nodup) (ha : PA X [a, b, c] (LK w G Wx mk)) (hi : X.N[i]? = some x := by rfl) (hj : X.N[j]? = some y := by rfl) (hl : X.N[l]? = some z := by rfl) (hc : X.calm = true := by rfl)
    (hx : Loc X.env.scope x := by first | exact .inl rfl | exact .inr rfl) (hy : Loc X.env.scope y := by first | exact .inl rfl | exact .inr rfl) (hz : Loc X.env.scope z := by first | exact .inl rfl | exact .inr rfl)
    (hfx : X.fn x = true ∨ X.env.scope.names.lookup x = some .local := by first | exact .inl rfl | exact .inr rfl) (hfy : X.fn y = true ∨ X.env.scope.names.lookup y = some .local := by first | exact .inl rfl | exact .inr rfl) (hfz : X.fn z = true ∨ X.env.scope.names.lookup z = some .local := by first | exact .inl rfl | exact .inr rfl)
    (hw : swappedStores [.Tuple [.Name x px, .Name y py, .Name z pz] kt pt] (.Tuple [a, b, c] k2 pt2) X.env = pure none := by rfl)
    (hs : swapsWithSole [.Tuple [.Name x px, .Name y py, .Name z pz] kt pt] (.Tuple [a, b, c] k2 pt2) pos.line X.env = pure false := by rfl)
    (h1 : (assignEach [.Tuple [.Name x px, .Name y py, .Name z pz] kt pt] X.env).map (·.2) = [assign (.Tuple [.Name x px, .Name y py, .Name z pz] kt pt) X.env] := by rfl)
    (hn : (assignEach [.Name x px, .Name y py, .Name z pz] X.env).length = 3 := by rfl) (hst : (assignEach [.Name x px, .Name y py, .Name z pz] X.env).findIdx? (·.1) = none := by rfl)
    (hs1 : (assignEach [.Name x px, .Name y py, .Name z pz] X.env).map (·.2) = assign (.Name x px) X.env :: (assignEach [.Name y py, .Name z pz] X.env).map (·.2) := by rfl) (hs2 : (assignEach [.Name y py, .Name z pz] X.env).map (·.2) = assign (.Name y py) X.env :: (assignEach [.Name z pz] X.env).map (·.2) := by rfl)
    (hs3 : (assignEach [.Name z pz] X.env).map (·.2) = assign (.Name z pz) X.env :: (assignEach [] X.env).map (·.2) := by rfl) :
    PS X (.Assign [.Tuple [.Name x px, .Name y py, .Name z pz] kt pt] (.Tuple [a, b, c] k2 pt2) pos) (LS w G Wx (sPar [i, j, l] mk)) :=
  psW (ps_asg (pe_tup ha) (pg_tup hc (pgs_cons (pg_name (i := i) hN hi hx hfx) (pgs_cons (pg_name (i := j) hN hj hy hfy) (pgs_cons (pg_name (i := l) hN hl hz hfz) pgs_nil hs3) hs2) hs1) hn hst) hs hw h1) fun D σ H ⟨P, ρ, E, r, q, c1, c2, c3, c4, c5⟩ => by
  refine ⟨P, ρ, _, E.ex, r, q, fun ss ⟨hl, k⟩ vs H1 P' mo st r1 c => ?_, .of r c5⟩
  have hv := c.len
  rw [hl] at hv
  obtain ⟨v, u, t, rfl⟩ : ∃ v u t, vs = [v, u, t] := by
    match vs, hv with
    | [v, u, t], _ => exact ⟨v, u, t, rfl⟩
  refine ⟨(by show 3 ≤ sizeLine; decide), fun p hp => ?_⟩
  have fr := r1.fresh (o := .tup [v, u, t]) hp
  have r2 := r1.step fr
  have tt : Tn w P.W H (upd H1 p (.tup [v, u, t])) := by
    have a := st.tn
    have b := fr.tn
    rw [mo.W] at b
    unfold Tn
    omega
  obtain ⟨O', rr⟩ := Comps.set (P := P) (is := [i, j, l]) hl.symm r2 mo.W mo.H0 mo.X mo.Av (c.step fun b o eb => by rw [upd_ne (ne_of_none eb hp)]; exact eb)
  exact ⟨p, [v, u, t], rfl, SqT.of upd_same, rfl, v, [u, t], rfl, u, [t], rfl, t, [], rfl, rfl, c1 _ k O' _ _ rr tt⟩
end
end DL
set_option Elab.async false
set_option linter.all false
set_option maxRecDepth 100000
set_option maxHeartbeats 4000000
/-! DL10: an own exception class over own classes over ValueError, whose __init__ says super().__init__(text) and self.y = y -/
namespace PySem
namespace Ini
open PySem.W PySem.Calls PyProof.Rows PySem.HandSPX PySem.Spec
abbrev iA (y : Str) (p1 p2 : Pos) : Arguments := { posonlyargs := [], args := [{ arg := "self", annotation := none, pos := p1 }, { arg := y, annotation := none, pos := p2 }], vararg := none, kwonlyargs := [], kw_defaults := [], kwarg := none, defaults := [] }
abbrev iB (y T : Str) (j : Nat) (q0 q1 q2 q3 q4 q5 q6 q7 q8 q9 : Pos) : List Stmt :=
  [.Expr (.Call (.Attribute (.Call (.Name "super" q0) [] [] q1) "__init__" q2) [.Constant (.str T) j q3] [] q4) q5, .Assign [.Attribute (.Name "self" q6) y q7] (.Name y q8) q9]
abbrev iS (ns : List (Str × NameKind)) : Scope := { kind := .function, names := ns, isGenerator := false, isCoroutine := false }
/-- super().__init__(T) is the call of a method -/
def CallIs (T : Str) (j : Nat) (q0 q1 q2 q3 q4 : Pos) : Prop := ∀ env : Env, ∃ pl : Sem Bool, eval (.Call (.Attribute (.Call (.Name "super" q0) [] [] q1) "__init__" q2) [.Constant (.str T) j q3] [] q4) env = (do
      let ov ← attributeBase (.Call (.Name "super" q0) [] [] q1) "__init__" env (eval (.Call (.Name "super" q0) [] [] q1) env)
      standAt q2.atName
      let (f, first) ← holding [ov] (getMethod ov "__init__" pl)
      callWith q4 f first (backTo q4 (starEach [.Constant (.str T) j q3] env)) [])
/-- what the written part says of such a class, at C, and of its __init__, at fI -/
structure Txt (P : Program) (K : Frag) (mg : Str → Option Value) (q y : Str) (C fI : Addr) : Prop where
  cls : ∃ nm q N bs bm sn sub ab col dd k0 k1 k2 k3 k5, K.lookup C = some (excClassObj nm q C N bs bm true sn sub ab col dd k0 k1 k2 k3 k5 "ValueError.__new__") ∧ refsVE bm = true
  sa : findIn K (.ref C) "__setattr__" = some (some (.builtin "object.__setattr__"))
  noN : findIn K (.ref C) y = some none
  noS : mg "super" = none
  sup : ks_superIn K C C "__init__" = some (some (.builtin "ValueError.__init__"))
  subB : subIn K (.ref C) (.type "ValueError") = some true
  mr : mroIn K C (.ref C) = some true
  op : nsIn K cStatics "thirdparty.any" = some none
  top : (P.main.scope.names.lookup ("super" : Str)).isSome = false
  fn : ∃ (oc : Value) (od : Option Addr) (doc pm : Value) (an : Option Addr) (cda : Addr) (ct : Value) (osl : Array (Option Value)) (p1 p2 q0 q1 q2 q3 q4 q5 q6 q7 q8 q9 : Pos) (T : Str) (j : Nat) (ns : List (Str × NameKind)) (cc : Addr) (dV kV : Value),
    K.lookup fI = some ⟨oc, od, .func (ksFn "__init__" q (iA y p1 p2) (iB y T j q0 q1 q2 q3 q4 q5 q6 q7 q8 q9) (iS ns) dV kV doc pm an (.ref cda) ct cc), osl⟩ ∧ codeIn K (.ref cda) q = true ∧
    (∃ ccl cdd vs ccs file tf, K.lookup cda = some ⟨ccl, cdd, .fields vs, ccs⟩ ∧ vs[2]? = some (.str file tf) ∧ ((P.main.file : Str) == file) = true) ∧
    (∃ cl cld csl, K.lookup cc = some ⟨cl, cld, .cell (some (.ref C)), csl⟩) ∧
    ns.lookup ("super" : Str) = some .globalImplicit ∧ ns.lookup ("__class__" : Str) = some .free ∧ ns.lookup ("self" : Str) = some .local ∧ ns.lookup y = some .local ∧ (∀ x ∈ ns, x.2 ≠ .cell) ∧ CallIs T j q0 q1 q2 q3 q4
section
variable {prog : Program} {w : World} {A : Around} {R : Result → Shared → Prop} {s : Shared} {K : Frag} {mg mb : Str → Option Value} {C fI : Addr} {q y : Str}
theorem run (T : Txt prog K mg q y C fI) {x t0 : Addr} {v : Value} {args : Args} (X : K.In s.heap) (hlim : s.heap.NoLimit) (hx : s.heap.get? x = some (excO C t0)) (hnx : K.lookup x = none) (hroom : A.depth < recursionLimit)
    (hg : s.heap.Ns mainGlobals mg) (hb : s.heap.Ns builtinsNs mb) (hsup : mb "super" = some (.type "super")) (hys : y ≠ "self") (hyd : (y == ("__debug__" : Str)) = false)
    (hbind : ∀ fd, (∃ oc od osl, K.lookup fI = some ⟨oc, od, .func fd, osl⟩) → BindsTo s fd args [("self", .ref x), (y, v)])
    (hq : ∀ h' tk dx t1, (∀ b o, b ≠ x → s.heap.get? b = some o → h'.get? b = some o) → s.heap.objs.size ≤ dx → dx ≠ x →
      h'.get? x = some { cls := .ref C, dict := some dx, data := .fields #[.ref t1, .none, .none, .none, .bool false, .none] } → h'.Ns1 dx (fun z => if z = y then some v else none) → R (.ok (.ret .none)) { s with heap := h', toks := tk }) :
    codeAny (model prog w) A (.call (.ref fI) args) R s := by
  obtain ⟨oc, od, doc, pm, an, cda, ct, osl, p1, p2, q0, q1, q2, q3, q4, q5, q6, q7, q8, q9, Tx, j, ns, cc, dV, kV, ho, hcd, ⟨ccl, cdd, vs, ccs, file, tf, hcode, hvs, hfile⟩, ⟨cl, cld, csl, hcell⟩, hks, hkc, hka, hky, hncell, hcall⟩ := T.fn
  obtain ⟨nm, qq, N, bs, bm, sn, sub, ab, col, dd, k0, k1, k2, k3, k5, hC, hbm⟩ := T.cls
  have hcl : clsIn K C = some { name := nm, bases := bs, mro := .ref C :: bm, ns := N, qualname := qq, hasDict := true, slotNames := sn, subclasses := sub, abstract := ab, collection := col, hasDel := false } := by unfold clsIn; rw [hC] <;> rfl
  have bnd := hbind _ ⟨_, _, _, ho⟩
  refine ks_codeAny_call_defAt (fd := ksFn "__init__" q (iA y p1 p2) (iB y Tx j q0 q1 q2 q3 q4 q5 q6 q7 q8 q9) (iS ns) dV kV doc pm an (.ref cda) ct cc) hroom (X _ _ ho) rfl hlim (codeRec_of X hcd) rfl bnd hncell
    (fun z hz => ?_) (fun h₁ hns k => ?_) rfl rfl rfl
  · rcases List.mem_cons.mp hz with rfl | hz
    · exact hka
    · rcases List.mem_cons.mp hz with rfl | hz
      · exact hky
      · cases hz
  have X₁ : K.In h₁ := X.keeps k
  have hx₁ := k _ _ hx
  have lz : ([("self", Value.ref x), (y, v)] : List (Str × Value)).reverse.lookup ("self" : Str) = some (Value.ref x) := by
    have e : ((("self" : Str)) == y) = false := by simpa using fun z => hys z.symm
    simp [List.lookup, e]
  have ly : ([("self", Value.ref x), (y, v)] : List (Str × Value)).reverse.lookup y = some v := by simp [List.lookup]
  obtain ⟨pl, he⟩ := hcall (ksEnv q (iS ns) s.heap.objs.size fI (.ref cda) cc)
  refine ks_wpAt_execs_cons (ks_wpAt_Expr_any (ks_wpAt_MethodCall (pl := pl) ?_ he) (by rfl) (by rfl))
  refine ks_wpAt_super_base (env := ksEnv q (iS ns) s.heap.objs.size fI (.ref cda) cc) hks hkc (by decide) rfl (X₁ _ _ ho) rfl rfl rfl (X₁ _ _ hcode) rfl hvs hfile T.top ?_
  refine ks_loadName_global rfl hks (loadGlobal_builtin (env := ksEnv q (iS ns) s.heap.objs.size fI (.ref cda) cc) (hg.keeps k) T.noS (hb.keeps k) hsup ⟨rfl, ?_⟩)
  refine wpAny_loadName_free rfl hkc rfl ⟨_, X₁ _ _ hcell, rfl⟩ ?_
  refine wpAny_loadName_local rfl hka hns lz ?_
  have hC₁ := X₁ _ _ hC
  refine ks_wpAny_isType_cls hC₁ rfl ⟨rfl, ?_⟩
  refine ks_wpAny_call_super hC₁ rfl hx₁ rfl (fun c e => by cases e) (looks_mroIn X₁ T.mr) (fun h₂ e₂ k₂ => ?_)
  have X₂ : K.In h₂ := X₁.keeps k₂
  have hx₂ := k₂ _ _ hx₁
  have I₂ : InstAt h₂ x (excO C t0) C none := ⟨hx₂, rfl, rfl, trivial⟩
  have hI : Looks (model prog w) h₂ (isInstance (.ref x) (.type "ValueError")) true := I₂.type.andThen (looks_subIn X₂ T.subB)
  have hm := T.sup
  unfold ks_superIn at hm
  rw [hcl] at hm
  refine kxs_getMethod kxs_ValueError e₂ (looks_opaque X₂ T.op) (l₀ := .ref C :: bm) (fun A Q E s k q => wpAny_bind ((looks_clsIn X₂ hcl) A _ E s k (wpAny_pure q))) rfl X₂ hm hI (ks_ne X₂ I₂ hcl) (by decide) ?_
  have k₃ : ∀ b o, h₂.get? b = some o → (h₂.push (kxs_mw "ValueError.__init__" x)).get? b = some o := fun b o e => Heap.get?_push_of_some _ e
  have hu : (h₂.push (kxs_mw "ValueError.__init__" x)).get? h₂.objs.size = some (kxs_mw "ValueError.__init__" x) := Heap.get?_push_at rfl rfl
  refine kxs_callWith (i := "ValueError.__init__") (x := x) rfl (evalArgs_plain (spliced_cons (Calls.Constant_str (k := j) (pos := q3) (spliced_nil ⟨hu, ?_⟩))))
  show wpAny _ _ (call (.ref h₂.objs.size) [.str Tx _]) _ _ _
  refine wpAny_call (codeAny_of_tree ?_)
  show wpAny _ (Around.in1 _) (callAny (.ref h₂.objs.size) ⟨[.str Tx _], []⟩) _ _ _
  simp only [callAny]
  refine wpAny_bind (wpAny_load hu ?_)
  simp only [kxs_mw, show (Value.type "method-wrapper" == Value.type "method" || Value.type "method-wrapper" == Value.type "builtin_function_or_method" || Value.type "method-wrapper" == Value.type "method-wrapper") = true by decide, if_true]
  refine KFB.if_so (by decide) ?_
  refine wpAny_bind (check_bound_init F.excBase_ValueError.toExcCallFacts (k₃ _ _ (k₂ _ _ hC₁)) (k₃ _ _ hx₂) rfl ?_)
  refine wpAny_bind (wpAny_pure (wpAny_pure ?_))
  refine ⟨plainId_quiet F.excBase_ValueError.init.plain _, codeAny_builtin F.excBase_ValueError.initEntry ?_⟩
  refine exc_init_tree (cls := .ref C) (t0 := t0) (dv := none) (c2 := .none) (c3 := .none) (b4 := .bool false) (k₃ _ _ hx₂) (by show 1 ≤ sizeLine; rw [sizeLine_eq]; decide) fun h₄ k₄ e₄ t₄ => ?_
  -- self.y = y
  have up : ∀ b o, b ≠ x → h₁.get? b = some o → h₄.get? b = some o := fun b o hb e => k₄ b o hb (k₃ _ _ (k₂ _ _ e))
  obtain ⟨t1, e₄⟩ : ∃ t1, h₄.get? x = some (excO C t1) := ⟨_, e₄⟩
  have X₄ : K.In h₄ := fun b o e => up b o (fun z => by rw [z, hnx] at e; cases e) (X₁ _ _ e)
  have hn₄ : h₄.Ns s.heap.objs.size (fun z => ([("self", Value.ref x), (y, v)] : List (Str × Value)).reverse.lookup z) := by
    obtain ⟨oL, es, ep, hL, r⟩ := hns
    exact ⟨oL, es, ep, up _ _ (Nat.ne_of_gt (Heap.lt_size hx)) hL, r⟩
  show _root_.PySem.wpAt _ _ _ (execs [Stmt.Assign [.Attribute (.Name "self" q6) y q7] (.Name y q8) q9] (ksEnv q (iS ns) s.heap.objs.size fI (.ref cda) cc)) _ _ _
  refine wpAt_of_wpAny (wpAny_execs_cons (plainObj_wpAny_Assign_Attribute ?_))
  refine wpAny_Name (wpAny_loadName_local rfl hky hn₄ ly ?_) hyd
  refine wpAny_Name (wpAny_loadName_local rfl hka hn₄ lz ?_) (by decide)
  refine set_plain X₄ (ox := excO C t1) (od := none) ⟨e₄, rfl, rfl, trivial⟩ T.sa ?_
  refine exc_osa X₄ e₄ hcl (show refsVE (.ref C :: bm) = true from hbm) rfl T.noN (fun h₅ tk₅ dx k₅ dn dne hx₅ hn₅ => ?_)
  show wpAny _ _ (execs _ _) _ _ _
  exact wpAny_execs_nil (hq h₅ tk₅ dx _ (fun b o hb e => k₅ b o hb (up b o hb (k b o e))) (Nat.le_of_lt (Nat.lt_of_lt_of_le hn₄.lt dn)) dne hx₅ hn₅)
end
end Ini
end PySem

namespace DL
open PySem PySem.Spec L2 PyProof.Rows
/-- __init__(self, y): what it leaves -/
def spIni (C : Addr) (y : Str) : Sp := fun vs H Q _ => ∃ (a : Addr) (v : V), vs = [.ref a, v] ∧ H a = some (exo a C none) ∧ ∀ dx, H dx = none → dx ≠ a → Q .non (upd (upd H dx (exd dx [(y, v)])) a (exo a C (some dx)))
section
variable {P : Program} {w : World} {K : PySem.W.Frag} {mg : Str → Option Value} {base : Heap} {C fI : Addr} {q y : Str} {k : Nat} {fd : FuncData}
theorem ok_ini (T : PySem.Ini.Txt P K mg q y C fI) (lk : ∃ oc od osl, K.lookup fI = some ⟨oc, od, .func fd, osl⟩) (hys : y ≠ "self") (hyd : (y == ("__debug__" : Str)) = false) : FnOk P w K mg base CX0 k fI fd ["self", y] (spIni C y) := by
  refine ⟨fun vs H Q E h => ?_, fun A outer s H args us vs Q E hr he hb hv h => ?_⟩
  · obtain ⟨a, v, rfl, _⟩ := h
    rfl
  obtain ⟨a, v, rfl, ea, kQ⟩ := h
  obtain ⟨u1, u, rfl, r1, rv⟩ := vals2 hv
  obtain rfl : u1 = Value.ref a := r1
  obtain ⟨t0, hx⟩ := exo_at he.hok ea
  obtain ⟨mb, hmb, hbb⟩ := he.mod.blt
  have kin : K.In s.heap := fun b o e => (he.bs b o (he.mod.kin b o e)).1
  have hnx : K.lookup a = none := by
    cases z : K.lookup a with
    | none => rfl
    | some o =>
      have := (he.bs a o (he.mod.kin a o z)).2
      rw [ea] at this
      cases this
  have bk : ∀ b o, base.get? b = some o → s.heap.get? b = some o := fun b o e => (he.bs b o e).1
  refine PySem.Ini.run (v := u) T kin (he.mod.nolimit.keeps bk) hx hnx (by have := hr.dp; omega) (he.mod.glob.keeps bk) (hmb.keeps bk) ((hbb "super" (by decide)).trans (by first | rfl | decide +kernel)) hys hyd (fun fd' lk' => ?_) fun h' tk dx t1 k5 dn dne hx5 hn5 => ?_
  · obtain ⟨oc, od, osl, e1⟩ := lk
    obtain ⟨oc', od', osl', e2⟩ := lk'
    rw [e1] at e2
    cases e2
    exact hb
  have hnd : H dx = none := he.hok.fresh dn
  have nd : ∀ {b : Addr} {o : Obj}, s.heap.get? b = some o → b ≠ dx := fun {b o} q => Nat.ne_of_lt (Nat.lt_of_lt_of_le (Heap.lt_size q) dn)
  have na : ∀ {b : Addr}, H b = none → b ≠ a := fun {b} n z => by
    rw [z, ea] at n
    cases n
  refine ⟨.non, upd (upd H dx (exd dx [(y, v)])) a (exo a C (some dx)), rfl, he.bare, {
    keep := fun b o q n _ _ => k5 b o (na n) q
    slot := fun b o q n _ _ => ⟨o.slots, k5 b o (na n) q⟩
    free := fun b o q n _ => by rw [upd_ne (na n), upd_ne (nd q)]; exact n
    there := fun b o q _ => by
      by_cases hb : b = a
      · exact ⟨_, by rw [hb]; exact hx5⟩
      · exact ⟨o, k5 b o hb q⟩
    tups := fun b xs q => by rw [upd_ne (at_ne ea q exo_tup), upd_ne (ne_of_none q hnd)]; exact q
    frzs := fun b o v q => by rw [upd_ne (at_ne ea q exo_frz), upd_ne (ne_of_none q hnd)]; exact q
    tbls := fun b ps q => ⟨#[], by rw [upd_ne (at_ne ea q exo_tbl), upd_ne (ne_of_none q hnd), q]; simp⟩ }, fun b o q => ?_, rfl, kQ dx hnd dne⟩
  by_cases hb : b = a
  · subst hb
    rw [upd_same] at q
    cases q
    exact exo_ok hx5
  · rw [upd_ne hb] at q
    by_cases hd : b = dx
    · subst hd
      rw [upd_same] at q
      cases q
      exact exd_ok hn5 (relO_put (fs := []) rv fun g => True.intro)
    · rw [upd_ne hd] at q
      exact (he.hok b o q).stay (fun c v hc z => k5 c v (by
          rcases hc with hc | hc
          · rw [hc]
            exact hb
          · exact at_ne ea hc exo_own) z)
        (fun c hc => by rw [upd_ne (at_ne ea hc exo_own), upd_ne (ne_of_none hc hnd)]; exact hc) (fun c xs hc => by rw [upd_ne (at_ne ea hc exo_tup), upd_ne (ne_of_none hc hnd)]; exact hc)
end
end DL
set_option Elab.async false
set_option linter.all false
set_option maxRecDepth 100000
set_option maxHeartbeats 4000000
/-! DL11: exceptions as values: made, their field, isinstance -/
namespace DL
open PySem PySem.Spec L2 PyProof.Rows

/-- an own error class without __init__ of its own -/
structure EcP (K : PySem.W.Frag) (mg : Str → Option Value) (C : Addr) (x : Str) : Prop where
  g : mg x = some (.ref C)
  k : PySem.W.keepIn K (.ref C) = true
  q : PySem.W.excIn K C [.type "ValueError", .type "Exception", .type "BaseException", .type "object"] "ValueError.__new__" = true
  is : ExcC K C
/-- an own error class whose __init__ says super().__init__(text) and self.y = y -/
structure EcI (P : Program) (K : PySem.W.Frag) (mg : Str → Option Value) (C : Addr) (x y : Str) : Prop where
  g : mg x = some (.ref C)
  k : PySem.W.keepIn K (.ref C) = true
  is : ExcC K C
  ex : OexC K C
  ini : ∃ (q : Str) (fI : Addr) (fd : FuncData), PySem.Ini.Txt P K mg q y C fI ∧ (∃ oc od osl, K.lookup fI = some ⟨oc, od, .func fd, osl⟩) ∧ PySem.W.findIn K (.ref C) "__init__" = some (some (.ref fI)) ∧ PySem.W.typeIn K (.ref fI) = some (.type "function") ∧ Binds K fd ["self", y] []
  self : y ≠ "self"
  dbg : (y == ("__debug__" : Str)) = false

theorem ex2_own {e C x : Addr} {d : Option Addr} : excO2 e C d ≠ .own x := fun z => by
  have z' : HO.ext _ = HO.own x := z
  cases z'
theorem ex2_tup {e C : Addr} {d : Option Addr} {xs : List V} : excO2 e C d ≠ .tup xs := fun z => by
  have z' : HO.ext _ = HO.tup xs := z
  cases z'
theorem ex2_ok {P : Program} {w : World} {H : Hp} {h : Heap} {e C : Addr} {d : Option Addr} {oe : Obj} {vs : Array Value} (he : h.get? e = some oe) (h1 : oe.cls = .ref C) (h2 : oe.dict = d) (h3 : oe.data = .fields vs) : ObjOk P w H h e (excO2 e C d) :=
  ⟨⟨oe, vs, he, h1, h2, h3⟩, ⟨oe, he⟩, fun _ _ ⟨o, v, q, r⟩ k => ⟨o, v, k o q, r⟩⟩
theorem ex2_at {P : Program} {w : World} {H : Hp} {h : Heap} {e C : Addr} {d : Option Addr} (hok : HOk P w H h) (he : H e = some (excO2 e C d)) : ∃ (oe : Obj) (vs : Array Value), h.get? e = some oe ∧ oe.cls = .ref C ∧ oe.dict = d ∧ oe.data = .fields vs := by
  have x : ObjOk P w H h e (.ext fun h => ∃ (oe : Obj) (vs : Array Value), h.get? e = some oe ∧ oe.cls = .ref C ∧ oe.dict = d ∧ oe.data = .fields vs) := hok e _ he
  exact x.1
section
variable {X : Cx} {pins : List (Addr × Obj)} {σ : L2.St} {H : Hp} {s : Shared}
/-- two new objects laid and tracked: an exception and its dict -/
theorem laidE {h' : Heap} {a dx C t1 : Addr} {y : Str} {v : V} {u : Value} {t' : Nat} (I : Inv X pins σ H s) (k : ∀ b o, s.heap.get? b = some o → h'.get? b = some o) (ha : s.heap.objs.size ≤ a) (hd : s.heap.objs.size ≤ dx) (ne : dx ≠ a) (hn : h'.Ns1 dx (fun z => if z = y then some u else none)) (rv : RelV v u)
    (hx : h'.get? a = some ({ cls := .ref C, dict := some dx, data := .fields #[.ref t1, .none, .none, .none, .bool false, .none] } : Obj)) : Inv X pins σ (upd (upd H dx (.xd [(y, v)])) a (excO2 a C (some dx))) { s with heap := h', toks := t' } := by
  have na : H a = none := I.hok.fresh ha
  have nd : H dx = none := I.hok.fresh hd
  have lt : ∀ {b : Addr} {o : Obj}, s.heap.get? b = some o → ∀ {c : Addr}, s.heap.objs.size ≤ c → b ≠ c := fun {b o} q {c} hc => Nat.ne_of_lt (Nat.lt_of_lt_of_le (Heap.lt_size q) hc)
  have Un1 : Un X.fs [] H (upd (upd H dx (.xd [(y, v)])) a (excO2 a C (some dx))) s.heap h' := {
    keep := fun b o q n _ _ => k b o q
    slot := fun b o q n _ _ => ⟨o.slots, k b o q⟩
    free := fun b o q n _ => by rw [upd_ne (lt q ha), upd_ne (lt q hd)]; exact n
    there := fun b o q _ => ⟨o, k b o q⟩
    tups := fun b xs q => by rw [upd_ne (ne_of_none q na), upd_ne (ne_of_none q nd)]; exact q
    frzs := fun b o v q => by rw [upd_ne (ne_of_none q na), upd_ne (ne_of_none q nd)]; exact q
    tbls := fun b ps q => ⟨#[], by rw [upd_ne (ne_of_none q na), upd_ne (ne_of_none q nd), q]; simp⟩ }
  refine I.un (t' := t') Un1 fun b o q => ?_
  by_cases hb : b = a
  · subst hb
    rw [upd_same] at q
    cases q
    exact ex2_ok hx rfl rfl rfl
  · rw [upd_ne hb] at q
    by_cases hd : b = dx
    · subst hd
      rw [upd_same] at q
      cases q
      exact ⟨_, hn, relO_put (fs := []) rv fun g => True.intro⟩
    · rw [upd_ne hd] at q
      exact (I.hok b o q).stay (fun c v hc z => k c v z)
        (fun c hc => by rw [upd_ne (ne_of_none hc na), upd_ne (ne_of_none hc nd)]; exact hc) (fun c xs hc => by rw [upd_ne (ne_of_none hc na), upd_ne (ne_of_none hc nd)]; exact hc)
/-- C(e): a new exception with its field -/
theorem pe_oex {C : Addr} {x y : Str} {e : Expr} {te : TE} {p pos : Pos} {k : Nat} (T : EcI X.prog X.K X.mg C x y) (hr : Room (k + 1) X.A) (hg : Gl X x) (he : PE X e te)
    (hdb : (x == ("__debug__" : Str)) = false := by decide) (hs : starEach [e] X.env = (false, eval e X.env) :: starEach [] X.env := by rfl) (hpl : (backTo pos (starEach [] X.env)).any (·.1) = false := by rfl) :
    PE X (.Call (.Name x p) [e] [] pos) (fun σ H Q => te σ H fun v H1 => ∀ a dx, H1 a = none → H1 dx = none → dx ≠ a → Q (.ref a) (upd (upd H1 dx (.xd [(y, v)])) a (excO2 a C (some dx)))) := by
  refine ⟨fun pins s σ H Q I h => ?_⟩
  obtain ⟨q, fI, fd, Tx, lk, iC, tI, hb⟩ := T.ini
  obtain ⟨nm, qq, N, bs, bm, sn, sub, ab, col, dd, k0, k1, k2, k3, k5, hC, hbm⟩ := T.ex.cls
  refine wpAny_Call_Name_kw (ld_glob I hg T.g ?_ hdb)
  refine PySem.W.callWith_K (h₀ := X.base) I.ok.mod.kin T.k ?_ hs hpl
  rw [hs]
  show wpAny _ _ (spliced ((false, eval e X.env) :: backTo pos (starEach [] X.env))) _ _ s
  refine Calls.spliced_cons (thn (he.run pins s σ H _ I h) fun u s1 ⟨v, H1, I1, rv, q1⟩ => ?_)
  refine Calls.spliced_nil ⟨I1.kIn, ?_⟩
  show wpAny _ _ (call (.ref C) [u]) _ _ _
  have hlim := I1.nolimit
  have hm := I1.ok.mod
  have bs' := I1.bs
  obtain ⟨hp, g, dr, tk, os⟩ := s1
  have kk : ∀ b o, hp.get? b = some o → ((hp.push (PySem.W.kdv_tup [u])).push (PySem.HandSPX.excO C hp.objs.size)).get? b = some o := fun b o e => Heap.get?_push_of_some _ (Heap.get?_push_of_some _ e)
  have hget : ((hp.push (PySem.W.kdv_tup [u])).push (PySem.HandSPX.excO C hp.objs.size)).get? (hp.objs.size + 1) = some (PySem.HandSPX.excO C hp.objs.size) := by heap_get
  have bk : ∀ b o, X.base.get? b = some o → ((hp.push (PySem.W.kdv_tup [u])).push (PySem.HandSPX.excO C hp.objs.size)).get? b = some o := fun b o e => kk b o (bs' b o e).1
  obtain ⟨mb, hmb, hbb⟩ := hm.blt
  have kin2 : X.K.In ((hp.push (PySem.W.kdv_tup [u])).push (PySem.HandSPX.excO C hp.objs.size)) := fun b o e => bk b o (hm.kin b o e)
  have hnx : X.K.lookup (hp.objs.size + 1) = none := by
    cases z : X.K.lookup (hp.objs.size + 1) with
    | none => rfl
    | some o =>
      have z2 : hp.get? (hp.objs.size + 1) = some o := (bs' _ _ (hm.kin _ _ z)).1
      exact absurd (Nat.lt_of_succ_lt (Heap.lt_size z2)) (Nat.lt_irrefl _)
  refine wpAny_call (PySem.HandSPX.call_own F.excBase_ValueError (fun Y => PySem.HandSPX.refsVE_contains Y bm hbm) (I1.kIn _ _ hC) (PySem.W.looks_findIn I1.kIn iC) (fun self => PySem.W.bind_fn I1.kIn self tI) (by show 1 ≤ sizeLine; rw [sizeLine_eq]; decide)
    (PySem.Ini.run (s := ⟨(hp.push (PySem.W.kdv_tup [u])).push (PySem.HandSPX.excO C hp.objs.size), g, dr, tk, os⟩) (v := u) Tx kin2 (hlim.keeps kk) hget hnx (by have := (hr.make C [u] []).dp; omega) (hm.glob.keeps bk) (hmb.keeps bk) ((hbb "super" (by decide)).trans (by first | rfl | decide +kernel)) T.self T.dbg (fun fd' lk' => ?_) fun h' tk' dx t1 k5 dn dne hx5 hn5 => ?_))
  · obtain ⟨oc, od, osl, e1⟩ := lk
    obtain ⟨oc', od', osl', e2⟩ := lk'
    rw [e1] at e2
    cases e2
    have b := hb ⟨(hp.push (PySem.W.kdv_tup [u])).push (PySem.HandSPX.excO C hp.objs.size), g, dr, tk, os⟩ [.ref (hp.objs.size + 1), u] kin2 rfl
    exact b
  · have old : ∀ b o, hp.get? b = some o → h'.get? b = some o := fun b o e => k5 b o (Nat.ne_of_lt (Nat.lt_succ_of_lt (Heap.lt_size e))) (kk b o e)
    have sz : hp.objs.size ≤ dx := Nat.le_trans (Nat.le_trans (Nat.le_succ _) (Nat.le_succ _)) (by
      have z := dn
      first
        | exact z
        | (simpa only [Heap.size_push] using z))
    have J := laidE (t' := tk') I1 old (Nat.le_succ _) sz dne hn5 rv hx5
    exact ⟨rfl, .ref (hp.objs.size + 1), _, J, rfl, q1 _ dx (I1.hok.fresh (Nat.le_succ _)) (I1.hok.fresh sz) dne⟩
/-- C(e), C without an own __init__ -/
theorem pe_pex {C : Addr} {x : Str} {e : Expr} {te : TE} {p pos : Pos} (T : EcP X.K X.mg C x) (hg : Gl X x) (he : PE X e te) (hdb : (x == ("__debug__" : Str)) = false := by decide) (hs : starEach [e] X.env = (false, eval e X.env) :: starEach [] X.env := by rfl) :
    PE X (.Call (.Name x p) [e] [] pos) (fun σ H Q => te σ H fun _ H1 => ∀ a, H1 a = none → Q (.ref a) (upd H1 a (excO2 a C none))) := by
  refine ⟨fun pins s σ H Q I h => ?_⟩
  refine wpAny_Call_Name_kw (ld_glob I hg T.g ?_ hdb)
  refine PySem.W.callWith_K (h₀ := X.base) I.ok.mod.kin T.k ?_ hs (by rfl)
  rw [hs]
  show wpAny _ _ (spliced ((false, eval e X.env) :: backTo pos (starEach [] X.env))) _ _ s
  refine Calls.spliced_cons (thn (he.run pins s σ H _ I h) fun u s1 ⟨v, H1, I1, r1, q1⟩ => ?_)
  refine Calls.spliced_nil ⟨I1.kIn, ?_⟩
  show wpAny _ _ (call (.ref C) [u]) _ _ _
  obtain ⟨bm, N, nm, qn, bs, hdct, sn, sub, ab, col, dd, k0, k1, k2, k3, k5, mN, hC, hN, hni, Tl⟩ := exc_obj I1.kIn T.q
  refine wpAny_call_exc_subT F.excBase_ValueError Tl hC hN hni (fun h' a hm => ?_) (by show 1 ≤ sizeLine; rw [sizeLine_eq]; omega)
  have hn : H1 a = none := I1.hok.gone hm.new
  obtain ⟨t, ht, _, _⟩ := hm.there
  exact ⟨.ref a, upd H1 a (excO2 a C none), I1.laidN hm.keeps hm.new hn (ex2_ok ht rfl rfl rfl), rfl, q1 a hn⟩
/-- e.f, e an exception -/
theorem pe_fld {e : Expr} {te : TE} {pos : Pos} {n : Str} (he : PE X e te) (hb : attributeBase e n X.env (eval e X.env) = eval e X.env := by rfl) :
    PE X (.Attribute e n pos) (fun σ H Q => te σ H fun x H1 => ∃ (a C dx : Addr) (v : V), ExcC X.K C ∧ PySem.W.findIn X.K (.ref C) n = some none ∧ x = .ref a ∧ H1 a = some (excO2 a C (some dx)) ∧ H1 dx = some (.xd [(n, v)]) ∧ Q v H1) := by
  refine ⟨fun pins s σ H Q I h => ?_⟩
  refine attr_of hb (thn (he.run pins s σ H _ I h) fun u s1 hh => ?_)
  obtain ⟨x, H1, I1, rx, a, C, dx, v, T, hno, ex, ea, ed, q⟩ := hh
  subst ex
  obtain rfl : u = Value.ref a := rx
  obtain ⟨oe, vs, ha, h1, h2, h3⟩ := ex2_at I1.hok ea
  have hx : ObjOk X.prog X.w H1 s1.heap dx (.xd [(n, v)]) := I1.hok dx _ ed
  obtain ⟨mA, hns, hr⟩ := hx
  obtain ⟨od, ho, hl⟩ := lookIn_ns hns
  obtain ⟨u, hu, ru⟩ := RelO.some_of (v := v) (o := mA n) (by have z := hr n; rwa [lookup_put, if_pos rfl] at z)
  have J : PySem.W.InstAt s1.heap a oe C (some od) := ⟨ha, h1, by unfold PySem.W.notCls; rw [h3] <;> rfl, by rw [h2]; exact ho⟩
  exact PySem.HandSPX.exc_get I1.kIn J T.hg T.hk T.hs (PySem.W.findObj_own T.hd hno rfl (by rw [hl, hu])) (handed_of ru) ⟨v, H1, I1.tok _, ru, q⟩
/-- isinstance(x, C): x an exception, or a value whose type is told -/
theorem call_isx : CallR X (.builtin "isinstance") (fun xs H Q => ∃ (x c : V) (cv : Value) (b : Bool), xs = [x, c] ∧ ClsV c cv ∧
    ((∃ (a C : Addr) (d : Option Addr), x = .ref a ∧ H a = some (excO2 a C d) ∧ (d = none ∨ ∃ (dx : Addr) (fs : List (Str × V)), d = some dx ∧ H dx = some (.xd fs)) ∧ ExcC X.K C ∧ PySem.W.kitOne X.K (.ref C) cv = some b) ∨ (∃ t, TyX X.K H x t ∧ PySem.W.kitOne X.K t cv = some b)) ∧ Q (.bl b) H) := by
  intro pins s σ H xs us Q I r h
  obtain ⟨x, c, cv, b, rfl, k, h, q⟩ := h
  obtain ⟨u1, u2, rfl, r1, r2⟩ := vals2 r
  have e2 := k.eq r2
  subst e2
  rcases h with ⟨a, C, d, rfl, ea, hd, T, e⟩ | ⟨t, ty, e⟩
  · obtain rfl : u1 = Value.ref a := r1
    obtain ⟨oe, vs, ha, h1, h2, h3⟩ := ex2_at I.hok ea
    obtain ⟨od, ho⟩ : ∃ od : Option Obj, PySem.W.InstAt s.heap a oe C od := by
      have hc : PySem.W.notCls oe = true := by unfold PySem.W.notCls; rw [h3] <;> rfl
      rcases hd with rfl | ⟨dx, fs, rfl, ed⟩
      · exact ⟨none, ha, h1, hc, by rw [h2]; exact True.intro⟩
      · have hx : ObjOk X.prog X.w H s.heap dx (.xd fs) := I.hok dx _ ed
        obtain ⟨mA, ⟨o, es, ep, ho, _⟩, hr⟩ := hx
        exact ⟨some o, ha, h1, hc, by rw [h2]; exact ho⟩
    have hcl : (PySem.W.clsIn X.K C).isSome = true := by
      obtain ⟨cd, z, _⟩ := PySem.W.any_some T.hd
      rw [z]; rfl
    exact PySem.W.kia_one (PySem.W.kitx_exc hcl T.hg T.hk T.hs T.ha T.hn T.ht T.hm) I.kIn ho e (fun z => nomatch z) fun tk => ⟨.bl b, H, I.tok tk, rfl, q⟩
  · obtain ⟨P, Z, p, hx⟩ := kit_of I r1 ty
    exact PySem.W.kia_one Z I.kIn p e hx fun tk => ⟨.bl b, H, I.tok tk, rfl, q⟩
end

/-! ### lifted -/
section
variable {X : Cx} {G : Go} {Wx : WX} {e : Expr} {r1 : Rl} {ma : Mv} {x y : Str} {p pos p2 : Pos} {w : Nat}
/-- C(e), C with the field y -/
def oExc (c : Nat) : Op1 := fun d k _ => k (.exc c d)
def oExcP (c : Nat) : Op1 := fun _ k _ => k (.exc c .non)
theorem pd_exc [s1 : Sub r1 DVr] {C : Addr} {k : Nat} (c : Nat) (T : EcI X.prog X.K X.mg C x y) (hc : G.ec c = C) (hf : G.ef c = some y) (hr : Room (k + 1) X.A) (ha : PE X e (LR w r1 G Wx ma)) (hg : Gl X x := by rfl)
    (hdb : (x == ("__debug__" : Str)) = false := by decide) (hs : starEach [e] X.env = (false, eval e X.env) :: starEach [] X.env := by rfl) (hpl : (backTo pos (starEach [] X.env)).any (·.1) = false := by rfl) :
    PE X (.Call (.Name x p) [e] [] pos) (LR w DVr G Wx (m1 (oExc c) ma)) := peW (pe_oex T hr hg ha hdb hs hpl) fun σ H Q ⟨P, ρ, k, e, r, q, hk, hx⟩ =>
  ⟨P, ρ, _, e, r, q, fun d kd v H1 s z a dx na nd ne => by
    have r1 := r.step s
    have z : DV G P.W P.avo H1 d v := s1.sub z
    have t1 := r1.fresh (o := .xd [(y, v)]) nd
    have r2 := r1.step t1
    have na' : (upd H1 dx (.xd [(y, v)])) a = none := by rw [upd_ne ne.symm]; exact na
    have t2 := r2.fresh (o := excO2 a C (some dx)) na'
    refine hk _ kd _ _ ((s.trans t1).trans t2) ?_
    show DV G P.W P.avo _ (.exc c d) (.ref a)
    simp only [DV]
    refine ⟨a, some dx, rfl, r1.freshAv na, by rw [upd_same, hc], .inr ⟨y, dx, v, hf, rfl, r1.freshAv nd, ?_, ?_⟩⟩
    · rw [upd_ne ne, upd_same]
    · exact (z.keep (t1.toStp.keepA r1.sO)).keep (t2.toStp.keepA r2.sO), hx⟩
theorem pd_excP [s1 : Sub r1 DBr] {C : Addr} (c : Nat) (T : EcP X.K X.mg C x) (hc : G.ec c = C) (hf : G.ef c = none) (ha : PE X e (LR w r1 G Wx ma)) (hg : Gl X x := by rfl)
    (hdb : (x == ("__debug__" : Str)) = false := by decide) (hs : starEach [e] X.env = (false, eval e X.env) :: starEach [] X.env := by rfl) :
    PE X (.Call (.Name x p) [e] [] pos) (LR w DVr G Wx (m1 (oExcP c) ma)) := peW (pe_pex T hg ha hdb hs) fun σ H Q ⟨P, ρ, k, e, r, q, hk, hx⟩ =>
  ⟨P, ρ, _, e, r, q, fun d kd v H1 s z a na => by
    have r1 := r.step s
    have t1 := r1.fresh (o := excO2 a C none) na
    refine hk _ kd _ _ (s.trans t1) ?_
    show DV G P.W P.avo _ (.exc c .non) (.ref a)
    simp only [DV]
    exact ⟨a, none, rfl, r1.freshAv na, by rw [upd_same, hc], .inl ⟨hf, rfl⟩⟩, hx⟩
/-- e.y -/
def oFld (ef : Nat → Option Str) (n : Str) : Op1 := fun d k _ => ∃ c x, d = .exc c x ∧ ef c = some n ∧ k x
theorem pd_fld [s1 : Sub r1 DBr] {n : Str} (hE : ∀ c, G.ef c = some n → ExcC X.K (G.ec c) ∧ PySem.W.findIn X.K (.ref (G.ec c)) n = some none) (ha : PE X e (LR w r1 G Wx ma)) (hb : attributeBase e n X.env (eval e X.env) = eval e X.env := by rfl) :
    PE X (.Attribute e n pos) (LR w DVr G Wx (m1 (oFld G.ef n) ma)) := peW (pe_fld ha hb) fun σ H Q ⟨P, ρ, k, e, r, q, hk, hx⟩ =>
  ⟨P, ρ, _, e, r, q, fun d ⟨c, y, ed, ef, kd⟩ v H1 s z => by
    subst ed
    have z2 : DBr G P H H1 (.exc c y) v := s1.sub z
    rcases z2 with z2 | ⟨i, a, _, rfl, z2⟩
    · simp only [DV] at z2
      obtain ⟨a, d, rfl, _, ea, ⟨e1, _⟩ | ⟨f, dx, v, e1, rfl, _, ed, hv⟩⟩ := z2
      · rw [ef] at e1; cases e1
      · rw [ef] at e1; cases e1
        obtain ⟨T, hno⟩ := hE c ef
        exact ⟨a, _, dx, v, T, hno, rfl, ea, ed, hk _ kd _ H1 s hv⟩
    · exact z2.elim, hx⟩
/-- isinstance(e, C) -/
def oIsx (sub : D → Option Bool) : Op1 := fun d k _ => ∃ b, sub d = some b ∧ k (.bl b)
/-- how isinstance answers for C -/
structure IsA (K : PySem.W.Frag) (G : Go) (cv : Value) (sub : D → Option Bool) : Prop where
  exc : ∀ c x b, sub (.exc c x) = some b → ExcC K (G.ec c) ∧ PySem.W.kitOne K (.ref (G.ec c)) cv = some b
  ty : ∀ d t b, tyN d = some t → sub d = some b → PySem.W.kitOne K (.type t) cv = some b
  no : ∀ d, (∀ c x, d ≠ .exc c x) → tyN d = none → sub d = none
theorem does_isx {σ : L2.St} {H H1 : Hp} {P : Pt} {ρ : Env} {sub : D → Option Bool} {cv : Value} {d : D} {v : V} {b : Bool} (hA : IsA G.K G cv sub) (z : DBr G P H H1 d v) (e : sub d = some b) :
    (∃ (a C : Addr) (dd : Option Addr), v = .ref a ∧ H1 a = some (excO2 a C dd) ∧ (dd = none ∨ ∃ (dx : Addr) (fs : List (Str × V)), dd = some dx ∧ H1 dx = some (.xd fs)) ∧ ExcC G.K C ∧ PySem.W.kitOne G.K (.ref C) cv = some b) ∨ (∃ t, TyX G.K H1 v t ∧ PySem.W.kitOne G.K t cv = some b) := by
  by_cases hx : ∃ c x, d = .exc c x
  · obtain ⟨c, y, rfl⟩ := hx
    rcases z with z | ⟨i, a, _, rfl, z⟩
    · simp only [DV] at z
      obtain ⟨a, dd, rfl, _, ea, hd⟩ := z
      obtain ⟨T, ek⟩ := hA.exc c y b e
      exact .inl ⟨a, _, dd, rfl, ea, hd.imp (fun z => z.2) fun ⟨f, dx, v, _, e2, _, e3, _⟩ => ⟨dx, _, e2, e3⟩, T, ek⟩
    · exact z.elim
  · cases ht : tyN d with
    | none => rw [hA.no d (fun c x e => hx ⟨c, x, e⟩) ht] at e; cases e
    | some t => exact .inr ⟨_, tyX_of (P := P) (show DBr G P H1 H1 d v from z) ht, hA.ty d t b ht e⟩
theorem pd_isx [s1 : Sub r1 DBr] {C : Addr} {p1 : Pos} (sub : D → Option Bool) (hA : IsA X.K G (.ref C) sub) (hm : X.mg "isinstance" = none) (hC : X.mg x = some (.ref C)) (ha : PE X e (LR w r1 G Wx ma)) (hK : G.K = X.K := by rfl) (hg : Gl X "isinstance" := by rfl) (hgC : Gl X x := by rfl) (hdC : (x == ("__debug__" : Str)) = false := by decide)
    (he : starEach [e, .Name x p2] X.env = (false, eval e X.env) :: starEach [.Name x p2] X.env := by rfl) (he2 : starEach [.Name x p2] X.env = (false, eval (.Name x p2) X.env) :: starEach [] X.env := by rfl) (hpl : (backTo pos (starEach [.Name x p2] X.env)).any (·.1) = false := by rfl) :
    PE X (.Call (.Name "isinstance" p1) [e, .Name x p2] [] pos) (LR w DVr G Wx (m1 (oIsx sub) ma)) :=
  peW (pe_callB call_isx hg hm (by decide +kernel) (pa_cons ha (pa_cons (pe_glob (v := .ref C) hgC hC rfl hdC) pa_nil he2) he) (by decide) (by decide) he hpl) fun σ H Q ⟨P, ρ, k, e, r, q, hk, hx⟩ =>
  ⟨P, ρ, _, e, r, q, fun d ⟨b, eb, kd⟩ v H1 s z => by
    have z2 := does_isx (σ := σ) (ρ := ρ) (by rw [hK]; exact hA) (show DBr G P H H1 d v from s1.sub z) eb
    rw [hK] at z2
    exact ⟨v, .ref C, .ref C, b, rfl, .own C, z2, hk _ kd _ H1 s (by simp only [DVr, DV])⟩, hx⟩
end
end DL
set_option Elab.async false
set_option linter.all false
set_option maxRecDepth 100000
set_option maxHeartbeats 4000000
/-! DL12: the laws' draws: what _law_blended and _law_draw do to the state -/
namespace DL
open PySem PySem.Spec L2

/-! ### ** of wide numbers -/
def CPowB (i j : Int) : Prop := 0 ≤ j ∧ (Builtin.Int.intBits i : Int) * j ≤ 2 ^ 27
theorem op_powB {X : Cx} : OpR X (binaryOp .Pow) (rI CPowB fun i j => .int (i ^ j.toNat)) := opI fun _ _ _ _ _ _ _ hc q => PyProof.Rows.pow_int hc.1 hc.2 q
theorem bits_lt {i : Int} {n : Nat} (h : i.natAbs < 2 ^ n) : Builtin.Int.intBits i ≤ n := by
  unfold Builtin.Int.intBits
  split
  · exact Nat.zero_le _
  · rename_i hz
    have hz' : i.natAbs ≠ 0 := fun e => hz (by first | (simp [Int.natAbs_eq_zero.mp e]; done) | exact e | (rw [Int.natAbs_eq_zero.mp e]; rfl))
    exact (Nat.log2_lt hz').mpr h

/-! ### the state -/
section
variable {hd : Nat → Addr} {rest turn t : Int}
theorem st_great : valV (stD hd rest turn) (.inr "great") = some (.ref (hd 1)) := by first | rfl | (simp [valV, stD]; done) | decide
theorem st_cells : valV (stD hd rest turn) (.inr "cells") = some (.ref (hd 2)) := by first | rfl | (simp [valV, stD]; done) | decide
theorem st_rest : valV (stD hd rest turn) (.inr "rest") = some (.int rest) := by first | rfl | (simp [valV, stD]; done) | decide
theorem st_turn : valV (stD hd rest turn) (.inr "turn") = some (.int turn) := by first | rfl | (simp [valV, stD]; done) | decide
theorem st_putRest : putK (stD hd rest turn) (.inr "rest") (.int t) = stD hd t turn := by first | rfl | (simp [putK, stD]; done) | decide
theorem st_putTurn : putK (stD hd rest turn) (.inr "turn") (.int t) = stD hd rest t := by first | rfl | (simp [putK, stD]; done) | decide
end
/-- what stays in a draw -/
def Off0 (hd : Nat → Addr) (H H' : Hp) : Prop := ∀ b, b ≠ hd 0 → ∀ o, H b = some o → H' b = some o
def Off1 (hd : Nat → Addr) (H H' : Hp) : Prop := ∀ b, b ≠ hd 0 → b ≠ hd 1 → ∀ o, H b = some o → H' b = some o

/-! ### _law_blended -/
def rAddI : R2 := rI0 fun i j => .int (i + j)
def rMulI : R2 := rI CMul fun i j => .int (i * j)
def rDivI : R2 := rI CDiv fun i j => .int (i / j)
def rModI : R2 := rI (fun _ j => 0 < j) fun i j => .int (i % j)
def rPowI : R2 := rI CPowB fun i j => .int (i ^ j.toNat)
def rIntI : List V → Hp → VK → Prop := fun xs H Q => (∃ i, xs = [.int i] ∧ Q (.int i) H) ∨ ∃ k, xs = [.bl k] ∧ Q (.int (if k then 1 else 0)) H
def tS (k : Str) : TE := tDGet (tVar 0) (tC (.str k))
/-- slots: state, turn, found, prime, blend, cell -/
abbrev n_bl : List Str := ["state", "turn", "found", "prime", "blend", "cell"]
def t_cell : TS := tAsg (tOp rModI (tCB rIntI (tCons (tOp rAddI (tOp rAddI (tOp rMulI (tVar 4) (tC (.int 69621))) (tVar 5)) (tVar 1)) tNil)) (tVar 3)) (gName 4)
def t_prime (K : PySem.W.Frag) : TS := tSeq (tAsg (tOp rAddI (tOp rMulI (tC (.int 48271)) (tVar 1)) (tOp rDivI (tVar 3) (tC (.int 53)))) (gName 4))
  (tSeq (tFor (iList K (tS "cells")) (gName 5) t_cell)
    (tAsg (tOp rAddI (tOp rMulI (tVar 2) (tC (.int 2147483647))) (tOp rModI (tCB rIntI (tCons (tOp rPowI (tVar 4) (tC (.int 5))) tNil)) (tVar 3))) (gName 2)))
def t_bl (K : PySem.W.Frag) : TS := tSeq (tPar 1 2 (tCons (tOp rAddI (tS "turn") (tC (.int 1))) (tCons (tC (.int 0)) tNil)))
  (tSeq (sDPut (tVar 0) (tC (.str "turn")) (tVar 1))
    (tSeq (tFor (iList K (tLst (tCons (tC (.int 2147483579)) (tCons (tC (.int 2147483629)) (tCons (tC (.int 2147483563)) tNil))))) (gName 3) (t_prime K))
      (tRet (tVar 2))))
def spBl : Sp := fun vs H Q _ => ∃ (hd : Nat → Addr) (n : Nat), vs = [.ref (hd 0)] ∧ DrawSt hd H n ∧ n + 1 ≤ Bt ∧ ∀ (z : Int) (H' : Hp), 0 ≤ z → DrawSt hd H' (n + 1) → Off0 hd H H' → Q (.int z) H'
/-- a blend that the fifth power bears -/
def Mild (z : Int) : Prop := 0 ≤ z ∧ z.natAbs < 2 ^ 400
theorem mild_of {z : Int} (h : 0 ≤ z) (l : z < 2 ^ 400) : Mild z := ⟨h, by omega⟩
theorem pure_cell {K : PySem.W.Frag} {a : Addr} {cs : List Int} {turn p f b0 : Int} {x5 : Option V} {s : V} {H : Hp} {D : Ends} (hl : H a = some (.lst (cs.map V.int))) (hc : ∀ z ∈ cs, 0 ≤ z) (ht : 0 ≤ turn) (hp : 0 < p) (hp2 : p < 2 ^ 32) (hb : Mild b0)
    (k : ∀ b x5, Mild b → D.nx [some s, some (.int turn), some (.int f), some (.int p), some (.int b), x5] H) (hbk : D.bk = D.bk) :
    ∃ W : Nat → Nat → St → Hp → Prop, (∃ m, W 0 m [some s, some (.int turn), some (.int f), some (.int p), some (.int b0), x5] H) ∧ ∀ i m σ H, W i m σ H →
      ((Itl K a).stop i H ∧ D.nx σ H) ∨ ((Itl K a).go i H ∧ ∃ N : St → Hp → Prop, (∀ σ' H', N σ' H' → ∃ m', m' < m ∧ W (i + 1) m' σ' H') ∧ ∀ x H', (Itl K a).yld i H x H' → gName 5 x σ H' fun σ2 H2 => t_cell { D with nx := N, ct := N, bk := D.nx } σ2 H2) := by
  refine for_list (xs := cs.map V.int) (fun i σ H' => H' = H ∧ ∃ b x5, Mild b ∧ (i = 0 ∨ b < p) ∧ σ = [some s, some (.int turn), some (.int f), some (.int p), some (.int b), x5]) ⟨rfl, b0, x5, hb, .inl rfl, rfl⟩ (fun i σ H' _ ⟨e, _⟩ => by rw [e]; exact SqL.of hl) ?_ ?_
  · rintro i x σ H' hi ⟨rfl, b, x5, hb, _, rfl⟩
    obtain ⟨z, hz, rfl⟩ : ∃ z, z ∈ cs ∧ x = V.int z := by
      rw [List.getElem?_map] at hi
      cases e : cs[i]? with
      | none => rw [e] at hi; cases hi
      | some z => rw [e] at hi; exact ⟨z, List.mem_of_getElem? e, (Option.some.inj hi).symm⟩
    have z0 := hc z hz
    refine ⟨_, rfl, b, 69621, rfl, rfl, .inr ⟨by decide, by decide⟩, _, rfl, _, _, rfl, rfl, _, rfl, _, _, rfl, rfl, .inl ⟨_, rfl, _, rfl, _, p, rfl, rfl, hp, ?_⟩⟩
    have h1 := Int.emod_nonneg (b * 69621 + z + turn) (Int.ne_of_gt hp)
    have h2 := Int.emod_lt_of_pos (b * 69621 + z + turn) hp
    refine ⟨rfl, _, some (.int z), mild_of h1 (by omega), .inr h2, rfl⟩
  · rintro σ H' ⟨rfl, b, x5, hb, _, rfl⟩
    exact k b x5 hb

theorem pure_bl {K : PySem.W.Frag} (vs : List V) (H : Hp) (Q : VK) (E : XK) (h : spBl vs H Q E) : t_bl K { nx := fun _ H' => Q .non H', rt := Q } (L2.start n_bl vs) H := by
  obtain ⟨hd, n, rfl, ⟨gs, cs, rest, e0, e1, e2, hg, hc, hr, hl, d01, d02, d12⟩, hn, k⟩ := h
  -- turn, found
  have g1 : DGet H (hd 0) (.str "turn") (some (.int (n : Int))) := by
    have z := DGet.k (k := (.inr "turn" : Key)) e0
    rw [st_turn] at z
    exact z
  refine ⟨_, rfl, hd 0, .int n, rfl, g1, (n : Int), 1, rfl, rfl, _, _, rfl, ?_⟩
  -- state['turn'] = turn
  have p1 : DPut H (hd 0) (.str "turn") (.int ((n : Int) + 1)) (upd H (hd 0) (.dK (stD hd rest (n + 1)))) := by
    have z := DPut.k (k := (.inr "turn" : Key)) (v := .int ((n : Int) + 1)) e0 (by show 4 < sizeLine; rw [sizeLine_eq]; decide)
    rw [st_putTurn] at z
    exact z
  refine ⟨_, rfl, _, rfl, hd 0, upd H (hd 0) (.dK (stD hd rest (n + 1))), rfl, p1, ?_⟩
  obtain ⟨H1, hH1⟩ : ∃ H1, H1 = upd H (hd 0) (.dK (stD hd rest (n + 1))) := ⟨_, rfl⟩
  rw [← hH1]
  have a0 : H1 (hd 0) = some (.dK (stD hd rest (n + 1))) := by rw [hH1, upd_same]
  have ao : ∀ b, b ≠ hd 0 → H1 b = H b := fun b hb => by rw [hH1, upd_ne hb]
  have a1 : H1 (hd 1) = some (.lst (gs.map V.int)) := by rw [ao _ (Ne.symm d01)]; exact e1
  have a2 : H1 (hd 2) = some (.lst (cs.map V.int)) := by rw [ao _ (Ne.symm d02)]; exact e2
  -- for prime in [..]
  refine ⟨(by show 3 ≤ sizeLine; rw [sizeLine_eq]; decide), fun p hp => ?_⟩
  obtain ⟨H2, hH2⟩ : ∃ H2, H2 = upd H1 p (.lst [V.int 2147483579, V.int 2147483629, V.int 2147483563]) := ⟨_, rfl⟩
  rw [← hH2]
  have pp : H2 p = some (.lst [V.int 2147483579, V.int 2147483629, V.int 2147483563]) := by rw [hH2, upd_same]
  have po : ∀ b o, H1 b = some o → H2 b = some o := fun b o e => by rw [hH2, upd_ne (ne_of_none e hp)]; exact e
  have c0 := po _ _ a0
  have c2 := po _ _ a2
  refine ⟨p, rfl, ⟨_, SqL.of pp⟩, for_list (K := K) (xs := [V.int 2147483579, V.int 2147483629, V.int 2147483563]) (fun i σ H' => H' = H2 ∧ ∃ f x3 x4 x5, 0 ≤ f ∧ σ = [some (.ref (hd 0)), some (.int (n + 1)), some (.int f), x3, x4, x5])
    ⟨rfl, 0, none, none, none, Int.le_refl _, rfl⟩ (fun i σ H' _ ⟨e, _⟩ => by rw [e]; exact SqL.of pp) ?_ ?_⟩
  · rintro i x σ H' hi ⟨rfl, f, x3, x4, x5, hf, rfl⟩
    obtain ⟨q, rfl, q1, q2⟩ : ∃ q : Int, x = V.int q ∧ 2147483563 ≤ q ∧ q ≤ 2147483629 := by
      have hm := List.mem_of_getElem? hi
      simp only [List.mem_cons, List.not_mem_nil, or_false] at hm
      rcases hm with rfl | rfl | rfl
      · exact ⟨_, rfl, by decide, by decide⟩
      · exact ⟨_, rfl, by decide, by decide⟩
      · exact ⟨_, rfl, by decide, by decide⟩
    have hn' : (n : Int) + 1 ≤ 2 ^ 250 := by
      have : n + 1 ≤ 2 ^ 250 := hn
      omega
    have hdiv : 0 ≤ q / 53 := Int.ediv_nonneg (by omega) (by decide)
    have hdiv2 : q / 53 ≤ q := Int.ediv_le_self _ (by omega)
    refine ⟨_, rfl, 48271, (n : Int) + 1, rfl, rfl, .inl ⟨by decide, by decide⟩, _, rfl, q, 53, rfl, rfl, ⟨by decide, by decide⟩, _, _, rfl, rfl, ?_⟩
    -- for cell in state['cells']
    have g2 : DGet H' (hd 0) (.str "cells") (some (.ref (hd 2))) := by
      have z := DGet.k (k := (.inr "cells" : Key)) c0
      rw [st_cells] at z
      exact z
    refine ⟨_, rfl, hd 0, .ref (hd 2), rfl, g2, hd 2, rfl, ⟨_, SqL.of c2⟩, ?_⟩
    refine pure_cell (K := K) (turn := (n : Int) + 1) (p := q) (f := f) (x5 := x5) c2 hc (by omega) (by omega) (by omega) (mild_of (by omega) (by omega)) (fun b x5 hb => ?_) rfl
    refine ⟨_, rfl, f, 2147483647, rfl, rfl, .inr ⟨by decide, by decide⟩, _, rfl, b, 5, rfl, rfl, ⟨by decide, ?_⟩, .inl ⟨_, rfl, _, rfl, _, q, rfl, rfl, by omega, _, _, rfl, rfl, ?_⟩⟩
    · have := bits_lt hb.2
      omega
    · have h1 := Int.emod_nonneg (b ^ (5 : Int).toNat) (show q ≠ 0 by omega)
      have h2 : 0 ≤ f * 2147483647 := Int.mul_nonneg hf (by decide)
      exact ⟨rfl, _, _, _, _, Int.add_nonneg h2 h1, rfl⟩
  · rintro σ H' ⟨rfl, f, x3, x4, x5, hf, rfl⟩
    refine ⟨_, rfl, k f _ hf ⟨gs, cs, rest, ?_, po _ _ a1, c2, hg, hc, hr, hl, d01, d02, d12⟩ fun b hb o eo => po b o (by rw [ao b hb]; exact eo)⟩
    rw [c0]
    rfl

/-! ### _law_draw -/
/-- slots: state, room, found -/
abbrev n_dr : List Str := ["state", "room", "found"]
def t_dr (K : PySem.W.Frag) : TS := tSeq (tIfS (tTest (tOp (rEqD K) (tS "rest") (tC (.int 0))))
    (sDPut (tVar 0) (tC (.str "rest")) (tIf (tTest (tOp (rNeD K) (tS "great") (tLst tNil))) (tBM K "list" rPopAt (tS "great") (tCons (tC (.int 0)) tNil)) (tCall spBl [] (fun _ _ _ => False) (tCons (tVar 0) tNil)))) tNext)
  (tSeq (tAsg (tOp rModI (tCB rIntI (tCons (tS "rest") tNil)) (tVar 1)) (gName 2))
    (tSeq (sDPut (tVar 0) (tC (.str "rest")) (tOp rDivI (tS "rest") (tVar 1))) (tRet (tVar 2))))
def spDr : Sp := fun vs H Q _ => ∃ (hd : Nat → Addr) (n : Nat) (room : Int), vs = [.ref (hd 0), .int room] ∧ DrawSt hd H n ∧ n + 1 ≤ Bt ∧ 0 < room ∧ room < 1073741824 ∧
  ∀ (r : Int) (H' : Hp) (n' : Nat), 0 ≤ r → r < room → n' ≤ n + 1 → DrawSt hd H' n' → Off1 hd H H' → Q (.int r) H'
theorem dp_ints {K : PySem.W.Frag} {H : Hp} : ∀ (gs : List Int), DpAll K H (gs.map V.int) (gs.map PyData.int)
  | [] => .nil
  | g :: gs => .cons (.int g) (dp_ints gs)
theorem lay_ints : ∀ (gs : List Int), PyData.canLayAll0 (gs.map PyData.int) = true
  | [] => rfl
  | g :: gs => by
    simp only [List.map_cons, PyData.canLayAll0, PyData.canLay0, lay_ints gs, Bool.and_self]
theorem eqv_zero {a : Int} : PyData.eqv (.int a) (.int 0) = decide (a = 0) := by
  simp only [PyData.eqv]
  by_cases h : a = 0
  · subst h; rfl
  · rw [decide_eq_false h]; exact beq_eq_false_iff_ne.mpr h
theorem dep_ints : ∀ (gs : List Int), PyData.depthAll (gs.map PyData.int) = 0
  | [] => rfl
  | g :: gs => by simp only [List.map_cons, PyData.depthAll, PyData.depth, dep_ints gs, Nat.max_self]
theorem shaped_ints (gs : List Int) : SeqAt.shaped (.list (gs.map PyData.int)) = true := by
  unfold SeqAt.shaped
  simp only [PyData.canLay0, PyData.depth, lay_ints, dep_ints, Bool.true_and]
  decide
theorem if_true_of {c : Bool} {A B : Prop} (hc : c = true) (h : A) : if c = true then A else B := by rw [if_pos hc]; exact h
theorem if_false_of {c : Bool} {A B : Prop} (hc : c = false) (h : B) : if c = true then A else B := by rw [hc, if_neg Bool.false_ne_true]; exact h
theorem getD_dict {H : Hp} {a : Addr} {kvs : List (Key × V)} {x : Str} {v : V} (e : H a = some (.dK kvs)) (h : valV kvs (.inr x) = some v) : DGet H a (.str x) (some v) := by
  have z := DGet.k (k := (.inr x : Key)) e
  rw [h] at z
  exact z
theorem putD_dict {H : Hp} {a : Addr} {kvs kvs' : List (Key × V)} {x : Str} {v : V} (e : H a = some (.dK kvs)) (hl : kvs.length < sizeLine) (h : putK kvs (.inr x) v = kvs') : DPut H a (.str x) v (upd H a (.dK kvs')) := by
  have z := DPut.k (k := (.inr x : Key)) (v := v) e hl
  rw [h] at z
  exact z
theorem st_len {hd : Nat → Addr} {rest turn : Int} : (stD hd rest turn).length < sizeLine := by show 4 < sizeLine; rw [sizeLine_eq]; decide
theorem pure_dr {K : PySem.W.Frag} (vs : List V) (H : Hp) (Q : VK) (E : XK) (h : spDr vs H Q E) : t_dr K { nx := fun _ H' => Q .non H', rt := Q } (L2.start n_dr vs) H := by
  obtain ⟨hd, n, room, rfl, st, hn, r0, r1, k⟩ := h
  -- behind the refilling
  have fin : ∀ H1 n1, n1 ≤ n + 1 → DrawSt hd H1 n1 → Off1 hd H H1 → (tSeq (tAsg (tOp rModI (tCB rIntI (tCons (tS "rest") tNil)) (tVar 1)) (gName 2))
    (tSeq (sDPut (tVar 0) (tC (.str "rest")) (tOp rDivI (tS "rest") (tVar 1))) (tRet (tVar 2)))) { nx := fun _ H' => Q .non H', rt := Q } (L2.start n_dr [.ref (hd 0), .int room]) H1 := fun H1 n1 hn1 ⟨gs, cs, rest, e0, e1, e2, hg, hc, hr, hl, d01, d02, d12⟩ off => by
    have g := getD_dict e0 (st_rest (hd := hd) (rest := rest) (turn := (n1 : Int)))
    refine ⟨_, rfl, hd 0, .int rest, rfl, g, .inl ⟨rest, rfl, _, rfl, rest, room, rfl, rfl, r0, ?_⟩⟩
    refine ⟨_, rfl, hd 0, .int rest, rfl, g, _, rfl, rest, room, rfl, rfl, ⟨r0, r1⟩, _, rfl, hd 0, _, rfl, putD_dict e0 st_len st_putRest, _, rfl, ?_⟩
    refine k _ _ n1 (Int.emod_nonneg rest (Int.ne_of_gt r0)) (Int.emod_lt_of_pos rest r0) hn1 ⟨gs, cs, rest / room, upd_same, ?_, ?_, hg, hc, Int.ediv_nonneg hr (Int.le_of_lt r0), hl, d01, d02, d12⟩ fun b h0 h1 o eo => ?_
    · rw [upd_ne (Ne.symm d01)]; exact e1
    · rw [upd_ne (Ne.symm d02)]; exact e2
    · rw [upd_ne h0]; exact off b h0 h1 o eo
  have st' := st
  obtain ⟨gs, cs, rest, e0, e1, e2, hg, hc, hr, hl, d01, d02, d12⟩ := st
  have g0 := getD_dict e0 (st_rest (hd := hd) (rest := rest) (turn := (n : Int)))
  refine ⟨_, rfl, hd 0, .int rest, rfl, g0, .int rest, .int 0, .int rest, .int 0, rfl, rfl, _, rfl, ?_⟩
  rw [eqv_zero]
  by_cases hz : rest = 0
  · rw [decide_eq_true hz]
    refine (if_true_of (c := true) rfl ?_)
    have g1 := getD_dict e0 (st_great (hd := hd) (rest := rest) (turn := (n : Int)))
    refine ⟨_, rfl, hd 0, .ref (hd 1), rfl, g1, Nat.zero_le _, fun p hp => ?_⟩
    refine ⟨.list (gs.map PyData.int), .list [], ?_, .lst (SqL.of upd_same) .nil, ?_, by decide, _, rfl, ?_⟩
    · exact .lst (SqL.of (by rw [upd_ne (ne_of_none e1 hp)]; exact e1)) (dp_ints gs)
    · exact shaped_ints gs
    have po : ∀ b o, H b = some o → upd H p (.lst []) b = some o := fun b o e => by rw [upd_ne (ne_of_none e hp)]; exact e
    cases gs with
    | nil =>
      refine if_false_of (by first | rfl | (simp [PyData.eqv, PyData.eqvAll]; done)) ?_
      refine ⟨_, rfl, hd, n, rfl, ⟨[], cs, rest, po _ _ e0, po _ _ e1, po _ _ e2, hg, hc, hr, hl, d01, d02, d12⟩, hn, fun z H2 hz0 st2 off2 => ?_⟩
      obtain ⟨gs2, cs2, rest2, f0, f1, f2, hg2, hc2, hr2, hl2, _⟩ := st2
      refine ⟨_, rfl, hd 0, _, rfl, putD_dict f0 st_len st_putRest, ?_⟩
      refine fin _ (n + 1) (Nat.le_refl _) ⟨gs2, cs2, z, upd_same, ?_, ?_, hg2, hc2, hz0, hl2, d01, d02, d12⟩ fun b h0 h1 o eo => ?_
      · rw [upd_ne (Ne.symm d01)]; exact f1
      · rw [upd_ne (Ne.symm d02)]; exact f2
      · rw [upd_ne h0]; exact off2 b h0 o (po b o eo)
    | cons g gs =>
      refine if_true_of (by first | rfl | (simp [PyData.eqv, PyData.eqvAll]; done)) ?_
      have e1' := po _ _ e1
      refine ⟨_, rfl, hd 0, .ref (hd 1), rfl, getD_dict (po _ _ e0) st_great, .inl ⟨rfl, _, SqL.of e1'⟩, hd 1, _, 0, 0, .int g, rfl, rfl, e1', by decide, by decide, ?_, rfl, ?_⟩
      · have h := seqIndex_of (k := (0 : Int)) (n := ((g :: gs).map V.int).length) (by decide) (by simp)
        rw [h]
        rfl
      refine ⟨_, rfl, hd 0, _, rfl, putD_dict (kvs := stD hd rest n) (by rw [upd_ne d01]; exact po _ _ e0) st_len st_putRest, ?_⟩
      refine fin _ n (Nat.le_succ _) ⟨gs, cs, g, upd_same, ?_, ?_, fun z hz => hg z (List.mem_cons_of_mem _ hz), hc, hg g List.mem_cons_self, Nat.le_trans (Nat.le_succ _) hl, d01, d02, d12⟩ fun b h0 h1 o eo => ?_
      · rw [upd_ne (Ne.symm d01), upd_same]; rfl
      · rw [upd_ne (Ne.symm d02), upd_ne (Ne.symm d12)]; exact po _ _ e2
      · rw [upd_ne h0, upd_ne h1]; exact po b o eo
  · rw [decide_eq_false hz]
    refine (if_false_of (c := false) rfl ?_)
    exact fin H n (Nat.le_succ _) st' fun b _ _ o eo => eo

/-- a draw as others see it: any number below the room -/
def fDraw : Fd := fun ds k _ => ∃ room : Int, ds = [.hdl 0, .int room] ∧ 0 < room ∧ room < 1073741824 ∧ ∀ r : Int, 0 ≤ r → r < room → k (.int r)
theorem dr_spD {G : Go} : ∀ vs H Q E, spD G 2 1 fDraw vs H Q E → spDr vs H Q E := fun vs H Q E ⟨P, ds, k, e, o, hl, hd, ⟨room, ed, r0, r1, kk⟩, hk, hb, he⟩ => by
  subst ed
  simp only [DVs, DV] at hd
  obtain ⟨_, _, rfl, rfl, _, _, rfl, rfl, rfl⟩ := hd
  obtain ⟨n, st⟩ := P.W.rd H o.amb
  have et : P.W.tn H = n := st.turn
  refine ⟨P.W.hd, n, room, rfl, st, by rw [← et]; exact hb, r0, r1, fun r H' n' h0 h1 hn st' off => hk _ (kk r h0 h1) _ H' ⟨⟨fun b o eb nS => ?_, fun b tb => ?_, P.W.wr H H' n' o.amb off st'⟩, ?_⟩ (by simp only [DV])⟩
  · exact off b (fun z => nS (by rw [z]; exact P.W.s0)) (fun z => nS (by rw [z]; exact P.W.s1)) o eb
  · obtain ⟨u, eu⟩ := tb
    by_cases z0 : b = P.W.hd 0
    · obtain ⟨_, _, _, e0, _⟩ := st'
      exact ⟨_, by rw [z0]; exact e0⟩
    · by_cases z1 : b = P.W.hd 1
      · obtain ⟨_, _, _, _, e1, _⟩ := st'
        exact ⟨_, by rw [z1]; exact e1⟩
      · exact ⟨u, off b z0 z1 u eu⟩
  · show turnOf P.W.hd H' ≤ P.W.tn H + 1
    rw [st'.turn, et]
    exact hn
end DL
set_option Elab.async false
set_option linter.all false
set_option maxRecDepth 100000
set_option maxHeartbeats 4000000
/-! DL13: enumerate, zip; isinstance of a built-in class; a pick -/
namespace DL
open PySem PySem.Spec L2
section
variable {X : Cx} {G : Go} {Wx : WX} {e a b tg : Expr} {rel r1 r2 : Rl} {pos tpos p p2 : Pos} {ma mb : Mv} {mas : Ma} {w w1 w2 : Nat}
/-- the pairs of enumerate -/
def enumD : Nat → List D → List D
  | _, [] => []
  | n, d :: ds => .tup [.int n, d] :: enumD (n + 1) ds
theorem enumD_length : ∀ (n : Nat) (ds : List D), (enumD n ds).length = ds.length
  | _, [] => rfl
  | n, d :: ds => by show (enumD (n + 1) ds).length + 1 = ds.length + 1; rw [enumD_length]
theorem enumD_get : ∀ {n i : Nat} {ds : List D} {d : D}, ds[i]? = some d → (enumD n ds)[i]? = some (.tup [.int ((n + i : Nat) : Int), d])
  | n, 0, d :: ds, _, h => by cases h; rfl
  | n, i + 1, _ :: ds, d, h => by
    have z := enumD_get (n := n + 1) (i := i) (ds := ds) (d := d) h
    show (enumD (n + 1) ds)[i]? = _
    rw [z]
    have e : n + 1 + i = n + (i + 1) := by omega
    rw [e]
  | _, _, [], _, h => by cases h
theorem dv_pair {W : Wd} {Av : Addr → Prop} {H : Hp} {T : Addr} {x y : V} {d1 d2 : D} (hT : H T = none) (nT : ¬ Av T) (h1 : DV G W Av H d1 x) (h2 : DV G W Av H d2 y) : DV G W Av (upd H T (.tup [x, y])) (.tup [d1, d2]) (.ref T) := by
  have k : Keep Av H (upd H T (.tup [x, y])) := fun b o e _ => by rw [upd_ne (ne_of_none e hT)]; exact e
  simp only [DV]
  exact ⟨T, [x, y], rfl, .inl ⟨nT, .inl upd_same⟩, DVs.cons (h1.keep k) (DVs.cons (h2.keep k) DVs.nil)⟩
theorem yields_enum {W : Wd} {K : PySem.W.Frag} (hK : G.K = K) {a : Addr} {ds : List D} : Yields G W (Ite K a) (enumD 0 ds) [(.lst ds, .ref a)] := by
  subst hK
  have get : ∀ {Av : Addr → Prop} {H : Hp}, (∀ p ∈ [(D.lst ds, V.ref a)], DV G W Av H p.1 p.2) → ∃ xs, SqL G.K H a xs ∧ DVs G W Av H ds xs := fun {Av H} h => by
    have z := h _ (List.mem_singleton.mpr rfl)
    simp only [DV] at z
    obtain ⟨b, xs, e, q, hx⟩ := z
    cases e
    exact ⟨xs, q.to, hx⟩
  refine ⟨fun Av i H h hi => ?_, fun Av i H x H' h hav hi y => ?_, fun Av i H h hi => ?_⟩
  · rw [enumD_length] at hi
    obtain ⟨xs, q, hx⟩ := get h
    exact ⟨xs, xs[i]'(by rw [hx.length]; exact hi), q, by simp⟩
  · obtain ⟨xs, q, hx⟩ := get h
    obtain ⟨T, v, rfl, hT, rfl, y⟩ := y
    obtain ⟨d, e1, e2⟩ := hx.getV (y xs q)
    refine ⟨fun b o e => by rw [upd_ne (ne_of_none e hT)]; exact e, _, enumD_get e1, ?_⟩
    have e0 : ((0 + i : Nat) : Int) = (i : Int) := by omega
    rw [e0]
    exact dv_pair hT (fun z => (hav T z).ne hT rfl) (by simp only [DV]) e2
  · rw [enumD_length] at hi
    obtain ⟨xs, q, hx⟩ := get h
    exact ⟨xs, q, by rw [hx.length]; exact hi⟩
def mEnum (m : Ma) : Mi := fun ρ k e => m ρ (fun xs => ∃ ds, xs = [.lst ds] ∧ k (enumD 0 ds)) e
theorem id_enum {elts : List Expr} {kk : Nat} (hK : G.K = X.K) (hg : Gl X "enumerate") (hm : X.mg "enumerate" = none) (ha : PA X [e] (LA w G Wx mas)) (hs : starEach [e] X.env = [(false, eval e X.env)] := by rfl) :
    PI X (.Tuple elts kk tpos) (.Call (.Name "enumerate" p) [e] [] pos) (LI w G Wx (mEnum mas)) := piW (pi_enum hg hm ha hs) fun σ H Rr ⟨P, ρ, k, e, r, q, hk, hx⟩ => by
  refine ⟨P, ρ, _, e, r, q, fun xs ⟨ds, ed, kd⟩ vs H' s z => ?_, hx⟩
  subst ed
  simp only [DVs] at z
  obtain ⟨v, _, rfl, hv, rfl⟩ := z
  have hv' := hv
  simp only [DV] at hv'
  obtain ⟨a, ys, rfl, hl, _⟩ := hv'
  exact ⟨a, ys, rfl, by rw [← hK]; exact hl.to, hk _ kd _ H' _ s (fun p hp => by rw [List.mem_singleton.mp hp]; exact hv) (yields_enum hK)⟩
/-- the pairs of zip -/
def zipD : List D → List D → List D
  | x :: xs, y :: ys => .tup [x, y] :: zipD xs ys
  | _, _ => []
theorem zipD_length : ∀ (xs ys : List D), (zipD xs ys).length = min xs.length ys.length
  | [], ys => by simp [zipD]
  | _ :: _, [] => by simp [zipD]
  | x :: xs, y :: ys => by simp only [zipD, List.length_cons, zipD_length xs ys]; omega
theorem zipD_get : ∀ {i : Nat} {xs ys : List D} {x y : D}, xs[i]? = some x → ys[i]? = some y → (zipD xs ys)[i]? = some (.tup [x, y])
  | 0, x :: xs, y :: ys, _, _, h1, h2 => by cases h1; cases h2; rfl
  | i + 1, _ :: xs, _ :: ys, x, y, h1, h2 => by
    show (zipD xs ys)[i]? = _
    exact zipD_get (xs := xs) (ys := ys) h1 h2
  | _, [], _, _, _, h, _ => by cases h
  | _, _ :: _, [], _, _, _, h => by cases h
theorem yields_zipL {W : Wd} {K : PySem.W.Frag} (hK : G.K = K) {a b : Addr} {ds es : List D} : Yields G W (Itz K a b) (zipD ds es) [(.lst ds, .ref a), (.lst es, .ref b)] := by
  subst hK
  have get : ∀ {Av : Addr → Prop} {H : Hp} {c : Addr} {fs : List D}, DV G W Av H (.lst fs) (.ref c) → ∃ xs, SqL G.K H c xs ∧ DVs G W Av H fs xs := fun {Av H c fs} z => by
    simp only [DV] at z
    obtain ⟨b, xs, e, q, hx⟩ := z
    cases e
    exact ⟨xs, q.to, hx⟩
  refine ⟨fun Av i H h hi => ?_, fun Av i H x H' h hav hi y => ?_, fun Av i H h hi => ?_⟩
  all_goals
    obtain ⟨xs, q1, hx⟩ := get (h _ (List.mem_cons_self ..))
    obtain ⟨ys, q2, hy⟩ := get (h _ (List.mem_cons_of_mem _ (List.mem_cons_self ..)))
    rw [zipD_length] at hi
    have l1 := hx.length
    have l2 := hy.length
  · exact ⟨xs, ys, xs[i]'(by omega), ys[i]'(by omega), q1, q2, by simp, by simp⟩
  · obtain ⟨T, v, u, rfl, hT, rfl, y1, y2⟩ := y
    obtain ⟨d, e1, e2⟩ := hx.getV (y1 xs q1)
    obtain ⟨d', e3, e4⟩ := hy.getV (y2 ys q2)
    exact ⟨fun b o e => by rw [upd_ne (ne_of_none e hT)]; exact e, _, zipD_get e1 e3, dv_pair hT (fun z => (hav T z).ne hT rfl) e2 e4⟩
  · exact ⟨xs, ys, q1, q2, by omega⟩
theorem yields_zipT {W : Wd} {K : PySem.W.Frag} (hK : G.K = K) {a b : Addr} {ds es : List D} : Yields G W (RZ.ItzT K a b) (zipD ds es) [(.tup ds, .ref a), (.tup es, .ref b)] := by
  subst hK
  have get : ∀ {Av : Addr → Prop} {H : Hp} {c : Addr} {fs : List D}, DV G W Av H (.tup fs) (.ref c) → ∃ xs, SqT G.K H c xs ∧ DVs G W Av H fs xs := fun {Av H c fs} z => by
    simp only [DV] at z
    obtain ⟨b, xs, e, q, hx⟩ := z
    cases e
    exact ⟨xs, q.to, hx⟩
  refine ⟨fun Av i H h hi => ?_, fun Av i H x H' h hav hi y => ?_, fun Av i H h hi => ?_⟩
  all_goals
    obtain ⟨xs, q1, hx⟩ := get (h _ (List.mem_cons_self ..))
    obtain ⟨ys, q2, hy⟩ := get (h _ (List.mem_cons_of_mem _ (List.mem_cons_self ..)))
    rw [zipD_length] at hi
    have l1 := hx.length
    have l2 := hy.length
  · exact ⟨xs, ys, xs[i]'(by omega), ys[i]'(by omega), q1, q2, by simp, by simp⟩
  · obtain ⟨T, v, u, rfl, hT, rfl, y1, y2⟩ := y
    obtain ⟨d, e1, e2⟩ := hx.getV (y1 xs q1)
    obtain ⟨d', e3, e4⟩ := hy.getV (y2 ys q2)
    exact ⟨fun b o e => by rw [upd_ne (ne_of_none e hT)]; exact e, _, zipD_get e1 e3, dv_pair hT (fun z => (hav T z).ne hT rfl) e2 e4⟩
  · exact ⟨xs, ys, q1, q2, by omega⟩
def mZip (m : Ma) : Mi := fun ρ k e => m ρ (fun xs => ∃ ds es, (xs = [.lst ds, .lst es] ∨ xs = [.tup ds, .tup es]) ∧ k (zipD ds es)) e
theorem id_zip {elts : List Expr} {kk : Nat} (hK : G.K = X.K) (hg : Gl X "zip") (hm : X.mg "zip" = none) (ha : PA X [a, b] (LA w G Wx mas)) (hs : starEach [a, b] X.env = (false, eval a X.env) :: starEach [b] X.env := by rfl) (hpl : (backTo pos (starEach [b] X.env)).any (·.1) = false := by rfl) :
    PI X (.Tuple elts kk tpos) (.Call (.Name "zip" p) [a, b] [] pos) (LI w G Wx (mZip mas)) := piW (RZ.pi_zipA hg hm ha hs hpl) fun σ H Rr ⟨P, ρ, k, e, r, q, hk, hx⟩ => by
  refine ⟨P, ρ, _, e, r, q, fun xs ⟨ds, es, ed, kd⟩ vs H' s z => ?_, hx⟩
  rcases ed with rfl | rfl
  all_goals
    simp only [DVs] at z
    obtain ⟨v, _, rfl, hv, u, _, rfl, hu, rfl⟩ := z
    have hv' := hv
    have hu' := hu
    simp only [DV] at hv' hu'
    obtain ⟨a, xs, rfl, hl, _⟩ := hv'
    obtain ⟨b, ys, rfl, hl2, _⟩ := hu'
  · exact ⟨a, b, xs, ys, rfl, .inl ⟨by rw [← hK]; exact hl.to, by rw [← hK]; exact hl2.to, hk _ kd _ H' _ s (fun p hp => by
      rcases List.mem_cons.mp hp with rfl | hp
      · exact hv
      · rw [List.mem_singleton.mp hp]; exact hu) (yields_zipL hK)⟩⟩
  · exact ⟨a, b, xs, ys, rfl, .inr ⟨by rw [← hK]; exact hl.to, by rw [← hK]; exact hl2.to, hk _ kd _ H' _ s (fun p hp => by
      rcases List.mem_cons.mp hp with rfl | hp
      · exact hv
      · rw [List.mem_singleton.mp hp]; exact hu) (yields_zipT hK)⟩⟩
/-- isinstance(e, T) of any value, T a built-in class -/
theorem pd_isxT [s1 : Sub r1 DBr] {x : Str} {p1 : Pos} (T : String) (sub : D → Option Bool) (hA : IsA X.K G (.type T) sub) (hm : X.mg "isinstance" = none) (hC : X.mg x = none) (hb : bootBuiltins x = some (.type T)) (ha : PE X e (LR w r1 G Wx ma)) (hK : G.K = X.K := by rfl) (hg : Gl X "isinstance" := by rfl) (hgC : Gl X x := by rfl) (hn : x ≠ "__name__" := by decide) (hdC : (x == ("__debug__" : Str)) = false := by decide)
    (he : starEach [e, .Name x p2] X.env = (false, eval e X.env) :: starEach [.Name x p2] X.env := by rfl) (he2 : starEach [.Name x p2] X.env = (false, eval (.Name x p2) X.env) :: starEach [] X.env := by rfl) (hpl : (backTo pos (starEach [.Name x p2] X.env)).any (·.1) = false := by rfl) :
    PE X (.Call (.Name "isinstance" p1) [e, .Name x p2] [] pos) (LR w DVr G Wx (m1 (oIsx sub) ma)) :=
  peW (pe_callB call_isx hg hm (by decide +kernel) (pa_cons ha (pa_cons (pe_bltn (v := .ty T) hgC hC hb rfl hn hdC) pa_nil he2) he) (by decide) (by decide) he hpl) fun σ H Q ⟨P, ρ, k, e, r, q, hk, hx⟩ =>
  ⟨P, ρ, _, e, r, q, fun d ⟨b, eb, kd⟩ v H1 s z => by
    have z2 := does_isx (σ := σ) (ρ := ρ) (by rw [hK]; exact hA) (show DBr G P H H1 d v from s1.sub z) eb
    rw [hK] at z2
    exact ⟨v, .ty T, .type T, b, rfl, .ty T, z2, hk _ kd _ H1 s (by simp only [DVr, DV])⟩, hx⟩
/-! ### a pick -/
def fPick : Fd := fun ds k _ => ∃ d xs, ds = [.hdl 0, d] ∧ seqD d = some xs ∧ xs ≠ [] ∧ xs.length < 1073741824 ∧ ∀ x ∈ xs, k x
end
end DL
set_option Elab.async false
set_option linter.all false
set_option maxRecDepth 100000
set_option maxHeartbeats 4000000
/-! DL14: what stands behind the top: the defs and the error classes by their names -/
namespace DL
open PySem PySem.Spec L2 He
/-- an error class of the text: its name, its field, its statement -/
structure ErD where
  cls : Str
  fld : Option Str
  st : Stmt
def iniSt : Stmt → Stmt
  | .ClassDef _ _ _ (b :: _) _ _ _ _ _ _ _ => b
  | s => s
/-! ### looks at the written part -/
def exB (K : PySem.W.Frag) (D : Addr) : Bool :=
  eqO (PySem.W.findIn K (.ref D) "__getattribute__") (some (some (.builtin "BaseException.__getattribute__"))) && (eqO (PySem.W.findIn K (.ref D) "__getattr__") (some none) && (decide (PySem.W.subIn K (.ref D) (.type "BaseException") = some true) && (PySem.W.hasDictIn K D &&
    (eqO (PySem.W.findIn K (.ref D) "__class__") (some (some (.builtin "object.__class__"))) && (eqO (PySem.W.specialIn K (.builtin "object.__class__") "__get__") (some (some (.builtin "getset_descriptor.__get__"))) && (decide (PySem.W.takesIn K (.builtin "object.__class__") = some true) && decide (PySem.W.mroIn K D (.type "object") = some true)))))))
theorem exB_ok {K : PySem.W.Frag} {D : Addr} (h : exB K D = true) : ExcC K D := by
  obtain ⟨h1, h⟩ := ba h
  obtain ⟨h2, h⟩ := ba h
  obtain ⟨h3, h⟩ := ba h
  obtain ⟨h4, h⟩ := ba h
  obtain ⟨h5, h⟩ := ba h
  obtain ⟨h6, h⟩ := ba h
  obtain ⟨h7, h8⟩ := ba h
  exact ⟨eqO_ok h1, eqO_ok h2, of_decide_eq_true h3, h4, eqO_ok h5, eqO_ok h6, of_decide_eq_true h7, of_decide_eq_true h8⟩
def shapeB (K : PySem.W.Frag) (C : Addr) : Bool := match K.lookup C with
  | some ⟨.type "type", _, .cls cd, sl⟩ => (match cd.mro, sl.toList with
    | .ref C' :: bm, [_, _, _, _, some (.builtin n), _] => decide (C' = C) && (decide (n = "ValueError.__new__") && (!cd.hasDel && (PySem.HandSPX.refsVE bm && cd.hasDict)))
    | _, _ => false)
  | _ => false
theorem shape_ok {K : PySem.W.Frag} {C : Addr} (h : shapeB K C = true) : ∃ nm q N bs bm sn sub ab col dd k0 k1 k2 k3 k5, K.lookup C = some (excClassObj nm q C N bs bm true sn sub ab col dd k0 k1 k2 k3 k5 "ValueError.__new__") ∧ PySem.HandSPX.refsVE bm = true := by
  unfold shapeB at h
  split at h
  · rename_i dd cd sl ho
    split at h
    · rename_i C' bm k0 k1 k2 k3 n k5 hm hs
      obtain ⟨h1, h⟩ := ba h
      obtain ⟨h2, h⟩ := ba h
      obtain ⟨h3, h⟩ := ba h
      obtain ⟨h4, h5⟩ := ba h
      have e1 := of_decide_eq_true h1
      have e2 := of_decide_eq_true h2
      obtain ⟨nm, bs, mro, ns, qn, hd, sn, sub, ab, col, del⟩ := cd
      dsimp only at hm h3 h5
      have h3' : del = false := by simpa using h3
      subst hm h3' h5 e1 e2
      obtain ⟨l⟩ := sl
      simp only at hs
      subst hs
      exact ⟨_, _, _, _, bm, _, _, _, _, _, _, _, _, _, _, ho, h4⟩
    · cases h
  · cases h
abbrev IniW : Type := Option (Str × Arguments × FuncBody × Scope × Addr × Addr)
/-- the __init__ of the class x -/
def iniW (K : PySem.W.Frag) (x : Str) : IniW := match K.lookup (ma K (ga K x) "__init__") with
  | some ⟨_, _, .func fd, _⟩ => some (fd.name, fd.params, fd.body, fd.scope, fd.globals, fd.builtins)
  | _ => none
def iniV (d : ErD) : IniW := some ("__init__", defArgs (iniSt d.st), .stmts (defBody (iniSt d.st)), defScope (iniSt d.st), mainGlobals, builtinsNs)
/-- its code stands in the module's file, its one cell holds its class -/
def codeB (P : Program) (K : PySem.W.Frag) (C : Addr) (fd : FuncData) : Bool := (match fd.code with
    | .ref cda => PySem.W.codeIn K (.ref cda) fd.qualname && (match K.lookup cda with
      | some ⟨_, _, .fields vs, _⟩ => (match (vs[2]? : Option Value) with
        | some (.str file _) => (P.main.file : Str) == file
        | _ => false)
      | _ => false)
    | _ => false) && (match fd.closure with
    | [(z, cc)] => decide (z = "__class__") && (match K.lookup cc with
      | some ⟨_, _, .cell (some (.ref D)), _⟩ => decide (D = C)
      | _ => false)
    | _ => false) && (match fd.defaults with
    | .none => true
    | _ => false)
def iniB (P : Program) (K : PySem.W.Frag) (x y : Str) : Bool :=
  shapeB K (ga K x) && (eqO (PySem.W.findIn K (.ref (ga K x)) "__setattr__") (some (some (.builtin "object.__setattr__"))) && (decide (PySem.W.typeIn K (.ref (ga K x)) = some (.type "type")) && (eqO (PySem.W.findIn K (.ref (ga K x)) y) (some none) &&
    (eqO (PySem.W.ks_superIn K (ga K x) (ga K x) "__init__") (some (some (.builtin "ValueError.__init__"))) && (decide (PySem.W.subIn K (.ref (ga K x)) (.type "ValueError") = some true) && (decide (PySem.W.mroIn K (ga K x) (.ref (ga K x)) = some true) &&
    (eqO (PySem.W.nsIn K cStatics "thirdparty.any") (some none) && (eqO (PySem.W.findIn K (.ref (ga K x)) "__init__") (some (some (.ref (ma K (ga K x) "__init__")))) && (decide (PySem.W.typeIn K (.ref (ma K (ga K x) "__init__")) = some (.type "function")) &&
    (match K.lookup (ma K (ga K x) "__init__") with
      | some ⟨_, _, .func fd, _⟩ => codeB P K (ga K x) fd
      | _ => false))))))))))
/-- the text of such an __init__ -/
def IniForm (y : Str) (st : Stmt) : Prop := ∃ (p1 p2 q0 q1 q2 q3 q4 q5 q6 q7 q8 q9 : Pos) (T : Str) (j : Nat) (ns : List (Str × NameKind)),
  defArgs st = PySem.Ini.iA y p1 p2 ∧ defBody st = PySem.Ini.iB y T j q0 q1 q2 q3 q4 q5 q6 q7 q8 q9 ∧ defScope st = PySem.Ini.iS ns ∧
  ns.lookup ("super" : Str) = some .globalImplicit ∧ ns.lookup ("__class__" : Str) = some .free ∧ ns.lookup ("self" : Str) = some .local ∧ ns.lookup y = some .local ∧ (∀ x ∈ ns, x.2 ≠ .cell) ∧ PySem.Ini.CallIs T j q0 q1 q2 q3 q4 ∧
  (y ≠ "self") ∧ (y == ("__debug__" : Str)) = false ∧ ∀ (q : Str) (kV doc pm : Value) (an : Option Addr) (cdv ct : Value) (cc : Addr) (u v : Value), bindArgs (PySem.W.ksFn "__init__" q (PySem.Ini.iA y p1 p2) (PySem.Ini.iB y T j q0 q1 q2 q3 q4 q5 q6 q7 q8 q9) (PySem.Ini.iS ns) .none kV doc pm an cdv ct cc) ⟨[u, v], []⟩ = pure [(("self" : Str), u), (y, v)]
section
variable {P : Program} {K : PySem.W.Frag} {h : Heap} {mg : Str → Option Value}
theorem ini_mk {x y : Str} {st : Stmt} (X : K.In h) (G : h.Ns mainGlobals mg) (hx : (Fa.glo x).ok K = true) (hs : (Fa.free "super").ok K = true) (hk : PySem.W.keepIn K (.ref (ga K x)) = true) (he : exB K (ga K x) = true) (hb : iniB P K x y = true) (hw : iniW K x = iniV ⟨x, some y, st⟩) (hf : IniForm y (iniSt st))
    (ht : (P.main.scope.names.lookup ("super" : Str)).isSome = false) : EcI P K mg (ga K x) x y := by
  obtain ⟨b1, hb⟩ := ba hb
  obtain ⟨b2, hb⟩ := ba hb
  obtain ⟨b3, hb⟩ := ba hb
  obtain ⟨b4, hb⟩ := ba hb
  obtain ⟨b5, hb⟩ := ba hb
  obtain ⟨b6, hb⟩ := ba hb
  obtain ⟨b7, hb⟩ := ba hb
  obtain ⟨b8, hb⟩ := ba hb
  obtain ⟨b9, hb⟩ := ba hb
  obtain ⟨b10, hb⟩ := ba hb
  obtain ⟨p1, p2, q0, q1, q2, q3, q4, q5, q6, q7, q8, q9, T, j, ns, f1, f2, f3, f4, f5, f6, f7, f8, f9, f10, f11, f12⟩ := hf
  have E := exB_ok he
  have sh := shape_ok b1
  unfold iniW iniV at hw
  cases lk : K.lookup (ma K (ga K x) "__init__") with
  | none => rw [lk] at hb; cases hb
  | some o =>
    obtain ⟨oc, od, dt, osl⟩ := o
    rw [lk] at hb hw
    cases dt with
    | func fd =>
      obtain ⟨n1, n2, n3, n4, n5, n6, n7, n8, n9, n10, n11, n12, n13, n14, n15⟩ := fd
      simp only [Option.some.injEq, Prod.mk.injEq] at hw
      obtain ⟨h1, h2, h3, h4, h5, h6⟩ := hw
      have hb : codeB P K (ga K x) ⟨n1, n2, n3, n4, n5, n6, n7, n8, n9, n10, n11, n12, n13, n14, n15⟩ = true := hb
      unfold codeB at hb
      obtain ⟨hb, hd⟩ := ba hb
      obtain ⟨c1, c2⟩ := ba hb
      dsimp only at h1 h2 h3 h4 h5 h6 c1 c2 hd
      rw [f1] at h2
      rw [f2] at h3
      rw [f3] at h4
      subst h1 h2 h3 h4 h5 h6
      cases n8 with
      | none =>
        cases n13 with
        | ref cda =>
          obtain ⟨c1, c3⟩ := ba c1
          cases lc : K.lookup cda with
          | none => rw [lc] at c3; cases c3
          | some o2 =>
            obtain ⟨oc2, od2, dt2, osl2⟩ := o2
            rw [lc] at c3
            cases dt2 with
            | fields vs =>
              dsimp only at c3
              cases hv : vs[2]? with
              | none => rw [hv] at c3; cases c3
              | some vv =>
                rw [hv] at c3
                cases vv with
                | str file tf =>
                  dsimp only at c3
                  cases n7 with
                  | nil => cases c2
                  | cons z n7 =>
                    obtain ⟨z, cc⟩ := z
                    cases n7 with
                    | cons _ _ => cases c2
                    | nil =>
                      obtain ⟨c4, c5⟩ := ba c2
                      have ez := of_decide_eq_true c4
                      subst ez
                      cases ll : K.lookup cc with
                      | none => rw [ll] at c5; cases c5
                      | some o3 =>
                        obtain ⟨oc3, od3, dt3, osl3⟩ := o3
                        rw [ll] at c5
                        cases dt3 with
                        | cell cv =>
                          cases cv with
                          | none => cases c5
                          | some cv =>
                            cases cv with
                            | ref D =>
                              have eD : D = ga K x := of_decide_eq_true c5
                              subst eD
                              refine ⟨glo_ok X G hx, hk, E, ⟨sh, eqO_ok b2, E.hs, of_decide_eq_true b3, hk⟩, ⟨_, _, _, ⟨sh, eqO_ok b2, eqO_ok b4, free_ok X G hs, eqO_ok b5, of_decide_eq_true b6, of_decide_eq_true b7, eqO_ok b8, ht,
                                ⟨_, _, _, _, _, cda, _, _, p1, p2, q0, q1, q2, q3, q4, q5, q6, q7, q8, q9, T, j, ns, cc, _, _, lk, c1, ⟨_, _, vs, _, file, tf, lc, hv, c3⟩, ⟨_, _, _, ll⟩, f4, f5, f6, f7, f8, f9⟩⟩, ⟨_, _, _, lk⟩, eqO_ok b9, of_decide_eq_true b10, ?_⟩, f10, f11⟩
                              exact .all fun us hl => match us, hl with
                                | [u, v], _ => f12 _ _ _ _ _ _ _ _ u v
                            | _ => cases c5
                        | _ => cases c5
                | _ => cases c3
            | _ => cases c3
        | _ => cases c1
      | _ => cases hd
    | _ => cases hb
theorem pl_mk {x : Str} (X : K.In h) (G : h.Ns mainGlobals mg) (hx : (Fa.glo x).ok K = true) (hk : PySem.W.keepIn K (.ref (ga K x)) = true) (he : exB K (ga K x) = true) (hq : PySem.W.excIn K (ga K x) veBase "ValueError.__new__" = true) : EcP K mg (ga K x) x := ⟨glo_ok X G hx, hk, hq, exB_ok he⟩
theorem fun_of {x qual : Str} {st : Stmt} {f : Addr} {fd : FuncData} (F : FunD K x qual (defArgs st) (defBody st) (defScope st) [] [] f fd) : Fun K x qual st f fd := by
  obtain ⟨⟨oc, od, dV, kV, doc, pm, an, cdv, ct, osl, e, lk, hcd, hD, _⟩, kp⟩ := F
  rcases hD with ⟨_, rfl⟩ | ⟨z, _⟩
  · exact ⟨⟨oc, od, kV, doc, pm, an, cdv, ct, osl, e, lk, hcd⟩, kp⟩
  · exact absurd rfl z
end
/-! ### the hook -/
/-- a class's own looks -/
def ErD.ok (P : Program) (K : PySem.W.Frag) (d : ErD) : Bool := (Fa.glo d.cls).ok K && (PySem.W.keepIn K (.ref (ga K d.cls)) && (exB K (ga K d.cls) && (match d.fld with
  | some y => iniB P K d.cls y
  | none => PySem.W.excIn K (ga K d.cls) veBase "ValueError.__new__")))
def kitD (K : PySem.W.Frag) (a b : Value) (r : Bool) : Bool := decide (PySem.W.kitOne K a b = some r)
/-- isinstance among the classes: the first is the base of all -/
def isaB (K : PySem.W.Frag) (es : List ErD) : Bool := es.all (fun d => es.all (fun e => kitD K (.ref (ga K d.cls)) (.ref (ga K e.cls)) (decide (d.cls = e.cls) || decide (e.cls = "SightError"))) && (kitD K (.ref (ga K d.cls)) (.type "ValueError") true && kitD K (.type "NoneType") (.ref (ga K d.cls)) false)) && kitD K (.type "NoneType") (.type "ValueError") false
def fldB (K : PySem.W.Frag) (es : List ErD) : Bool := es.all fun d => match d.fld with
  | some y => eqO (PySem.W.findIn K (.ref (ga K d.cls)) y) (some none)
  | none => true
abbrev AlX : Type := Bool × List FnW × List IniW
def inis (es : List ErD) : List ErD := es.filter fun d => d.fld.isSome
def allB (P : Program) (fa : List Fa) (fn : List DefD) (es : List ErD) (K : PySem.W.Frag) : Bool := (fa.all fun f => f.ok K) && ((fn.all fun d => d.ok K) && ((es.all fun d => d.ok P K) && (isaB K es && fldB K es)))
def obsX (P : Program) (fa : List Fa) (fn : List DefD) (es : List ErD) (K : PySem.W.Frag) : AlX := (allB P fa fn es K, fn.map fun d => fnW K d.at_, (inis es).map fun d => iniW K d.cls)
def valX (fn : List DefD) (es : List ErD) : AlX := (true, fn.map DefD.val, (inis es).map iniV)
def asX (g : Addr → Option Obj) (n : Nat) : List Addr := cStatics :: asD g n
def obsXG (P : Program) (n : Nat) (fa : List Fa) (fn : List DefD) (es : List ErD) (g : Addr → Option Obj) : AlX := obsX P fa fn es (frG g (asX g n))
def hookX (P : Program) (n : Nat) (fa : List Fa) (fn : List DefD) (es : List ErD) : PySem.W.Hook where
  α := AlX
  obs := fun s => obsXG P n fa fn es s.heap.get?
  val := fun _ => valX fn es
  says := fun _ h => ∃ K : PySem.W.Frag, K.In h ∧ obsX P fa fn es K = valX fn es
  of := fun _ _ e => ⟨_, frG_in, e⟩
  keeps := fun _ _ _ ⟨K, hK, c⟩ k => ⟨K, PySem.W.Frag.In.keeps hK k, c⟩
theorem obsXG_eq {P : Program} {n : Nat} {fa : List Fa} {fn : List DefD} {es : List ErD} {g : Addr → Option Obj} {s : Shared} (h : ∀ a, g a = s.heap.get? a) : obsXG P n fa fn es g = (hookX P n fa fn es).obs s := by
  have e : g = s.heap.get? := funext h
  rw [e] <;> rfl
section
variable {P : Program} {fa : List Fa} {fn : List DefD} {es : List ErD} {K : PySem.W.Frag}
structure Says (P : Program) (fa : List Fa) (fn : List DefD) (es : List ErD) (K : PySem.W.Frag) : Prop where
  d : SaysD fa fn K
  e : ∀ d ∈ es, d.ok P K = true
  isa : isaB K es = true
  fld : fldB K es = true
  ini : (inis es).map (fun d => iniW K d.cls) = (inis es).map iniV
theorem says_of (h : obsX P fa fn es K = valX fn es) : Says P fa fn es K := by
  have h1 : allB P fa fn es K = true := congrArg (fun z : AlX => z.1) h
  have h2 : (fn.map fun d => fnW K d.at_) = fn.map DefD.val := congrArg (fun z : AlX => z.2.1) h
  have h3 : ((inis es).map fun d => iniW K d.cls) = (inis es).map iniV := congrArg (fun z : AlX => z.2.2) h
  obtain ⟨a1, h1⟩ := ba h1
  obtain ⟨a2, h1⟩ := ba h1
  obtain ⟨a3, h1⟩ := ba h1
  obtain ⟨a4, a5⟩ := ba h1
  refine ⟨?_, List.all_eq_true.mp a3, a4, a5, h3⟩
  show obsD fa fn K = valD fn
  unfold obsD valD
  rw [h2, a1, a2]
  rfl
theorem map_eq {α β : Type} {f g : α → β} : ∀ {l : List α}, l.map f = l.map g → ∀ a ∈ l, f a = g a
  | [], _, a, h => absurd h (by simp)
  | b :: l, e, a, h => by
    simp only [List.map_cons, List.cons.injEq] at e
    rcases List.mem_cons.mp h with rfl | h
    · exact e.1
    · exact map_eq e.2 a h
theorem Says.iniEq (s : Says P fa fn es K) {d : ErD} (h : d ∈ es) (y : Str) (hy : d.fld = some y) : iniW K d.cls = iniV ⟨d.cls, some y, d.st⟩ := by
  have z := map_eq s.ini d (List.mem_filter.mpr ⟨h, by rw [hy]; rfl⟩)
  rw [z]
  rfl
theorem Says.own (s : Says P fa fn es K) {h : Heap} {mg : Str → Option Value} (X : K.In h) (G : h.Ns mainGlobals mg) {d : ErD} (hd : d ∈ es) {y : Str} (hy : d.fld = some y) (hs : (Fa.free "super").ok K = true) (hf : IniForm y (iniSt d.st)) (ht : (P.main.scope.names.lookup ("super" : Str)).isSome = false) : EcI P K mg (ga K d.cls) d.cls y := by
  have z := s.e d hd
  unfold ErD.ok at z
  rw [hy] at z
  obtain ⟨a1, z⟩ := ba z
  obtain ⟨a2, z⟩ := ba z
  obtain ⟨a3, a4⟩ := ba z
  exact ini_mk X G a1 hs a2 a3 a4 (s.iniEq hd y hy) hf ht
theorem Says.plain (s : Says P fa fn es K) {h : Heap} {mg : Str → Option Value} (X : K.In h) (G : h.Ns mainGlobals mg) {d : ErD} (hd : d ∈ es) (hy : d.fld = none) : EcP K mg (ga K d.cls) d.cls := by
  have z := s.e d hd
  unfold ErD.ok at z
  rw [hy] at z
  obtain ⟨a1, z⟩ := ba z
  obtain ⟨a2, z⟩ := ba z
  obtain ⟨a3, a4⟩ := ba z
  exact pl_mk X G a1 a2 a3 a4
theorem Says.exc (s : Says P fa fn es K) {d : ErD} (hd : d ∈ es) : ExcC K (ga K d.cls) := by
  have z := s.e d hd
  unfold ErD.ok at z
  obtain ⟨a1, z⟩ := ba z
  obtain ⟨a2, z⟩ := ba z
  obtain ⟨a3, a4⟩ := ba z
  exact exB_ok a3
theorem Says.kit (s : Says P fa fn es K) {d e : ErD} (hd : d ∈ es) (he : e ∈ es) : PySem.W.kitOne K (.ref (ga K d.cls)) (.ref (ga K e.cls)) = some (decide (d.cls = e.cls) || decide (e.cls = "SightError")) := by
  obtain ⟨z, _⟩ := ba s.isa
  obtain ⟨z, _⟩ := ba (List.all_eq_true.mp z d hd)
  exact of_decide_eq_true (List.all_eq_true.mp z e he)
theorem Says.kitV (s : Says P fa fn es K) {d : ErD} (hd : d ∈ es) : PySem.W.kitOne K (.ref (ga K d.cls)) (.type "ValueError") = some true := by
  obtain ⟨z, _⟩ := ba s.isa
  obtain ⟨_, z⟩ := ba (List.all_eq_true.mp z d hd)
  exact of_decide_eq_true (ba z).1
theorem Says.kitN (s : Says P fa fn es K) {d : ErD} (hd : d ∈ es) : PySem.W.kitOne K (.type "NoneType") (.ref (ga K d.cls)) = some false := by
  obtain ⟨z, _⟩ := ba s.isa
  obtain ⟨_, z⟩ := ba (List.all_eq_true.mp z d hd)
  exact of_decide_eq_true (ba z).2
theorem Says.kitNV (s : Says P fa fn es K) : PySem.W.kitOne K (.type "NoneType") (.type "ValueError") = some false := of_decide_eq_true (ba s.isa).2
end
end DL
set_option Elab.async false
set_option linter.all false
set_option maxRecDepth 100000
set_option maxHeartbeats 4000000
/-! DL15: the state is made (_law_begun); a law's body behind that -/
namespace DL
open PySem PySem.Spec L2
abbrev rAbsI : List V → Hp → VK → Prop := fun xs H Q => ∃ i, xs = [.int i] ∧ Q (.int (if i < 0 then -i else i)) H
def tAb : TE := tCB rAbsI (tCons (tVar 2) tNil)
def rPow0 : R2 := rI CPow fun i j => .int (i ^ j.toNat)
def tBig : TE := tOp rPow0 (tC (.int 10)) (tC (.int 18))
def rGeI : R2 := rI0 fun i j => .bl (decide (j ≤ i))
def rSubI : R2 := rI0 fun i j => .int (i - j)
abbrev n_bg : List Str := ["script", "great", "cell"]
def tGr (K : PySem.W.Frag) : TE := tLc (iList K (tVar 0)) (gName 2) (tTest (tOp rGeI tAb tBig)) (tOp rSubI tAb tBig) [2]
def tCe (K : PySem.W.Frag) : TE := tLc (iList K (tVar 0)) (gName 2) tYes tAb [2]
def t_bg (K : PySem.W.Frag) : TS := tSeq (tAsg (tGr K) (gName 1)) (tRet (tDisp [(tC (.str "great"), tVar 1), (tC (.str "cells"), tCe K), (tC (.str "rest"), tC (.int 0)), (tC (.str "turn"), tC (.int 0))]))
/-- the new state: three new objects -/
def Begun (H H' : Hp) (s : Addr) : Prop := ∃ hd : Nat → Addr, hd 0 = s ∧ DrawSt hd H' 0 ∧ (∀ i, i < 3 → H (hd i) = none) ∧ ∀ b o, H b = some o → H' b = some o
def spBg (K : PySem.W.Frag) : Sp := fun vs H Q _ => ∃ (a : Addr) (ns : List Int), vs = [.ref a] ∧ SqL K H a (ns.map V.int) ∧ ns.length ≤ 63 ∧ ∀ s H', Begun H H' s → Q (.ref s) H'
theorem sqL_ext {K : PySem.W.Frag} {H H' : Hp} {a : Addr} {xs : List V} (h : SqL K H a xs) (e : ∀ b o, H b = some o → H' b = some o) : SqL K H' a xs := by
  rcases h with (h | ⟨o, h⟩) | h
  · exact .inl (.inl (e _ _ h))
  · exact .inl (.inr ⟨o, e _ _ h⟩)
  · exact .inr h
theorem abs_nn (z : Int) : 0 ≤ (if z < 0 then -z else z) := by split <;> omega
theorem pure_bg {K : PySem.W.Frag} (vs : List V) (H : Hp) (Q : VK) (E : XK) (h : spBg K vs H Q E) : t_bg K { nx := fun _ H' => Q .non H', rt := Q } (L2.start n_bg vs) H := by
  obtain ⟨a, ns, rfl, hS, hl, k⟩ := h
  have item : ∀ {i : Nat} {x : V}, (ns.map V.int)[i]? = some x → ∃ z : Int, x = V.int z := fun {i x} hi => by
    rw [List.getElem?_map] at hi
    cases e : ns[i]? with
    | none => rw [e] at hi; cases hi
    | some z => rw [e] at hi; exact ⟨z, (Option.some.inj hi).symm⟩
  have lz : ∀ {n : Nat}, n ≤ 63 → n < sizeLine := fun {n} h => by rw [sizeLine_eq]; omega
  -- great
  refine ⟨_, rfl, a, rfl, ⟨_, hS⟩, fun D hD => ?_⟩
  refine lc_list (K := K) (xs := ns.map V.int) (fun i H' => ∃ acc : List Int, H' D = some (.lst (acc.map V.int)) ∧ acc.length ≤ i ∧ (∀ z ∈ acc, 0 ≤ z) ∧ ∀ b, b ≠ D → H' b = H b) ⟨[], upd_same, Nat.le_refl _, by simp, fun b hb => upd_ne hb⟩
    (fun i H' _ ⟨acc, _, _, _, o⟩ => sqL_ext hS fun b u e => by rw [o b (ne_of_none e hD)]; exact e) ?_ ?_
  · rintro i x H' hi ⟨acc, e1, e2, e3, o⟩
    obtain ⟨z, rfl⟩ := item hi
    have hi' : i < 63 := by
      have := (List.getElem?_eq_some_iff.mp hi).1
      rw [List.length_map] at this
      omega
    refine ⟨rfl, _, rfl, z, rfl, 10, 18, rfl, rfl, ⟨by decide, by decide, by decide⟩, _, _, rfl, rfl, _, rfl, ?_⟩
    by_cases c : (10 : Int) ^ (18 : Int).toNat ≤ (if z < 0 then -z else z)
    · rw [decide_eq_true c]
      refine if_true_of (c := true) rfl ?_
      refine ⟨_, rfl, z, rfl, 10, 18, rfl, rfl, ⟨by decide, by decide, by decide⟩, _, _, rfl, rfl, acc.map V.int, e1, by rw [List.length_map]; exact lz (by omega), ?_⟩
      refine ⟨acc ++ [(if z < 0 then -z else z) - (10 : Int) ^ (18 : Int).toNat], by rw [upd_same, List.map_append]; rfl, by rw [List.length_append]; simp; omega, fun y hy => ?_, fun b hb => by rw [upd_ne hb]; exact o b hb⟩
      rcases List.mem_append.mp hy with hy | hy
      · exact e3 y hy
      · rw [List.mem_singleton.mp hy]; omega
    · rw [decide_eq_false c]
      exact if_false_of (c := false) rfl ⟨acc, e1, Nat.le_succ_of_le e2, e3, o⟩
  · rintro H1 ⟨gs, e1, e2, e3, o1⟩
    rw [List.length_map] at e2
    -- the dict
    intro p hp
    refine ⟨_, rfl, _, rfl, a, rfl, ⟨_, sqL_ext hS fun b u e => ?_⟩, fun C hC => ?_⟩
    · have hbD : b ≠ D := ne_of_none e hD
      have h1 : H1 b = some u := by rw [o1 b hbD]; exact e
      rw [upd_ne (ne_of_none h1 hp)]; exact h1
    obtain ⟨H2, hH2⟩ : ∃ H2, H2 = upd H1 p (.dK []) := ⟨_, rfl⟩
    rw [← hH2] at hC ⊢
    have p2 : H2 p = some (.dK []) := by rw [hH2, upd_same]
    have k2 : ∀ b u, H1 b = some u → H2 b = some u := fun b u e => by rw [hH2, upd_ne (ne_of_none e hp)]; exact e
    have k02 : ∀ b u, H b = some u → H2 b = some u := fun b u e => k2 b u (by rw [o1 b (ne_of_none e hD)]; exact e)
    have hpD : D ≠ p := ne_of_none e1 hp
    have hCD : D ≠ C := ne_of_none (k2 _ _ e1) hC
    have hCp : p ≠ C := ne_of_none p2 hC
    refine lc_list (K := K) (xs := ns.map V.int) (fun i H' => ∃ acc : List Int, H' C = some (.lst (acc.map V.int)) ∧ acc.length ≤ i ∧ (∀ z ∈ acc, 0 ≤ z) ∧ ∀ b, b ≠ C → H' b = H2 b) ⟨[], upd_same, Nat.le_refl _, by simp, fun b hb => upd_ne hb⟩
      (fun i H' _ ⟨acc, _, _, _, o⟩ => sqL_ext hS fun b u e => by rw [o b (ne_of_none (k02 b u e) hC)]; exact k02 b u e) ?_ ?_
    · rintro i x H' hi ⟨acc, f1, f2, f3, o⟩
      obtain ⟨z, rfl⟩ := item hi
      have hi' : i < 63 := by
        have := (List.getElem?_eq_some_iff.mp hi).1
        rw [List.length_map] at this
        omega
      refine ⟨rfl, ?_⟩
      simp only [tYes, if_true]
      refine ⟨_, rfl, z, rfl, acc.map V.int, f1, by rw [List.length_map]; exact lz (by omega), ?_⟩
      refine ⟨acc ++ [if z < 0 then -z else z], by rw [upd_same, List.map_append]; rfl, by rw [List.length_append]; simp; omega, fun y hy => ?_, fun b hb => by rw [upd_ne hb]; exact o b hb⟩
      rcases List.mem_append.mp hy with hy | hy
      · exact f3 y hy
      · rw [List.mem_singleton.mp hy]; exact abs_nn z
    · rintro H3 ⟨cs, f1, f2, f3, o3⟩
      have hn1 : ∀ {b : Addr}, H1 b = none → b ≠ D → H b = none := fun {b} e hb => by rw [← o1 b hb]; exact e
      have hC1 : H1 C = none := by
        cases z : H1 C with
        | none => rfl
        | some u => rw [k2 C u z] at hC; cases hC
      refine ⟨by rw [o3 p hCp]; exact p2, [(.inr "great", .ref D), (.inr "cells", .ref C), (.inr "rest", .int 0), (.inr "turn", .int 0)], rfl, by show 4 ≤ 15; decide, ?_⟩
      refine k p _ ⟨fun i => match i with | 0 => p | 1 => D | _ => C, rfl, ⟨gs, cs, 0, ?_, ?_, ?_, e3, f3, Int.le_refl _, by omega, Ne.symm hpD, hCp, hCD⟩, fun i hi => ?_, fun b u e => ?_⟩
      · show upd H3 p _ p = _
        rw [upd_same]
        first
          | rfl
          | (simp [mergeK, putK, stD]; done)
          | decide
      · show upd H3 p _ D = _
        rw [upd_ne hpD, o3 D hCD]
        exact k2 _ _ e1
      · show upd H3 p _ C = _
        rw [upd_ne (Ne.symm hCp)]
        exact f1
      · match i, hi with
        | 0, _ => exact hn1 hp (Ne.symm hpD)
        | 1, _ => exact hD
        | 2, _ => exact hn1 hC1 (Ne.symm hCD)
      · have hb1 : H2 b = some u := k02 b u e
        have hbp : b ≠ p := ne_of_none (show H1 b = some u by rw [o1 b (ne_of_none e hD)]; exact e) hp
        rw [upd_ne hbp, o3 b (ne_of_none hb1 hC)]
        exact hb1

/-! ### a law's body: the state is made, then the rest is read over data -/
/-- the constants of a law's run, the state at hd -/
def lawW (hd : Nat → Addr) : Wd where
  hd := hd
  S := fun b => ∃ i, i < 3 ∧ b = hd i
  Amb := fun H => ∃ n, DrawSt hd H n
  st := fun H H' h ⟨n, gs, cs, rest, e0, e1, e2, r⟩ => ⟨n, gs, cs, rest, by rw [h _ ⟨0, by decide, rfl⟩]; exact e0, by rw [h _ ⟨1, by decide, rfl⟩]; exact e1, by rw [h _ ⟨2, by decide, rfl⟩]; exact e2, r⟩
  s0 := ⟨0, by decide, rfl⟩
  s1 := ⟨1, by decide, rfl⟩
  s2 := ⟨2, by decide, rfl⟩
  rd := fun _ h => h
  wr := fun _ _ n _ _ h => ⟨n, h⟩
def spLaw (K : PySem.W.Frag) : Sp := fun vs H Q _ => ∃ (a : Addr) (ns : List Int), vs = [.ref a] ∧ SqL K H a (ns.map V.int) ∧ ns.length ≤ 63 ∧ ∀ H', Q (.bl true) H'
def lawE (n : Nat) (ns : List Int) : Env := .dat (.lst (ns.map D.int)) :: .dat (.hdl 0) :: List.replicate (n - 2) .un
/-- the law's rest answers True -/
def LawOk (m : Ms) (n : Nat) (ns : List Int) : Prop := m (lawE n ns) { nx := fun _ => False, rt := fun d => d = .bl true, ex := fun _ => False }
theorem dvs_ints {G : Go} {W : Wd} {Av : Addr → Prop} {H : Hp} : ∀ ns : List Int, DVs G W Av H (ns.map D.int) (ns.map V.int)
  | [] => DVs.nil
  | n :: ns => DVs.cons (by simp only [DV]) (dvs_ints ns)
theorem R.lawStart {G : Go} {N : List Str} {a s : Addr} {ns : List Int} {H H' : Hp} {hd : Nat → Addr} (hN : 2 ≤ N.length) (hS : SqL G.K H a (ns.map V.int)) (h0 : hd 0 = s) (hst : DrawSt hd H' 0) (hn : ∀ i, i < 3 → H (hd i) = none) (he : ∀ b o, H b = some o → H' b = some o) :
    R G { W := lawW hd, Av := (lawW hd).S, H0 := H', O := fun _ => none, X := [] } (lawE N.length ns) ((L2.start N [V.ref a]).set 1 (some (.ref s))) H' := by
  have hlen : (L2.start N [V.ref a]).length = N.length := by simp [L2.start]; omega
  have live : ∀ b, (lawW hd).S b → Tr H' b := fun b ⟨i, hi, e⟩ => by
    subst e
    obtain ⟨gs, cs, rest, e0, e1, e2, _⟩ := hst
    match i, hi with
    | 0, _ => exact ⟨_, e0⟩
    | 1, _ => exact ⟨_, e1⟩
    | 2, _ => exact ⟨_, e2⟩
  refine ⟨⟨Keep.refl, fun _ t => t, ⟨0, hst⟩⟩, fun _ h => h, live, fun i b e => (nomatch e), fun i j b e => (nomatch e), ?_, fun i sl e => ?_, fun p hp => absurd hp (by simp)⟩
  · rw [List.length_set, hlen]
    simp only [lawE, List.length_cons, List.length_replicate]
    omega
  · match i with
    | 0 =>
      have e : some (Slot.dat (.lst (ns.map D.int))) = some sl := e
      cases e
      refine ⟨.ref a, ?_, ?_⟩
      · rw [List.getElem?_set_ne (by decide)]
        simp [L2.start]
      · simp only [DV]
        refine ⟨a, ns.map V.int, rfl, ?_, dvs_ints ns⟩
        rcases hS with hS | hS
        · refine .inl ⟨fun z => ?_, hS.imp (he _ _) fun ⟨o, z⟩ => ⟨o, he _ _ z⟩⟩
          rcases z with ⟨i, hi, e⟩ | ⟨j, e⟩
          · exact hS.here.ne (hn i hi) e
          · cases e
        · exact .inr hS
    | 1 =>
      have e : some (Slot.dat (.hdl 0)) = some sl := e
      cases e
      refine ⟨.ref s, ?_, by simp only [DV]; rw [← h0]; rfl⟩
      rw [List.getElem?_set_self (by rw [hlen]; omega)]
    | i + 2 =>
      have e : (List.replicate (N.length - 2) Slot.un)[i]? = some sl := e
      rw [List.getElem?_replicate] at e
      split at e
      · rename_i hlt
        cases e
        have hlt2 : i + 2 < (L2.start N [V.ref a]).length := by rw [hlen]; omega
        refine ⟨none, ?_⟩
        rw [List.getElem?_set_ne (by omega)]
        unfold L2.start
        rw [List.getElem?_append_right (by simp)]
        rw [List.getElem?_replicate, if_pos (by simp; omega)]
      · cases e
section
variable {P : Program} {wd : World} {K : PySem.W.Frag} {mg : Str → Option Value} {base : Heap} {ec : Nat → Addr} {ef : Nat → Option Str}
def t_law (K : PySem.W.Frag) (rest : TS) : TS := tSeq (tAsg (tCall (spBg K) [] (fun _ _ _ => False) (tCons (tVar 0) tNil)) (gName 1)) rest
theorem fn_law {st : Stmt} {f : Addr} {fd : FuncData} {N : List Str} {k w : Nat} {m : Ms} (F : Fun K "law" "law" st f fd) (S : FnScope N ["script"] (defScope st)) (hN : 2 ≤ N.length)
    (hb : ∀ (cdv : Value) (A : Around) (outer : List PySem.Env) (s : Shared) (H : Hp) (E : XK), Room k (A.deeper (PyProof.Rows.envOfC "law" (defScope st) s.heap.objs.size f cdv)) →
      PSs (cxOf CX0 P wd K mg base N "law" (defScope st) f cdv A outer s H E).nox (defBody st) (t_law K (LS w ⟨K, ec, ef⟩ (fun cls d _ H => E cls d H) m)))
    (hw : w ≤ Bt) (hm : ∀ ns : List Int, ns.length ≤ 63 → LawOk m N.length ns) : FnOk P wd K mg base CX0 (k + 1) f fd ["script"] (spLaw K) := by
  refine F.ok S (fun vs H Q E h => ?_) (fun cdv A outer s H vs Q E hr h => ⟨_, hb cdv A outer s H E hr, ?_⟩)
  · obtain ⟨a, ns, rfl, _⟩ := h; rfl
  · obtain ⟨a, ns, rfl, hS, hl, kQ⟩ := h
    refine ⟨_, ?_, a, ns, rfl, hS, hl, fun s1 H' ⟨hd, h0, hst, hn, he⟩ => ?_⟩
    · simp [L2.start]
    · have r := R.lawStart (G := ⟨K, ec, ef⟩) hN hS h0 hst hn he
      refine ⟨_, _, _, r, hm ns hl, fun _ z => z.elim, fun d z v H2 _ _ hv => ?_, fun _ z => z.elim, fun _ z => z.elim, ?_, fun x z => z.elim⟩
      · have z : d = .bl true := z
        subst z
        simp only [DV] at hv
        subst hv
        exact kQ H2
      · show turnOf hd H' + w ≤ Bt
        rw [hst.turn]
        omega
end
end DL
set_option Elab.async false
set_option linter.all false
set_option maxRecDepth 100000
set_option maxHeartbeats 4000000
namespace K07
open PySem PySem.Spec L2 DL
def top (i : Nat) : Stmt := PySem.Challenge.pw_seenthrough_k07_errors_made.main.body.getD i (.Pass ⟨0, 0, 0, 0⟩)
/-- the errors that have a field, by number -/
def ef : Nat → Option Str
  | 19 => some "place"
  | 20 => some "path"
  | 21 => some "path"
  | 22 => some "name"
  | 23 => some "fact"
  | 24 => some "number"
  | 25 => some "at"
  | 26 => some "at"
  | 27 => some "at"
  | 28 => some "at"
  | 29 => some "most"
  | 30 => some "word"
  | 31 => some "paths"
  | 32 => some "path"
  | 33 => some "barrier"
  | 34 => some "number"
  | 35 => some "most"
  | 36 => some "number"
  | 37 => some "word"
  | 38 => some "name"
  | 39 => some "form"
  | _ => none
def inE (c : Nat) : Bool := ([1, 2, 3, 4, 5, 6, 7, 8, 9, 10, 11, 12, 13, 14, 15, 16, 17, 18, 19, 20, 21, 22, 23, 24, 25, 26, 27, 28, 29, 30, 31, 32, 33, 34, 35, 36, 37, 38, 39] : List Nat).contains c
/-- isinstance(.., error number c) -/
def subE (c : Nat) : D → Option Bool
  | .exc d _ => if inE d = true then some (d == c || c == 1) else none
  | .non => some false
  | _ => none
def subV : D → Option Bool
  | .exc d _ => if inE d = true then some true else none
  | .non => some false
  | _ => none
/-- built-ins that the module does not name anew -/
structure Nb (mg : Str → Option Value) : Prop where
  ValueError : mg "ValueError" = none
  abs : mg "abs" = none
  enumerate : mg "enumerate" = none
  int : mg "int" = none
  isinstance : mg "isinstance" = none
  len : mg "len" = none
  min : mg "min" = none
  range : mg "range" = none
/-- the errors, as the written part has them -/
structure Er (P : Program) (K : PySem.W.Frag) (mg : Str → Option Value) (ec : Nat → Addr) : Prop where
  p_SightError : EcP K mg (ec 1) "SightError"
  g_SightError : mg "SightError" = some (.ref (ec 1))
  is_SightError : IsA K ⟨K, ec, ef⟩ (.ref (ec 1)) (subE 1)
  p_BadRow : EcP K mg (ec 2) "BadRow"
  g_BadRow : mg "BadRow" = some (.ref (ec 2))
  is_BadRow : IsA K ⟨K, ec, ef⟩ (.ref (ec 2)) (subE 2)
  p_BadTriple : EcP K mg (ec 3) "BadTriple"
  g_BadTriple : mg "BadTriple" = some (.ref (ec 3))
  is_BadTriple : IsA K ⟨K, ec, ef⟩ (.ref (ec 3)) (subE 3)
  p_BadFact : EcP K mg (ec 4) "BadFact"
  g_BadFact : mg "BadFact" = some (.ref (ec 4))
  is_BadFact : IsA K ⟨K, ec, ef⟩ (.ref (ec 4)) (subE 4)
  p_BadBarrier : EcP K mg (ec 5) "BadBarrier"
  g_BadBarrier : mg "BadBarrier" = some (.ref (ec 5))
  is_BadBarrier : IsA K ⟨K, ec, ef⟩ (.ref (ec 5)) (subE 5)
  p_BadValue : EcP K mg (ec 6) "BadValue"
  g_BadValue : mg "BadValue" = some (.ref (ec 6))
  is_BadValue : IsA K ⟨K, ec, ef⟩ (.ref (ec 6)) (subE 6)
  p_BadRoles : EcP K mg (ec 7) "BadRoles"
  g_BadRoles : mg "BadRoles" = some (.ref (ec 7))
  is_BadRoles : IsA K ⟨K, ec, ef⟩ (.ref (ec 7)) (subE 7)
  p_BadPlace : EcP K mg (ec 8) "BadPlace"
  g_BadPlace : mg "BadPlace" = some (.ref (ec 8))
  is_BadPlace : IsA K ⟨K, ec, ef⟩ (.ref (ec 8)) (subE 8)
  p_BadEnd : EcP K mg (ec 9) "BadEnd"
  g_BadEnd : mg "BadEnd" = some (.ref (ec 9))
  is_BadEnd : IsA K ⟨K, ec, ef⟩ (.ref (ec 9)) (subE 9)
  p_BadName : EcP K mg (ec 10) "BadName"
  g_BadName : mg "BadName" = some (.ref (ec 10))
  is_BadName : IsA K ⟨K, ec, ef⟩ (.ref (ec 10)) (subE 10)
  p_BadForm : EcP K mg (ec 11) "BadForm"
  g_BadForm : mg "BadForm" = some (.ref (ec 11))
  is_BadForm : IsA K ⟨K, ec, ef⟩ (.ref (ec 11)) (subE 11)
  p_BadPiece : EcP K mg (ec 12) "BadPiece"
  g_BadPiece : mg "BadPiece" = some (.ref (ec 12))
  is_BadPiece : IsA K ⟨K, ec, ef⟩ (.ref (ec 12)) (subE 12)
  p_BadSort : EcP K mg (ec 13) "BadSort"
  g_BadSort : mg "BadSort" = some (.ref (ec 13))
  is_BadSort : IsA K ⟨K, ec, ef⟩ (.ref (ec 13)) (subE 13)
  p_NoPiece : EcP K mg (ec 14) "NoPiece"
  g_NoPiece : mg "NoPiece" = some (.ref (ec 14))
  is_NoPiece : IsA K ⟨K, ec, ef⟩ (.ref (ec 14)) (subE 14)
  p_NothingDone : EcP K mg (ec 15) "NothingDone"
  g_NothingDone : mg "NothingDone" = some (.ref (ec 15))
  is_NothingDone : IsA K ⟨K, ec, ef⟩ (.ref (ec 15)) (subE 15)
  p_BadStep : EcP K mg (ec 16) "BadStep"
  g_BadStep : mg "BadStep" = some (.ref (ec 16))
  is_BadStep : IsA K ⟨K, ec, ef⟩ (.ref (ec 16)) (subE 16)
  p_BadRun : EcP K mg (ec 17) "BadRun"
  g_BadRun : mg "BadRun" = some (.ref (ec 17))
  is_BadRun : IsA K ⟨K, ec, ef⟩ (.ref (ec 17)) (subE 17)
  p_BadSwap : EcP K mg (ec 18) "BadSwap"
  g_BadSwap : mg "BadSwap" = some (.ref (ec 18))
  is_BadSwap : IsA K ⟨K, ec, ef⟩ (.ref (ec 18)) (subE 18)
  i_BadLanguage : EcI P K mg (ec 19) "BadLanguage" "place"
  g_BadLanguage : mg "BadLanguage" = some (.ref (ec 19))
  is_BadLanguage : IsA K ⟨K, ec, ef⟩ (.ref (ec 19)) (subE 19)
  i_BadTerm : EcI P K mg (ec 20) "BadTerm" "path"
  g_BadTerm : mg "BadTerm" = some (.ref (ec 20))
  is_BadTerm : IsA K ⟨K, ec, ef⟩ (.ref (ec 20)) (subE 20)
  i_BadPath : EcI P K mg (ec 21) "BadPath" "path"
  g_BadPath : mg "BadPath" = some (.ref (ec 21))
  is_BadPath : IsA K ⟨K, ec, ef⟩ (.ref (ec 21)) (subE 21)
  i_BadTable : EcI P K mg (ec 22) "BadTable" "name"
  g_BadTable : mg "BadTable" = some (.ref (ec 22))
  is_BadTable : IsA K ⟨K, ec, ef⟩ (.ref (ec 22)) (subE 22)
  i_BadGiven : EcI P K mg (ec 23) "BadGiven" "fact"
  g_BadGiven : mg "BadGiven" = some (.ref (ec 23))
  is_BadGiven : IsA K ⟨K, ec, ef⟩ (.ref (ec 23)) (subE 23)
  i_BadState : EcI P K mg (ec 24) "BadState" "number"
  g_BadState : mg "BadState" = some (.ref (ec 24))
  is_BadState : IsA K ⟨K, ec, ef⟩ (.ref (ec 24)) (subE 24)
  i_BadText : EcI P K mg (ec 25) "BadText" "at"
  g_BadText : mg "BadText" = some (.ref (ec 25))
  is_BadText : IsA K ⟨K, ec, ef⟩ (.ref (ec 25)) (subE 25)
  i_BadLine : EcI P K mg (ec 26) "BadLine" "at"
  g_BadLine : mg "BadLine" = some (.ref (ec 26))
  is_BadLine : IsA K ⟨K, ec, ef⟩ (.ref (ec 26)) (subE 26)
  i_BadPacked : EcI P K mg (ec 27) "BadPacked" "at"
  g_BadPacked : mg "BadPacked" = some (.ref (ec 27))
  is_BadPacked : IsA K ⟨K, ec, ef⟩ (.ref (ec 27)) (subE 27)
  i_BadJournal : EcI P K mg (ec 28) "BadJournal" "at"
  g_BadJournal : mg "BadJournal" = some (.ref (ec 28))
  is_BadJournal : IsA K ⟨K, ec, ef⟩ (.ref (ec 28)) (subE 28)
  i_TooMany : EcI P K mg (ec 29) "TooMany" "most"
  g_TooMany : mg "TooMany" = some (.ref (ec 29))
  is_TooMany : IsA K ⟨K, ec, ef⟩ (.ref (ec 29)) (subE 29)
  i_Unlike : EcI P K mg (ec 30) "Unlike" "word"
  g_Unlike : mg "Unlike" = some (.ref (ec 30))
  is_Unlike : IsA K ⟨K, ec, ef⟩ (.ref (ec 30)) (subE 30)
  i_Disordered : EcI P K mg (ec 31) "Disordered" "paths"
  g_Disordered : mg "Disordered" = some (.ref (ec 31))
  is_Disordered : IsA K ⟨K, ec, ef⟩ (.ref (ec 31)) (subE 31)
  i_Doubtful : EcI P K mg (ec 32) "Doubtful" "path"
  g_Doubtful : mg "Doubtful" = some (.ref (ec 32))
  is_Doubtful : IsA K ⟨K, ec, ef⟩ (.ref (ec 32)) (subE 32)
  i_NoTable : EcI P K mg (ec 33) "NoTable" "barrier"
  g_NoTable : mg "NoTable" = some (.ref (ec 33))
  is_NoTable : IsA K ⟨K, ec, ef⟩ (.ref (ec 33)) (subE 33)
  i_BadMarks : EcI P K mg (ec 34) "BadMarks" "number"
  g_BadMarks : mg "BadMarks" = some (.ref (ec 34))
  is_BadMarks : IsA K ⟨K, ec, ef⟩ (.ref (ec 34)) (subE 34)
  i_TooDeep : EcI P K mg (ec 35) "TooDeep" "most"
  g_TooDeep : mg "TooDeep" = some (.ref (ec 35))
  is_TooDeep : IsA K ⟨K, ec, ef⟩ (.ref (ec 35)) (subE 35)
  i_BadNumber : EcI P K mg (ec 36) "BadNumber" "number"
  g_BadNumber : mg "BadNumber" = some (.ref (ec 36))
  is_BadNumber : IsA K ⟨K, ec, ef⟩ (.ref (ec 36)) (subE 36)
  i_NotAlike : EcI P K mg (ec 37) "NotAlike" "word"
  g_NotAlike : mg "NotAlike" = some (.ref (ec 37))
  is_NotAlike : IsA K ⟨K, ec, ef⟩ (.ref (ec 37)) (subE 37)
  i_NotApart : EcI P K mg (ec 38) "NotApart" "name"
  g_NotApart : mg "NotApart" = some (.ref (ec 38))
  is_NotApart : IsA K ⟨K, ec, ef⟩ (.ref (ec 38)) (subE 38)
  i_NotStraight : EcI P K mg (ec 39) "NotStraight" "form"
  g_NotStraight : mg "NotStraight" = some (.ref (ec 39))
  is_NotStraight : IsA K ⟨K, ec, ef⟩ (.ref (ec 39)) (subE 39)
  a_at : ∀ c, ef c = some "at" → ExcC K (ec c) ∧ PySem.W.findIn K (.ref (ec c)) "at" = some none
  a_barrier : ∀ c, ef c = some "barrier" → ExcC K (ec c) ∧ PySem.W.findIn K (.ref (ec c)) "barrier" = some none
  a_fact : ∀ c, ef c = some "fact" → ExcC K (ec c) ∧ PySem.W.findIn K (.ref (ec c)) "fact" = some none
  a_form : ∀ c, ef c = some "form" → ExcC K (ec c) ∧ PySem.W.findIn K (.ref (ec c)) "form" = some none
  a_most : ∀ c, ef c = some "most" → ExcC K (ec c) ∧ PySem.W.findIn K (.ref (ec c)) "most" = some none
  a_name : ∀ c, ef c = some "name" → ExcC K (ec c) ∧ PySem.W.findIn K (.ref (ec c)) "name" = some none
  a_number : ∀ c, ef c = some "number" → ExcC K (ec c) ∧ PySem.W.findIn K (.ref (ec c)) "number" = some none
  a_path : ∀ c, ef c = some "path" → ExcC K (ec c) ∧ PySem.W.findIn K (.ref (ec c)) "path" = some none
  a_paths : ∀ c, ef c = some "paths" → ExcC K (ec c) ∧ PySem.W.findIn K (.ref (ec c)) "paths" = some none
  a_place : ∀ c, ef c = some "place" → ExcC K (ec c) ∧ PySem.W.findIn K (.ref (ec c)) "place" = some none
  a_word : ∀ c, ef c = some "word" → ExcC K (ec c) ∧ PySem.W.findIn K (.ref (ec c)) "word" = some none
  is_ValueError : IsA K ⟨K, ec, ef⟩ (.type "ValueError") subV
section
variable {P : Program} {w : World} {K : PySem.W.Frag} {mg : Str → Option Value} {base : Heap} {ec : Nat → Addr}
/-! ### the draws -/
abbrev s__law_blended : Stmt := top 42
theorem sc__law_blended : FnScope n_bl ["state"] (defScope s__law_blended) := ⟨rfl, rfl, rfl, by decide +kernel, rfl, by decide +kernel, by decide +kernel⟩
theorem ok__law_blended {f : Addr} {fd : FuncData} (F : Fun K "_law_blended" "_law_blended" s__law_blended f fd) (hi : mg "int" = none) : FnOk P w K mg base CX0 1 f fd ["state"] spBl := by
  refine F.ok sc__law_blended (fun vs H Q E h => ?_) (fun cdv A outer s H vs Q E hr h => ⟨t_bl K, ?_, pure_bl vs H Q E h⟩)
  · obtain ⟨hd, n, rfl, _⟩ := h; rfl
  · have ND := sc__law_blended.nd
    exact pss_cons (ps_par rfl ND rfl rfl (by decide) rfl rfl (pa_cons (pe_op op_add (pe_dget (hu1 hr) (pv 0) pe_str (fun _ _ => rfl)) pe_int) (pa_cons pe_int pa_nil)) rfl)
      (pss_cons (ps_dput (hu1 hr) (pv 0) pe_str (pv 1) rfl)
      (pss_cons (ps_for PassesOwn.never rfl (pi_list (pe_lst (pa_cons pe_int (pa_cons pe_int (pa_cons pe_int pa_nil))))) (pg_name (i := 3) ND rfl (Or.inl rfl))
        (pss_cons (ps_set (i := 4) ND rfl (Or.inl rfl) (pe_op op_add (pe_op op_mul pe_int (pv 1)) (pe_op op_fdiv (pv 3) pe_int)))
        (pss_cons (ps_for PassesOwn.never rfl (pi_list (pe_dget (hu1 hr) (pv 0) pe_str (fun _ _ => rfl))) (pg_name (i := 5) ND rfl (Or.inl rfl))
          (pss_one (ps_set (i := 4) ND rfl (Or.inl rfl) (pe_op op_mod (pe_callTy call_int1 rfl hi (by decide +kernel) (pa_cons (pe_op op_add (pe_op op_add (pe_op op_mul (pv 4) pe_int) (pv 5)) (pv 1)) pa_nil)) (pv 3)))))
        (pss_one (ps_set (i := 2) ND rfl (Or.inl rfl) (pe_op op_add (pe_op op_mul (pv 2) pe_int) (pe_op op_mod (pe_callTy call_int1 rfl hi (by decide +kernel) (pa_cons (pe_op op_powB (pv 4) pe_int) pa_nil)) (pv 3))))))))
      (pss_one (ps_ret (pv 2)))))
abbrev s__law_draw : Stmt := top 43
theorem sc__law_draw : FnScope n_dr ["state", "room"] (defScope s__law_draw) := ⟨rfl, rfl, rfl, by decide +kernel, rfl, by decide +kernel, by decide +kernel⟩
theorem ok__law_draw {f : Addr} {fd : FuncData} (F : Fun K "_law_draw" "_law_draw" s__law_draw f fd) (hi : mg "int" = none) (c : Cal P w K mg base 1 "_law_blended" ["state"] spBl) : FnOk P w K mg base CX0 2 f fd ["state", "room"] (spD ⟨K, ec, ef⟩ 2 1 fDraw) := by
  obtain ⟨fb, fdb, FB, hm, hk, hb⟩ := c
  have h : FnOk P w K mg base CX0 2 f fd ["state", "room"] spDr := by
    refine F.ok sc__law_draw (fun vs H Q E h => ?_) (fun cdv A outer s H vs Q E hr h => ⟨t_dr K, ?_, pure_dr vs H Q E h⟩)
    · obtain ⟨hd, n, room, rfl, _⟩ := h; rfl
    · have ND := sc__law_draw.nd
      exact pss_cons (ps_if (pt_cmpR (op_eqD (hu64 hr)) (pe_dget (hu1 hr) (pv 0) pe_str (fun _ _ => rfl)) pe_int (nomark _))
        (pss_one (ps_dput (hu1 hr) (pv 0) pe_str (pe_ifExp (pt_cmpR (op_neD (hu64 hr)) (pe_dget (hu1 hr) (pv 0) pe_str (fun _ _ => rfl)) (pe_lst pa_nil) (nomark _))
          (pe_bm PySem.F.plainAttrs_list PySem.F.slot_list_pop PySem.F.type_list_pop mt_popAt (pe_dget (hu1 hr) (pv 0) pe_str (fun _ _ => rfl)) (pa_cons pe_int pa_nil))
          (pe_call FB hr rfl hm hk hb .nil pass0 (pa_cons (pv 0) pa_nil))) rfl)) pss_nil)
        (pss_cons (ps_set (i := 2) ND rfl (Or.inl rfl) (pe_op op_mod (pe_callTy call_int1 rfl hi (by decide +kernel) (pa_cons (pe_dget (hu1 hr) (pv 0) pe_str (fun _ _ => rfl)) pa_nil)) (pv 1)))
        (pss_cons (ps_dput (hu1 hr) (pv 0) pe_str (pe_op op_fdiv (pe_dget (hu1 hr) (pv 0) pe_str (fun _ _ => rfl)) (pv 1)) rfl)
        (pss_one (ps_ret (pv 2)))))
  exact h.imp dr_spD

abbrev s__law_begun : Stmt := top 41
theorem sc__law_begun : FnScope n_bg ["script"] (defScope s__law_begun) := ⟨rfl, rfl, rfl, by decide +kernel, rfl, by decide +kernel, by decide +kernel⟩
theorem ok__law_begun {f : Addr} {fd : FuncData} (F : Fun K "_law_begun" "_law_begun" s__law_begun f fd) (ha : mg "abs" = none) : FnOk P w K mg base CX0 1 f fd ["script"] (spBg K) := by
  refine F.ok sc__law_begun (fun vs H Q E h => ?_) (fun cdv A outer s H vs Q E hr h => ⟨t_bg K, ?_, pure_bg vs H Q E h⟩)
  · obtain ⟨a, ns, rfl, _⟩ := h; rfl
  · have ND := sc__law_begun.nd
    exact pss_cons (ps_setLc (i := 1) (own := [("cell", 2)]) rfl ND rfl rfl (sw_true rfl rfl rfl (by decide +kernel)) (pi_list (pv 0)) (blkOk_by (N := n_bg) (sc := defScope s__law_begun) (by decide +kernel))
        (fun _ _ _ _ _ => pg_name (i := 2) ND rfl (Or.inl rfl)) (fun _ _ _ _ _ => pts_one (pt_cmpR op_ge (pe_callB call_abs rfl ha (by decide +kernel) (pa_cons (pv 2) pa_nil)) (pe_op op_pow pe_int pe_int) (nomark _)))
        (fun _ _ _ _ _ => pe_op op_sub (pe_callB call_abs rfl ha (by decide +kernel) (pa_cons (pv 2) pa_nil)) (pe_op op_pow pe_int pe_int)))
      (pss_one (ps_ret (pe_disp (pps_cons pe_str (pv 1) (pps_cons pe_str
        (pe_lc (own := [("cell", 2)]) rfl ND (pi_list (pv 0)) (blkOk_by (N := n_bg) (sc := defScope s__law_begun) (by decide +kernel)) (fun _ _ _ _ _ => pg_name (i := 2) ND rfl (Or.inl rfl)) (fun _ _ _ _ _ => pts_nil) (fun _ _ _ _ _ => pe_callB call_abs rfl ha (by decide +kernel) (pa_cons (pv 2) pa_nil)))
        (pps_cons pe_str pe_int (pps_cons pe_str pe_int pps_nil)))) rfl rfl (by simp) (by decide))))
/-! ### _law_pick -/
abbrev s__law_pick : Stmt := top 44
abbrev n__law_pick : List Str := ["state", "some"]
theorem sc__law_pick : FnScope n__law_pick ["state", "some"] (defScope s__law_pick) := ⟨rfl, rfl, rfl, by decide +kernel, rfl, by decide +kernel, by decide +kernel⟩
def m__law_pick (f__law_draw : Fd) : Ms :=
  (sRet (m2 oIx (mDat 1) (mCall 2 f__law_draw [] (mCons (mDat 0) (mCons (m1 oLen (mDat 1)) mNil)))))
theorem ok__law_pick {f : Addr} {fd : FuncData} (F : Fun K "_law_pick" "_law_pick" s__law_pick f fd) (T : Nb mg)  {f__law_draw : Fd} (c__law_draw : Cal P w K mg base 2 "_law_draw" ["state", "room"] (spD ⟨K, ec, ef⟩ 2 1 f__law_draw)) : FnOk P w K mg base CX0 3 f fd ["state", "some"] (spD ⟨K, ec, ef⟩ 2 1 (body (m__law_pick f__law_draw) 2)) := by
  have ND := sc__law_pick.nd
  have h := fn0 (G := ⟨K, ec, ef⟩) (P := P) (wd := w) (K := K) (mg := mg) (base := base) (k := 2) (m := m__law_pick f__law_draw) F sc__law_pick fun cdv A outer s H E hr =>
    (sd_one (sd_ret (pd_ix rfl (pd 1) (pd_C c__law_draw (hr.mono (by decide)) (ad_cons (pd 0) (ad_cons (pd_B1 DL.call_lenD (does_len rfl) rfl T.len PySem.boot_len (pd 1)) ad_nil))))))
  exact h.imp (spD_mono (by decide))

/-! ### _law_plain_row -/
abbrev s__law_plain_row : Stmt := top 45
abbrev n__law_plain_row : List Str := ["text", "found"]
theorem sc__law_plain_row : FnScope n__law_plain_row ["text"] (defScope s__law_plain_row) := ⟨rfl, rfl, rfl, by decide +kernel, rfl, by decide +kernel, by decide +kernel⟩
def m__law_plain_row  : Ms :=
  (sSeq (sSet 1 (mLst (mCons (m1 (oExcP 5) (mDat 0)) (mCons (m1 (oExcP 9) (mDat 0)) (mCons (m1 (oExcP 4) (mDat 0)) (mCons (m1 (oExcP 11) (mDat 0)) (mCons (m1 (oExcP 10) (mDat 0)) (mCons (m1 (oExcP 12) (mDat 0)) (mCons (m1 (oExcP 8) (mDat 0)) mNil)))))))))
  (sSeq (sSet 1 (m2 oAdd (mDat 1) (mLst (mCons (m1 (oExcP 7) (mDat 0)) (mCons (m1 (oExcP 2) (mDat 0)) (mCons (m1 (oExcP 17) (mDat 0)) (mCons (m1 (oExcP 13) (mDat 0)) (mCons (m1 (oExcP 16) (mDat 0)) (mCons (m1 (oExcP 18) (mDat 0)) mNil)))))))))
  (sRet (m2 oAdd (mDat 1) (mLst (mCons (m1 (oExcP 3) (mDat 0)) (mCons (m1 (oExcP 6) (mDat 0)) (mCons (m1 (oExcP 14) (mDat 0)) (mCons (m1 (oExcP 15) (mDat 0)) mNil)))))))))
theorem ok__law_plain_row {f : Addr} {fd : FuncData} (F : Fun K "_law_plain_row" "_law_plain_row" s__law_plain_row f fd)  (Z : Er P K mg ec)   : FnOk P w K mg base CX0 2 f fd ["text"] (spD ⟨K, ec, ef⟩ 1 0 (body (m__law_plain_row ) 2)) := by
  have ND := sc__law_plain_row.nd
  have h := fn0 (G := ⟨K, ec, ef⟩) (P := P) (wd := w) (K := K) (mg := mg) (base := base) (k := 1) (m := m__law_plain_row ) F sc__law_plain_row fun cdv A outer s H E hr =>
    (sd_cons (sd_set (i := 1) ND (pd_lst (ad_cons (pd_excP 5 Z.p_BadBarrier rfl rfl (pd 0)) (ad_cons (pd_excP 9 Z.p_BadEnd rfl rfl (pd 0)) (ad_cons (pd_excP 4 Z.p_BadFact rfl rfl (pd 0)) (ad_cons (pd_excP 11 Z.p_BadForm rfl rfl (pd 0)) (ad_cons (pd_excP 10 Z.p_BadName rfl rfl (pd 0)) (ad_cons (pd_excP 12 Z.p_BadPiece rfl rfl (pd 0)) (ad_cons (pd_excP 8 Z.p_BadPlace rfl rfl (pd 0)) ad_nil)))))))))
    (sd_cons (sd_set (i := 1) ND (pd_op op_addD (does_add rfl) (pd 1) (pd_lst (ad_cons (pd_excP 7 Z.p_BadRoles rfl rfl (pd 0)) (ad_cons (pd_excP 2 Z.p_BadRow rfl rfl (pd 0)) (ad_cons (pd_excP 17 Z.p_BadRun rfl rfl (pd 0)) (ad_cons (pd_excP 13 Z.p_BadSort rfl rfl (pd 0)) (ad_cons (pd_excP 16 Z.p_BadStep rfl rfl (pd 0)) (ad_cons (pd_excP 18 Z.p_BadSwap rfl rfl (pd 0)) ad_nil)))))))))
    (sd_one (sd_ret (pd_op op_addD (does_add rfl) (pd 1) (pd_lst (ad_cons (pd_excP 3 Z.p_BadTriple rfl rfl (pd 0)) (ad_cons (pd_excP 6 Z.p_BadValue rfl rfl (pd 0)) (ad_cons (pd_excP 14 Z.p_NoPiece rfl rfl (pd 0)) (ad_cons (pd_excP 15 Z.p_NothingDone rfl rfl (pd 0)) ad_nil))))))))))
  exact h.imp (spD_mono (by decide))

/-! ### _law_told_row -/
abbrev s__law_told_row : Stmt := top 46
abbrev n__law_told_row : List Str := ["one", "first", "second", "third", "there"]
theorem sc__law_told_row : FnScope n__law_told_row ["one"] (defScope s__law_told_row) := ⟨rfl, rfl, rfl, by decide +kernel, rfl, by decide +kernel, by decide +kernel⟩
def m__law_told_row  : Ms :=
  (sSeq (sSet 1 (mLst (mCons (m1 (oExc 23) (mDat 0)) (mCons (m1 (oExc 28) (mDat 0)) (mCons (m1 (oExc 19) (mDat 0)) (mCons (m1 (oExc 26) (mDat 0)) (mCons (m1 (oExc 34) (mDat 0)) (mCons (m1 (oExc 36) (mDat 0)) (mCons (m1 (oExc 27) (mDat 0)) mNil)))))))))
  (sSeq (sSet 2 (mLst (mCons (m1 (oExc 21) (mDat 0)) (mCons (m1 (oExc 24) (mDat 0)) (mCons (m1 (oExc 22) (mDat 0)) (mCons (m1 (oExc 20) (mDat 0)) (mCons (m1 (oExc 25) (mDat 0)) (mCons (m1 (oExc 31) (mDat 0)) (mCons (m1 (oExc 32) (mDat 0)) mNil)))))))))
  (sSeq (sSet 3 (mLst (mCons (m1 (oExc 33) (mDat 0)) (mCons (m1 (oExc 37) (mDat 0)) (mCons (m1 (oExc 38) (mDat 0)) (mCons (m1 (oExc 39) (mDat 0)) (mCons (m1 (oExc 35) (mDat 0)) (mCons (m1 (oExc 29) (mDat 0)) (mCons (m1 (oExc 30) (mDat 0)) mNil)))))))))
  (sSeq (sSet 4 (mLst (mCons (m1 (oFld ef "fact") (m2 oIx (mDat 1) (mC (.int 0)))) (mCons (m1 (oFld ef "at") (m2 oIx (mDat 1) (mC (.int 1)))) (mCons (m1 (oFld ef "place") (m2 oIx (mDat 1) (mC (.int 2)))) (mCons (m1 (oFld ef "at") (m2 oIx (mDat 1) (mC (.int 3)))) (mCons (m1 (oFld ef "number") (m2 oIx (mDat 1) (mC (.int 4)))) (mCons (m1 (oFld ef "number") (m2 oIx (mDat 1) (mC (.int 5)))) (mCons (m1 (oFld ef "at") (m2 oIx (mDat 1) (mC (.int 6)))) mNil)))))))))
  (sSeq (sSet 4 (m2 oAdd (mDat 4) (mLst (mCons (m1 (oFld ef "path") (m2 oIx (mDat 2) (mC (.int 0)))) (mCons (m1 (oFld ef "number") (m2 oIx (mDat 2) (mC (.int 1)))) (mCons (m1 (oFld ef "name") (m2 oIx (mDat 2) (mC (.int 2)))) (mCons (m1 (oFld ef "path") (m2 oIx (mDat 2) (mC (.int 3)))) (mCons (m1 (oFld ef "at") (m2 oIx (mDat 2) (mC (.int 4)))) (mCons (m1 (oFld ef "paths") (m2 oIx (mDat 2) (mC (.int 5)))) mNil)))))))))
  (sSeq (sSet 4 (m2 oAdd (mDat 4) (mLst (mCons (m1 (oFld ef "path") (m2 oIx (mDat 2) (mC (.int 6)))) (mCons (m1 (oFld ef "barrier") (m2 oIx (mDat 3) (mC (.int 0)))) (mCons (m1 (oFld ef "word") (m2 oIx (mDat 3) (mC (.int 1)))) (mCons (m1 (oFld ef "name") (m2 oIx (mDat 3) (mC (.int 2)))) (mCons (m1 (oFld ef "form") (m2 oIx (mDat 3) (mC (.int 3)))) (mCons (m1 (oFld ef "most") (m2 oIx (mDat 3) (mC (.int 4)))) mNil)))))))))
  (sRet (mTup (mCons (m2 oAdd (m2 oAdd (mDat 1) (mDat 2)) (mDat 3)) (mCons (m2 oAdd (mDat 4) (mLst (mCons (m1 (oFld ef "most") (m2 oIx (mDat 3) (mC (.int 5)))) (mCons (m1 (oFld ef "word") (m2 oIx (mDat 3) (mC (.int 6)))) mNil)))) mNil))))))))))
theorem ok__law_told_row {f : Addr} {fd : FuncData} (F : Fun K "_law_told_row" "_law_told_row" s__law_told_row f fd)  (Z : Er P K mg ec)   : FnOk P w K mg base CX0 2 f fd ["one"] (spD ⟨K, ec, ef⟩ 1 0 (body (m__law_told_row ) 5)) := by
  have ND := sc__law_told_row.nd
  have h := fn0 (G := ⟨K, ec, ef⟩) (P := P) (wd := w) (K := K) (mg := mg) (base := base) (k := 1) (m := m__law_told_row ) F sc__law_told_row fun cdv A outer s H E hr =>
    (sd_cons (sd_set (i := 1) ND (pd_lst (ad_cons (pd_exc (k := 0) 23 Z.i_BadGiven rfl rfl (hr.mono (by decide)) (pd 0)) (ad_cons (pd_exc (k := 0) 28 Z.i_BadJournal rfl rfl (hr.mono (by decide)) (pd 0)) (ad_cons (pd_exc (k := 0) 19 Z.i_BadLanguage rfl rfl (hr.mono (by decide)) (pd 0)) (ad_cons (pd_exc (k := 0) 26 Z.i_BadLine rfl rfl (hr.mono (by decide)) (pd 0)) (ad_cons (pd_exc (k := 0) 34 Z.i_BadMarks rfl rfl (hr.mono (by decide)) (pd 0)) (ad_cons (pd_exc (k := 0) 36 Z.i_BadNumber rfl rfl (hr.mono (by decide)) (pd 0)) (ad_cons (pd_exc (k := 0) 27 Z.i_BadPacked rfl rfl (hr.mono (by decide)) (pd 0)) ad_nil)))))))))
    (sd_cons (sd_set (i := 2) ND (pd_lst (ad_cons (pd_exc (k := 0) 21 Z.i_BadPath rfl rfl (hr.mono (by decide)) (pd 0)) (ad_cons (pd_exc (k := 0) 24 Z.i_BadState rfl rfl (hr.mono (by decide)) (pd 0)) (ad_cons (pd_exc (k := 0) 22 Z.i_BadTable rfl rfl (hr.mono (by decide)) (pd 0)) (ad_cons (pd_exc (k := 0) 20 Z.i_BadTerm rfl rfl (hr.mono (by decide)) (pd 0)) (ad_cons (pd_exc (k := 0) 25 Z.i_BadText rfl rfl (hr.mono (by decide)) (pd 0)) (ad_cons (pd_exc (k := 0) 31 Z.i_Disordered rfl rfl (hr.mono (by decide)) (pd 0)) (ad_cons (pd_exc (k := 0) 32 Z.i_Doubtful rfl rfl (hr.mono (by decide)) (pd 0)) ad_nil)))))))))
    (sd_cons (sd_set (i := 3) ND (pd_lst (ad_cons (pd_exc (k := 0) 33 Z.i_NoTable rfl rfl (hr.mono (by decide)) (pd 0)) (ad_cons (pd_exc (k := 0) 37 Z.i_NotAlike rfl rfl (hr.mono (by decide)) (pd 0)) (ad_cons (pd_exc (k := 0) 38 Z.i_NotApart rfl rfl (hr.mono (by decide)) (pd 0)) (ad_cons (pd_exc (k := 0) 39 Z.i_NotStraight rfl rfl (hr.mono (by decide)) (pd 0)) (ad_cons (pd_exc (k := 0) 35 Z.i_TooDeep rfl rfl (hr.mono (by decide)) (pd 0)) (ad_cons (pd_exc (k := 0) 29 Z.i_TooMany rfl rfl (hr.mono (by decide)) (pd 0)) (ad_cons (pd_exc (k := 0) 30 Z.i_Unlike rfl rfl (hr.mono (by decide)) (pd 0)) ad_nil)))))))))
    (sd_cons (sd_set (i := 4) ND (pd_lst (ad_cons (pd_fld (Z.a_fact) (pd_ix rfl (pd 1) pd_int)) (ad_cons (pd_fld (Z.a_at) (pd_ix rfl (pd 1) pd_int)) (ad_cons (pd_fld (Z.a_place) (pd_ix rfl (pd 1) pd_int)) (ad_cons (pd_fld (Z.a_at) (pd_ix rfl (pd 1) pd_int)) (ad_cons (pd_fld (Z.a_number) (pd_ix rfl (pd 1) pd_int)) (ad_cons (pd_fld (Z.a_number) (pd_ix rfl (pd 1) pd_int)) (ad_cons (pd_fld (Z.a_at) (pd_ix rfl (pd 1) pd_int)) ad_nil)))))))))
    (sd_cons (sd_set (i := 4) ND (pd_op op_addD (does_add rfl) (pd 4) (pd_lst (ad_cons (pd_fld (Z.a_path) (pd_ix rfl (pd 2) pd_int)) (ad_cons (pd_fld (Z.a_number) (pd_ix rfl (pd 2) pd_int)) (ad_cons (pd_fld (Z.a_name) (pd_ix rfl (pd 2) pd_int)) (ad_cons (pd_fld (Z.a_path) (pd_ix rfl (pd 2) pd_int)) (ad_cons (pd_fld (Z.a_at) (pd_ix rfl (pd 2) pd_int)) (ad_cons (pd_fld (Z.a_paths) (pd_ix rfl (pd 2) pd_int)) ad_nil)))))))))
    (sd_cons (sd_set (i := 4) ND (pd_op op_addD (does_add rfl) (pd 4) (pd_lst (ad_cons (pd_fld (Z.a_path) (pd_ix rfl (pd 2) pd_int)) (ad_cons (pd_fld (Z.a_barrier) (pd_ix rfl (pd 3) pd_int)) (ad_cons (pd_fld (Z.a_word) (pd_ix rfl (pd 3) pd_int)) (ad_cons (pd_fld (Z.a_name) (pd_ix rfl (pd 3) pd_int)) (ad_cons (pd_fld (Z.a_form) (pd_ix rfl (pd 3) pd_int)) (ad_cons (pd_fld (Z.a_most) (pd_ix rfl (pd 3) pd_int)) ad_nil)))))))))
    (sd_one (sd_ret (pd_tup (ad_cons (pd_op op_addD (does_add rfl) (pd_op op_addD (does_add rfl) (pd 1) (pd 2)) (pd 3)) (ad_cons (pd_op op_addD (does_add rfl) (pd 4) (pd_lst (ad_cons (pd_fld (Z.a_most) (pd_ix rfl (pd 3) pd_int)) (ad_cons (pd_fld (Z.a_word) (pd_ix rfl (pd 3) pd_int)) ad_nil)))) ad_nil)))))))))))
  exact h.imp (spD_mono (by decide))

/-! ### _law_kinds -/
abbrev s__law_kinds : Stmt := top 47
abbrev n__law_kinds : List Str := ["error", "first", "spot", "is_one"]
theorem sc__law_kinds : FnScope n__law_kinds ["error"] (defScope s__law_kinds) := ⟨rfl, rfl, rfl, by decide +kernel, rfl, by decide +kernel, by decide +kernel⟩
def m__law_kinds  : Ms :=
  (sSeq (sSet 1 (mLst (mCons (m1 (oIsx (subE 5)) (mDat 0)) (mCons (m1 (oIsx (subE 9)) (mDat 0)) (mCons (m1 (oIsx (subE 4)) (mDat 0)) (mCons (m1 (oIsx (subE 11)) (mDat 0)) mNil))))))
  (sSeq (sSet 1 (m2 oAdd (mDat 1) (mLst (mCons (m1 (oIsx (subE 10)) (mDat 0)) (mCons (m1 (oIsx (subE 12)) (mDat 0)) (mCons (m1 (oIsx (subE 8)) (mDat 0)) mNil))))))
  (sSeq (sSet 1 (m2 oAdd (mDat 1) (mLst (mCons (m1 (oIsx (subE 7)) (mDat 0)) (mCons (m1 (oIsx (subE 2)) (mDat 0)) (mCons (m1 (oIsx (subE 17)) (mDat 0)) (mCons (m1 (oIsx (subE 13)) (mDat 0)) mNil)))))))
  (sSeq (sSet 1 (m2 oAdd (mDat 1) (mLst (mCons (m1 (oIsx (subE 16)) (mDat 0)) (mCons (m1 (oIsx (subE 18)) (mDat 0)) (mCons (m1 (oIsx (subE 3)) (mDat 0)) mNil))))))
  (sSeq (sSet 1 (m2 oAdd (mDat 1) (mLst (mCons (m1 (oIsx (subE 6)) (mDat 0)) (mCons (m1 (oIsx (subE 14)) (mDat 0)) (mCons (m1 (oIsx (subE 15)) (mDat 0)) mNil))))))
  (sSeq (sSet 1 (m2 oAdd (mDat 1) (mLst (mCons (m1 (oIsx (subE 23)) (mDat 0)) (mCons (m1 (oIsx (subE 28)) (mDat 0)) (mCons (m1 (oIsx (subE 19)) (mDat 0)) mNil))))))
  (sSeq (sSet 1 (m2 oAdd (mDat 1) (mLst (mCons (m1 (oIsx (subE 26)) (mDat 0)) (mCons (m1 (oIsx (subE 34)) (mDat 0)) (mCons (m1 (oIsx (subE 36)) (mDat 0)) mNil))))))
  (sSeq (sSet 1 (m2 oAdd (mDat 1) (mLst (mCons (m1 (oIsx (subE 27)) (mDat 0)) (mCons (m1 (oIsx (subE 21)) (mDat 0)) (mCons (m1 (oIsx (subE 24)) (mDat 0)) mNil))))))
  (sSeq (sSet 1 (m2 oAdd (mDat 1) (mLst (mCons (m1 (oIsx (subE 22)) (mDat 0)) (mCons (m1 (oIsx (subE 20)) (mDat 0)) (mCons (m1 (oIsx (subE 25)) (mDat 0)) mNil))))))
  (sSeq (sSet 1 (m2 oAdd (mDat 1) (mLst (mCons (m1 (oIsx (subE 31)) (mDat 0)) (mCons (m1 (oIsx (subE 32)) (mDat 0)) (mCons (m1 (oIsx (subE 33)) (mDat 0)) mNil))))))
  (sSeq (sSet 1 (m2 oAdd (mDat 1) (mLst (mCons (m1 (oIsx (subE 37)) (mDat 0)) (mCons (m1 (oIsx (subE 38)) (mDat 0)) (mCons (m1 (oIsx (subE 39)) (mDat 0)) mNil))))))
  (sSeq (sSet 1 (m2 oAdd (mDat 1) (mLst (mCons (m1 (oIsx (subE 35)) (mDat 0)) (mCons (m1 (oIsx (subE 29)) (mDat 0)) (mCons (m1 (oIsx (subE 30)) (mDat 0)) mNil))))))
  (sRet (mLc (mEnum (mCons (mDat 1) mNil)) (gT 2 (gCons' (gN 2) (gCons' (gN 3) gNil'))) (mB (mDat 3)) (mDat 2) [2, 3]))))))))))))))
theorem ok__law_kinds {f : Addr} {fd : FuncData} (F : Fun K "_law_kinds" "_law_kinds" s__law_kinds f fd) (T : Nb mg) (Z : Er P K mg ec)   : FnOk P w K mg base CX0 1 f fd ["error"] (spD ⟨K, ec, ef⟩ 1 0 (body (m__law_kinds ) 4)) := by
  have ND := sc__law_kinds.nd
  have h := fn0 (G := ⟨K, ec, ef⟩) (P := P) (wd := w) (K := K) (mg := mg) (base := base) (k := 0) (m := m__law_kinds ) F sc__law_kinds fun cdv A outer s H E hr =>
    (sd_cons (sd_set (i := 1) ND (pd_lst (ad_cons (pd_isx (subE 5) Z.is_BadBarrier T.isinstance Z.g_BadBarrier (pd 0)) (ad_cons (pd_isx (subE 9) Z.is_BadEnd T.isinstance Z.g_BadEnd (pd 0)) (ad_cons (pd_isx (subE 4) Z.is_BadFact T.isinstance Z.g_BadFact (pd 0)) (ad_cons (pd_isx (subE 11) Z.is_BadForm T.isinstance Z.g_BadForm (pd 0)) ad_nil))))))
    (sd_cons (sd_set (i := 1) ND (pd_op op_addD (does_add rfl) (pd 1) (pd_lst (ad_cons (pd_isx (subE 10) Z.is_BadName T.isinstance Z.g_BadName (pd 0)) (ad_cons (pd_isx (subE 12) Z.is_BadPiece T.isinstance Z.g_BadPiece (pd 0)) (ad_cons (pd_isx (subE 8) Z.is_BadPlace T.isinstance Z.g_BadPlace (pd 0)) ad_nil))))))
    (sd_cons (sd_set (i := 1) ND (pd_op op_addD (does_add rfl) (pd 1) (pd_lst (ad_cons (pd_isx (subE 7) Z.is_BadRoles T.isinstance Z.g_BadRoles (pd 0)) (ad_cons (pd_isx (subE 2) Z.is_BadRow T.isinstance Z.g_BadRow (pd 0)) (ad_cons (pd_isx (subE 17) Z.is_BadRun T.isinstance Z.g_BadRun (pd 0)) (ad_cons (pd_isx (subE 13) Z.is_BadSort T.isinstance Z.g_BadSort (pd 0)) ad_nil)))))))
    (sd_cons (sd_set (i := 1) ND (pd_op op_addD (does_add rfl) (pd 1) (pd_lst (ad_cons (pd_isx (subE 16) Z.is_BadStep T.isinstance Z.g_BadStep (pd 0)) (ad_cons (pd_isx (subE 18) Z.is_BadSwap T.isinstance Z.g_BadSwap (pd 0)) (ad_cons (pd_isx (subE 3) Z.is_BadTriple T.isinstance Z.g_BadTriple (pd 0)) ad_nil))))))
    (sd_cons (sd_set (i := 1) ND (pd_op op_addD (does_add rfl) (pd 1) (pd_lst (ad_cons (pd_isx (subE 6) Z.is_BadValue T.isinstance Z.g_BadValue (pd 0)) (ad_cons (pd_isx (subE 14) Z.is_NoPiece T.isinstance Z.g_NoPiece (pd 0)) (ad_cons (pd_isx (subE 15) Z.is_NothingDone T.isinstance Z.g_NothingDone (pd 0)) ad_nil))))))
    (sd_cons (sd_set (i := 1) ND (pd_op op_addD (does_add rfl) (pd 1) (pd_lst (ad_cons (pd_isx (subE 23) Z.is_BadGiven T.isinstance Z.g_BadGiven (pd 0)) (ad_cons (pd_isx (subE 28) Z.is_BadJournal T.isinstance Z.g_BadJournal (pd 0)) (ad_cons (pd_isx (subE 19) Z.is_BadLanguage T.isinstance Z.g_BadLanguage (pd 0)) ad_nil))))))
    (sd_cons (sd_set (i := 1) ND (pd_op op_addD (does_add rfl) (pd 1) (pd_lst (ad_cons (pd_isx (subE 26) Z.is_BadLine T.isinstance Z.g_BadLine (pd 0)) (ad_cons (pd_isx (subE 34) Z.is_BadMarks T.isinstance Z.g_BadMarks (pd 0)) (ad_cons (pd_isx (subE 36) Z.is_BadNumber T.isinstance Z.g_BadNumber (pd 0)) ad_nil))))))
    (sd_cons (sd_set (i := 1) ND (pd_op op_addD (does_add rfl) (pd 1) (pd_lst (ad_cons (pd_isx (subE 27) Z.is_BadPacked T.isinstance Z.g_BadPacked (pd 0)) (ad_cons (pd_isx (subE 21) Z.is_BadPath T.isinstance Z.g_BadPath (pd 0)) (ad_cons (pd_isx (subE 24) Z.is_BadState T.isinstance Z.g_BadState (pd 0)) ad_nil))))))
    (sd_cons (sd_set (i := 1) ND (pd_op op_addD (does_add rfl) (pd 1) (pd_lst (ad_cons (pd_isx (subE 22) Z.is_BadTable T.isinstance Z.g_BadTable (pd 0)) (ad_cons (pd_isx (subE 20) Z.is_BadTerm T.isinstance Z.g_BadTerm (pd 0)) (ad_cons (pd_isx (subE 25) Z.is_BadText T.isinstance Z.g_BadText (pd 0)) ad_nil))))))
    (sd_cons (sd_set (i := 1) ND (pd_op op_addD (does_add rfl) (pd 1) (pd_lst (ad_cons (pd_isx (subE 31) Z.is_Disordered T.isinstance Z.g_Disordered (pd 0)) (ad_cons (pd_isx (subE 32) Z.is_Doubtful T.isinstance Z.g_Doubtful (pd 0)) (ad_cons (pd_isx (subE 33) Z.is_NoTable T.isinstance Z.g_NoTable (pd 0)) ad_nil))))))
    (sd_cons (sd_set (i := 1) ND (pd_op op_addD (does_add rfl) (pd 1) (pd_lst (ad_cons (pd_isx (subE 37) Z.is_NotAlike T.isinstance Z.g_NotAlike (pd 0)) (ad_cons (pd_isx (subE 38) Z.is_NotApart T.isinstance Z.g_NotApart (pd 0)) (ad_cons (pd_isx (subE 39) Z.is_NotStraight T.isinstance Z.g_NotStraight (pd 0)) ad_nil))))))
    (sd_cons (sd_set (i := 1) ND (pd_op op_addD (does_add rfl) (pd 1) (pd_lst (ad_cons (pd_isx (subE 35) Z.is_TooDeep T.isinstance Z.g_TooDeep (pd 0)) (ad_cons (pd_isx (subE 29) Z.is_TooMany T.isinstance Z.g_TooMany (pd 0)) (ad_cons (pd_isx (subE 30) Z.is_Unlike T.isinstance Z.g_Unlike (pd 0)) ad_nil))))))
    (sd_one (sd_ret (pd_lc (W1 := fun _ _ _ _ => False) (W2 := fun _ _ _ _ => False) (own := [("spot", 2), ("is_one", 3)]) rfl ND (id_enum rfl rfl T.enumerate (ad_cons (pd 1) ad_nil)) (blkOk_by (N := n__law_kinds) (sc := defScope s__law_kinds) (by decide +kernel)) (fun _ _ _ _ _ => (gd_tup rfl rfl (gds_cons (gd_name (i := 2) ND) (gds_cons (gd_name (i := 3) ND) gds_nil)))) (fun _ _ _ _ _ => (tds_one (td_val (pd 3)))) (fun _ _ _ _ _ => (pd 2)) (by decide))))))))))))))))
  exact h.imp (spD_mono (by decide))

/-! ### _law_is_raised -/
abbrev s__law_is_raised : Stmt := top 48
abbrev n__law_is_raised : List Str := ["error"]
theorem sc__law_is_raised : FnScope n__law_is_raised ["error"] (defScope s__law_is_raised) := ⟨rfl, rfl, rfl, by decide +kernel, rfl, by decide +kernel, by decide +kernel⟩
def m__law_is_raised  : Ms :=
  (sRet (mAndV (m1 (oIsx (subE 1)) (mDat 0)) (m1 (oIsx subV) (mDat 0))))
theorem ok__law_is_raised {f : Addr} {fd : FuncData} (F : Fun K "_law_is_raised" "_law_is_raised" s__law_is_raised f fd) (T : Nb mg) (Z : Er P K mg ec)   : FnOk P w K mg base CX0 1 f fd ["error"] (spD ⟨K, ec, ef⟩ 1 0 (body (m__law_is_raised ) 1)) := by
  have ND := sc__law_is_raised.nd
  have h := fn0 (G := ⟨K, ec, ef⟩) (P := P) (wd := w) (K := K) (mg := mg) (base := base) (k := 0) (m := m__law_is_raised ) F sc__law_is_raised fun cdv A outer s H E hr =>
    (sd_one (sd_ret (pd_and (pd_isx (subE 1) Z.is_SightError T.isinstance Z.g_SightError (pd 0)) (pd_one (pd_isxT "ValueError" subV Z.is_ValueError T.isinstance T.ValueError (by decide +kernel) (pd 0))))))
  exact h.imp (spD_mono (by decide))

/-! ### law -/
abbrev s_law : Stmt := top 49
abbrev n_law : List Str := ["script", "draws", "some", "turn", "one", "errors", "told", "there", "spot", "error", "value"]
theorem sc_law : FnScope n_law ["script"] (defScope s_law) := ⟨rfl, rfl, rfl, by decide +kernel, rfl, by decide +kernel, by decide +kernel⟩
def m_law (f__law_is_raised : Fd) (f__law_kinds : Fd) (f__law_pick : Fd) (f__law_plain_row : Fd) (f__law_told_row : Fd) : Ms :=
  (sSeq (sSet 2 (mLst (mCons (mC .non) (mCons (mTup mNil) (mCons (mTup (mCons (mC (.int 0)) (mCons (mC (.int 1)) mNil))) (mCons (mC (.int 5)) (mCons (mC (.str "word")) (mCons (mTup (mCons (mC (.str "made")) (mCons (mC (.str "seq")) (mCons (mC .non) (mCons (mTup (mCons (mC (.int 0)) mNil)) mNil))))) (mCons (m1 oNeg (mC (.int 1))) (mCons (mTup (mCons (mC (.str "found")) (mCons (mTup mNil) (mCons (mTup mNil) mNil)))) mNil))))))))))
  (sSeq (sForN (mRange1 (mCons (m2 oAdd (mC (.int 1)) (mCB fMin (mCons (m1 oLen (mDat 0)) (mCons (mC (.int 3)) mNil)))) mNil)) (gN 3)
    (sSeq (sSet 4 (mCall 2 f__law_pick [] (mCons (mDat 1) (mCons (mDat 2) mNil))))
  (sSeq (sAsg (mCall 1 f__law_told_row [] (mCons (mDat 4) mNil)) (gT 2 (gCons' (gN 6) (gCons' (gN 7) gNil'))))
  (sSeq (sSet 5 (m2 oAdd (mCall 1 f__law_plain_row [] (mCons (mC (.str "words")) mNil)) (mDat 6)))
  (sSeq (sIf (mOr (mB (m2 oNe (mLc (mItems (mDat 7)) (gN 10) (mB (m2 oNe (mDat 10) (mDat 4))) (mC (.int 1)) [10]) (mLst mNil))) (mB (m2 oNe (m1 oLen (mDat 7)) (mC (.int 21)))))
    (sRet (mC (.bl false)))
    sNext)
  (sFor (mEnum (mCons (mDat 5) mNil)) (gT 2 (gCons' (gN 8) (gCons' (gN 9) gNil')))
    (sIf (mOr (mNot (mB (mCall 1 f__law_is_raised [] (mCons (mDat 9) mNil)))) (mB (m2 oNe (mCall 1 f__law_kinds [] (mCons (mDat 9) mNil)) (mLst (mCons (mDat 8) mNil)))))
    (sRet (mC (.bl false)))
    sNext)))))))
  (sRet (mAndV (m1 (oIsx subV) (m1 (oExcP 1) (mC (.str "words")))) (m2 oEq (mCall 1 f__law_kinds [] (mCons (m1 (oExcP 1) (mC (.str "words"))) mNil)) (mLst mNil))))))
theorem ok_law {f : Addr} {fd : FuncData} (F : Fun K "law" "law" s_law f fd) (T : Nb mg) (Z : Er P K mg ec) (cb : Cal P w K mg base 1 "_law_begun" ["script"] (spBg K)) {f__law_is_raised : Fd} (c__law_is_raised : Cal P w K mg base 1 "_law_is_raised" ["error"] (spD ⟨K, ec, ef⟩ 1 0 f__law_is_raised)) {f__law_kinds : Fd} (c__law_kinds : Cal P w K mg base 1 "_law_kinds" ["error"] (spD ⟨K, ec, ef⟩ 1 0 f__law_kinds)) {f__law_pick : Fd} (c__law_pick : Cal P w K mg base 3 "_law_pick" ["state", "some"] (spD ⟨K, ec, ef⟩ 2 1 f__law_pick)) {f__law_plain_row : Fd} (c__law_plain_row : Cal P w K mg base 2 "_law_plain_row" ["text"] (spD ⟨K, ec, ef⟩ 1 0 f__law_plain_row)) {f__law_told_row : Fd} (c__law_told_row : Cal P w K mg base 2 "_law_told_row" ["one"] (spD ⟨K, ec, ef⟩ 1 0 f__law_told_row)) (hm : ∀ ns : List Int, ns.length ≤ 63 → LawOk (m_law f__law_is_raised f__law_kinds f__law_pick f__law_plain_row f__law_told_row) 11 ns) : FnOk P w K mg base CX0 4 f fd ["script"] (spLaw K) := by
  have ND := sc_law.nd
  obtain ⟨fb, fdb, FB, hmb, hkb, hbb⟩ := cb
  exact fn_law (ec := ec) (ef := ef) (k := 3) (m := m_law f__law_is_raised f__law_kinds f__law_pick f__law_plain_row f__law_told_row) F sc_law (by decide) (fun cdv A outer s H E hr =>
    pss_cons (ps_set (i := 1) ND rfl (Or.inl rfl) (pe_call FB (hr.mono (by decide)) rfl hmb hkb hbb .nil pass0 (pa_cons (pv 0) pa_nil)))
    (sd_cons (sd_set (i := 2) ND (pd_lst (ad_cons pd_non (ad_cons (pd_tup ad_nil) (ad_cons (pd_tup (ad_cons pd_int (ad_cons pd_int ad_nil))) (ad_cons pd_int (ad_cons pd_str (ad_cons (pd_tup (ad_cons pd_str (ad_cons pd_str (ad_cons pd_non (ad_cons (pd_tup (ad_cons pd_int ad_nil)) ad_nil))))) (ad_cons (pd_un un_neg does_neg pd_int) (ad_cons (pd_tup (ad_cons pd_str (ad_cons (pd_tup ad_nil) (ad_cons (pd_tup ad_nil) ad_nil)))) ad_nil))))))))))
    (sd_cons (sd_forN PassesOwn.never rfl (id_range1 rfl T.range (ad_cons (pd_op op_addD (does_add rfl) pd_int (pd_B (call_min2 rfl) does_min rfl T.min (by decide +kernel) (ad_cons (pd_B1 DL.call_lenD (does_len rfl) rfl T.len PySem.boot_len (pd 0)) (ad_cons pd_int ad_nil)))) ad_nil)) (gd_name (i := 3) ND)
    (sd_cons (sd_set (i := 4) ND (pd_C c__law_pick (hr.mono (by decide)) (ad_cons (pd 1) (ad_cons (pd 2) ad_nil))))
    (sd_cons (sd_asg (pd_C c__law_told_row (hr.mono (by decide)) (ad_cons (pd 4) ad_nil)) (gd_tup rfl rfl (gds_cons (gd_name (i := 6) ND) (gds_cons (gd_name (i := 7) ND) gds_nil))))
    (sd_cons (sd_set (i := 5) ND (pd_op op_addD (does_add rfl) (pd_C c__law_plain_row (hr.mono (by decide)) (ad_cons pd_str ad_nil)) (pd 6)))
    (sd_cons (sd_if (PW.pt (td_or (td_cmp (op_neD (hu64 hr)) (does_ne rfl) (nomark _) (pd_lc (W1 := fun _ _ _ _ => False) (W2 := fun _ _ _ _ => False) (own := [("value", 10)]) rfl ND (id_seq rfl (pd 7)) (blkOk_by (N := n_law) (sc := defScope s_law) (by decide +kernel)) (fun _ _ _ _ _ => (gd_name (i := 10) ND)) (fun _ _ _ _ _ => (tds_one (td_cmp (op_neD (hu64 hr)) (does_ne rfl) (nomark _) (pd 10) (pd 4)))) (fun _ _ _ _ _ => pd_int) (by decide)) (pd_lst ad_nil)) (td_or1 (td_cmp (op_neD (hu64 hr)) (does_ne rfl) (nomark _) (pd_B1 DL.call_lenD (does_len rfl) rfl T.len PySem.boot_len (pd 7)) pd_int))))
    (sd_one (sd_ret pd_bl))
    sd_nil)
    (sd_one (sd_for PassesOwn.never rfl (id_enum rfl rfl T.enumerate (ad_cons (pd 5) ad_nil)) (gd_tup rfl rfl (gds_cons (gd_name (i := 8) ND) (gds_cons (gd_name (i := 9) ND) gds_nil)))
    (sd_one (sd_if (PW.pt (td_or (td_not (td_val (pd_C c__law_is_raised (hr.mono (by decide)) (ad_cons (pd 9) ad_nil)))) (td_or1 (td_cmp (op_neD (hu64 hr)) (does_ne rfl) (nomark _) (pd_C c__law_kinds (hr.mono (by decide)) (ad_cons (pd 9) ad_nil)) (pd_lst (ad_cons (pd 8) ad_nil))))))
    (sd_one (sd_ret pd_bl))
    sd_nil)))))))))
    (sd_one (sd_ret (pd_and (pd_isxT "ValueError" subV Z.is_ValueError T.isinstance T.ValueError (by decide +kernel) (pd_excP 1 Z.p_SightError rfl rfl pd_str)) (pd_one (pd_cmp (op_eqD (hu64 hr)) (does_eq rfl) (nomark _) (pd_C c__law_kinds (hr.mono (by decide)) (ad_cons (pd_excP 1 Z.p_SightError rfl rfl pd_str) ad_nil)) (pd_lst ad_nil))))))))) (by decide) hm
end
end K07
set_option Elab.async false
set_option linter.all false
set_option maxRecDepth 100000
set_option maxHeartbeats 4000000
namespace K07
open PySem PySem.Spec L2 DL
/-! ### what the defs answer, over data -/
def Lp : List Nat := [5, 9, 4, 11, 10, 12, 8, 7, 2, 17, 13, 16, 18, 3, 6, 14, 15]
def Lt : List Nat := [23, 28, 19, 26, 34, 36, 27, 21, 24, 22, 20, 25, 31, 32, 33, 37, 38, 39, 35, 29, 30]
def fRaised : Fd := fun ds k _ => ∃ c x, ds = [.exc c x] ∧ inE c = true ∧ k (.bl true)
def idx : Nat → List Bool → List D
  | _, [] => []
  | n, b :: bs => if b = true then .int n :: idx (n + 1) bs else idx (n + 1) bs
def kindsOf (c : Nat) : List D := idx 0 ((Lp ++ Lt).map fun n => c == n || n == 1)
def fKinds : Fd := fun ds k _ => ∃ c x, ds = [.exc c x] ∧ inE c = true ∧ k (.lst (kindsOf c))
def fPlain : Fd := fun ds k _ => ∃ d, ds = [d] ∧ k (.lst (Lp.map fun c => .exc c .non))
def fTold : Fd := fun ds k _ => ∃ d, ds = [d] ∧ k (.tup [.lst (Lt.map fun c => .exc c d), .lst (List.replicate 21 d)])
theorem sm {n : Nat} (h : Nat.ble n 16777216 = true) : n ≤ sizeLine := by rw [sizeLine_eq]; exact Nat.le_of_ble_eq_true h
theorem plain_ok (ds : List D) (k e : D → Prop) (h : fPlain ds k e) : body m__law_plain_row 2 ds k e := by
  obtain ⟨d, rfl, hk⟩ := h
  exact ⟨sm rfl, sm rfl, sm rfl, sm rfl, sm rfl, hk⟩
theorem told_ok (ds : List D) (k e : D → Prop) (h : fTold ds k e) : body m__law_told_row 5 ds k e := by
  obtain ⟨d, rfl, hk⟩ := h
  exact ⟨sm rfl, sm rfl, sm rfl, _, _, rfl, rfl, _, _, rfl, rfl, _, _, rfl, rfl, _, _, rfl, rfl, _, _, rfl, rfl, _, _, rfl, rfl, _, _, rfl, rfl, _, _, rfl, rfl, _, _, rfl, rfl, _, _, rfl, rfl, _, _, rfl, rfl, _, _, rfl, rfl, _, _, rfl, rfl, _, _, rfl, rfl, sm rfl, _, _, rfl, rfl, _, _, rfl, rfl, _, _, rfl, rfl, _, _, rfl, rfl, _, _, rfl, rfl, _, _, rfl, rfl, _, _, rfl, rfl, _, _, rfl, rfl, _, _, rfl, rfl, _, _, rfl, rfl, _, _, rfl, rfl, _, _, rfl, rfl, sm rfl, sm rfl, _, _, rfl, rfl, _, _, rfl, rfl, _, _, rfl, rfl, _, _, rfl, rfl, _, _, rfl, rfl, _, _, rfl, rfl, _, _, rfl, rfl, _, _, rfl, rfl, _, _, rfl, rfl, _, _, rfl, rfl, _, _, rfl, rfl, _, _, rfl, rfl, sm rfl, sm rfl, sm rfl, sm rfl, _, _, rfl, rfl, _, _, rfl, rfl, _, _, rfl, rfl, _, _, rfl, rfl, sm rfl, sm rfl, sm rfl, hk⟩
theorem sE {c n : Nat} {x : D} (h : inE c = true) : subE n (.exc c x) = some (c == n || n == 1) := if_pos h
theorem sV {c : Nat} {x : D} (h : inE c = true) : subV (.exc c x) = some true := if_pos h
theorem raised_ok (ds : List D) (k e : D → Prop) (h : fRaised ds k e) : body m__law_is_raised 1 ds k e := by
  obtain ⟨c, x, rfl, hc, hk⟩ := h
  have e1 : (c == 1 || (1 : Nat) == 1) = true := by simp
  refine ⟨_, sE hc, true, by rw [e1], ?_⟩
  exact ⟨_, sV hc, hk⟩
theorem comp_idx (a b c d : Slot) : ∀ (K : List D → Prop) (bs : List Bool) (n : Nat), K (idx n bs) → wLc (lBody (wipeE [a, b, c, d] [2, 3]) (gT 2 (gCons' (gN 2) (gCons' (gN 3) gNil'))) (mB (mDat 3)) (mDat 2)) (enumD n (bs.map D.bl)) K
  | K, [], n, h => h
  | K, true :: bs, n, h => ⟨_, rfl, rfl, _, _, rfl, _, _, rfl, rfl, true, rfl, comp_idx a b c d (fun ys => K (.int n :: ys)) bs (n + 1) h⟩
  | K, false :: bs, n, h => ⟨_, rfl, rfl, _, _, rfl, _, _, rfl, rfl, false, rfl, comp_idx a b c d K bs (n + 1) h⟩
theorem kinds_ok (ds : List D) (k e : D → Prop) (h : fKinds ds k e) : body m__law_kinds 4 ds k e := by
  obtain ⟨c, x, rfl, hc, hk⟩ := h
  exact ⟨_, sE hc, _, sE hc, _, sE hc, _, sE hc, sm rfl, _, sE hc, _, sE hc, _, sE hc, sm rfl, sm rfl, _, sE hc, _, sE hc, _, sE hc, _, sE hc, sm rfl, sm rfl, _, sE hc, _, sE hc, _, sE hc, sm rfl, sm rfl, _, sE hc, _, sE hc, _, sE hc, sm rfl, sm rfl, _, sE hc, _, sE hc, _, sE hc, sm rfl, sm rfl, _, sE hc, _, sE hc, _, sE hc, sm rfl, sm rfl, _, sE hc, _, sE hc, _, sE hc, sm rfl, sm rfl, _, sE hc, _, sE hc, _, sE hc, sm rfl, sm rfl, _, sE hc, _, sE hc, _, sE hc, sm rfl, sm rfl, _, sE hc, _, sE hc, _, sE hc, sm rfl, sm rfl, _, sE hc, _, sE hc, _, sE hc, sm rfl, sm rfl, _, rfl, sm rfl, comp_idx _ _ _ _ _ ((Lp ++ Lt).map fun n => c == n || n == 1) 0 hk⟩
end K07
set_option Elab.async false
set_option linter.all false
set_option maxRecDepth 100000
set_option maxHeartbeats 4000000
namespace K07
open PySem PySem.Spec L2 DL
theorem atI_in {xs : List D} {r : Int} (h0 : 0 ≤ r) (h1 : r < xs.length) : ∃ x, x ∈ xs ∧ atI xs r = some x := by
  have hl : r.toNat < xs.length := by omega
  refine ⟨xs[r.toNat], List.getElem_mem hl, ?_⟩
  unfold atI ixN
  rw [if_pos h0, if_pos h1]
  simp [hl]
theorem pick_ok (ds : List D) (k e : D → Prop) (h : fPick ds k e) : body (m__law_pick fDraw) 2 ds k e := by
  obtain ⟨d, xs, rfl, hs, hne, hl, hk⟩ := h
  have hpos : 0 < xs.length := List.length_pos_iff.mpr hne
  cases d with
  | lst ys =>
    cases hs
    refine ⟨_, rfl, rfl, (xs.length : Int), rfl, by omega, by omega, fun r h0 h1 => ?_⟩
    obtain ⟨x, hx, e⟩ := atI_in h0 h1
    exact ⟨_, _, rfl, e, hk x hx⟩
  | tup ys =>
    cases hs
    refine ⟨_, rfl, rfl, (xs.length : Int), rfl, by omega, by omega, fun r h0 h1 => ?_⟩
    obtain ⟨x, hx, e⟩ := atI_in h0 h1
    exact ⟨_, _, rfl, e, hk x hx⟩
  | _ => cases hs
/-! ### the law's loops -/
def someD : List D := [.non, .tup [], .tup [.int 0, .int 1], .int 5, .str "word", .tup [.str "made", .str "seq", .non, .tup [.int 0]], .int (-1), .tup [.str "found", .tup [], .tup []]]
theorem some_good : ∀ d ∈ someD, ∃ p, Good d p ∧ PyData.eqv p p = true := by
  intro d h
  simp only [someD, List.mem_cons, List.not_mem_nil, or_false] at h
  rcases h with rfl | rfl | rfl | rfl | rfl | rfl | rfl | rfl
  all_goals exact ⟨_, ⟨rfl, by decide +kernel⟩, by decide +kernel⟩
def idxN : Nat → List Bool → List Nat
  | _, [] => []
  | n, b :: bs => if b = true then n :: idxN (n + 1) bs else idxN (n + 1) bs
theorem idx_eq : ∀ (bs : List Bool) (n : Nat), idx n bs = (idxN n bs).map fun (i : Nat) => D.int i
  | [], _ => rfl
  | true :: bs, n => by show D.int n :: idx (n + 1) bs = D.int n :: _; rw [idx_eq bs (n + 1)]
  | false :: bs, n => by show idx (n + 1) bs = _; rw [idx_eq bs (n + 1)]; rfl
def L : List Nat := Lp ++ Lt
def okAt (i c : Nat) : Bool := inE c && decide (idxN 0 (L.map fun n => c == n || n == 1) = [i])
theorem all_ok : ((L.zipIdx).all fun p => okAt p.2 p.1) = true := by decide +kernel
theorem kinds_at {i c : Nat} (h : okAt i c = true) : inE c = true ∧ kindsOf c = [.int i] := by
  obtain ⟨h1, h2⟩ := Bool.and_eq_true_iff.mp h
  refine ⟨h1, ?_⟩
  unfold kindsOf
  rw [idx_eq]
  show List.map _ (idxN 0 (L.map fun n => c == n || n == 1)) = _
  rw [of_decide_eq_true h2]
  rfl
/-- eleven slots -/
def S11 (a0 a1 a2 a3 a4 a5 a6 a7 a8 a9 a10 : Slot) : DL.Env := [a0, a1, a2, a3, a4, a5, a6, a7, a8, a9, a10]
/-- the comprehension over what is told: nothing differs -/
theorem comp_none {a0 a1 a2 a3 a5 a6 a7 a8 a9 a10 : Slot} {one : D} {p : PyData} (g : Good one p) (q : PyData.eqv p p = true) : ∀ (K : List D → Prop) (n : Nat), K [] → wLc (lBody (wipeE (S11 a0 a1 a2 a3 (.dat one) a5 a6 a7 a8 a9 a10) [10]) (gN 10) (mB (m2 oNe (mDat 10) (mDat 4))) (mC (.int 1))) (List.replicate n one) K
  | K, 0, h => h
  | K, n + 1, h => ⟨p, p, g, g, false, by rw [q]; rfl, comp_none g q K n h⟩
/-! the loop over the errors -/
def b2 : Ms := sIf (mOr (mNot (mB (mCall 1 fRaised [] (mCons (mDat 9) mNil)))) (mB (m2 oNe (mCall 1 fKinds [] (mCons (mDat 9) mNil)) (mLst (mCons (mDat 8) mNil))))) (sRet (mC (.bl false))) sNext
def t2 : Tgt := gT 2 (gCons' (gN 8) (gCons' (gN 9) gNil'))
theorem loop2 {a0 a1 a2 a3 a4 a5 a6 a7 a10 : Slot} : ∀ (cs : List (Nat × D)) (j : Nat) (a8 a9 : Slot) (E : DE), (∀ i c x, cs[i]? = some (c, x) → okAt (j + i) c = true) → (∀ a8 a9, E.nx (S11 a0 a1 a2 a3 a4 a5 a6 a7 a8 a9 a10)) →
    wFor (fBody t2 b2) (enumD j (cs.map fun p => .exc p.1 p.2)) (S11 a0 a1 a2 a3 a4 a5 a6 a7 a8 a9 a10) E
  | [], j, a8, a9, E, _, h => h a8 a9
  | (c, x) :: cs, j, a8, a9, E, ok, h => by
    obtain ⟨h1, h2⟩ := kinds_at (ok 0 c x rfl)
    have ih := loop2 (a0 := a0) (a1 := a1) (a2 := a2) (a3 := a3) (a4 := a4) (a5 := a5) (a6 := a6) (a7 := a7) (a10 := a10) cs (j + 1) (.dat (.int j)) (.dat (.exc c x)) E (fun i c' x' e => by
      have z := ok (i + 1) c' x' e
      have e2 : j + (i + 1) = j + 1 + i := by omega
      rw [e2] at z
      exact z) h
    refine ⟨_, rfl, rfl, _, _, rfl, _, _, rfl, rfl, rfl, c, x, rfl, h1, true, rfl, rfl, c, x, rfl, h1, sm rfl, .list [.int j], .list [.int j], ⟨?_, rfl⟩, ⟨rfl, rfl⟩, false, ?_, ih⟩
    · rw [h2]; rfl
    · have e : PyData.eqv (.list [.int (j : Int)]) (.list [.int (j : Int)]) = true := by simp [PyData.eqv, PyData.eqvAll]
      rw [e]; rfl

/-! the law -/
def told (one : D) : List (Nat × D) := (Lp.map fun c => (c, D.non)) ++ Lt.map fun c => (c, one)
theorem told_at {one : D} {i c : Nat} {x : D} (h : (told one)[i]? = some (c, x)) : okAt i c = true := by
  have e : (told one).map (·.1) = L := by simp [told, L, List.map_append, Function.comp_def]
  have h2 : L[i]? = some c := by rw [← e, List.getElem?_map, h]; rfl
  have h3 : L.zipIdx[i]? = some (c, i) := by
    rw [List.getElem?_zipIdx, h2]
    simp
  exact List.all_eq_true.mp all_ok (c, i) (List.mem_of_getElem? h3)
theorem errs_eq (one : D) : (Lp.map fun c => D.exc c .non) ++ (Lt.map fun c => D.exc c one) = (told one).map fun p => D.exc p.1 p.2 := by
  simp [told, List.map_append, Function.comp_def]
def b1 : Ms := sSeq (sSet 4 (mCall 2 fPick [] (mCons (mDat 1) (mCons (mDat 2) mNil))))
  (sSeq (sAsg (mCall 1 fTold [] (mCons (mDat 4) mNil)) (gT 2 (gCons' (gN 6) (gCons' (gN 7) gNil'))))
  (sSeq (sSet 5 (m2 oAdd (mCall 1 fPlain [] (mCons (mC (.str "words")) mNil)) (mDat 6)))
  (sSeq (sIf (mOr (mB (m2 oNe (mLc (mItems (mDat 7)) (gN 10) (mB (m2 oNe (mDat 10) (mDat 4))) (mC (.int 1)) [10]) (mLst mNil))) (mB (m2 oNe (m1 oLen (mDat 7)) (mC (.int 21)))))
    (sRet (mC (.bl false)))
    sNext)
  (sFor (mEnum (mCons (mDat 5) mNil)) t2 b2))))
theorem turn1 {a0 : Slot} {a3 a4 a5 a6 a7 a8 a9 a10 : Slot} {i : D} (E : DE) (h : ∀ a3 a4 a5 a6 a7 a8 a9 a10, E.nx (S11 a0 (.dat (.hdl 0)) (.dat (.lst someD)) a3 a4 a5 a6 a7 a8 a9 a10)) :
    fBody (gN 3) b1 i (S11 a0 (.dat (.hdl 0)) (.dat (.lst someD)) a3 a4 a5 a6 a7 a8 a9 a10) E := by
  refine ⟨rfl, _, someD, rfl, rfl, by simp [someD], by simp [someD], fun one hone => ?_⟩
  obtain ⟨p, g, q⟩ := some_good one hone
  refine ⟨rfl, one, rfl, _, rfl, rfl, _, _, rfl, _, _, rfl, rfl, rfl, _, rfl, sm rfl, _, rfl, sm rfl, ?_⟩
  refine comp_none g q _ 21 ⟨sm rfl, .list [], .list [], ⟨rfl, rfl⟩, ⟨rfl, rfl⟩, false, rfl, _, rfl, .int 21, .int 21, ⟨rfl, rfl⟩, ⟨rfl, rfl⟩, false, rfl, _, rfl, ?_⟩
  rw [errs_eq]
  exact loop2 (told one) 0 _ _ E (fun i c x e => by rw [Nat.zero_add]; exact told_at e) fun a8 a9 => h _ _ _ _ _ _ _ _
theorem loop1 {a0 : Slot} : ∀ (is : List D) (a3 a4 a5 a6 a7 a8 a9 a10 : Slot) (E : DE) (h : ∀ a3 a4 a5 a6 a7 a8 a9 a10, E.nx (S11 a0 (.dat (.hdl 0)) (.dat (.lst someD)) a3 a4 a5 a6 a7 a8 a9 a10)),
    wFor (fBody (gN 3) b1) is (S11 a0 (.dat (.hdl 0)) (.dat (.lst someD)) a3 a4 a5 a6 a7 a8 a9 a10) E
  | [], _, _, _, _, _, _, _, _, E, h => h _ _ _ _ _ _ _ _
  | i :: is, _, _, _, _, _, _, _, _, E, h => turn1 _ fun _ _ _ _ _ _ _ _ => loop1 is _ _ _ _ _ _ _ _ E h
theorem law_ok (ns : List Int) (hl : ns.length ≤ 63) : LawOk (m_law fRaised fKinds fPick fPlain fTold) 11 ns := by
  have hn : (ns.map D.int).length ≤ 63 := by rw [List.length_map]; exact hl
  have lo : ∀ n : Nat, (0 : Int) ≤ 1 + (if (3 : Int) < n then 3 else (n : Int)) ∧ 1 + (if (3 : Int) < n then 3 else (n : Int)) ≤ 4 := fun n => by split <;> omega
  have b := lo (ns.map D.int).length
  refine ⟨sm rfl, sm rfl, sm rfl, sm rfl, sm rfl, sm rfl, sm rfl, sm rfl, _, rfl, _, rfl, Int.le_trans (by decide) b.1, Int.lt_of_le_of_lt b.2 (by decide), ?_, loop1 _ _ _ _ _ _ _ _ _ _ fun _ _ _ _ _ _ _ _ =>
    ⟨_, sV rfl, true, rfl, rfl, 1, .non, rfl, rfl, sm rfl, .list [], .list [], ⟨rfl, rfl⟩, ⟨rfl, rfl⟩, rfl⟩⟩
  show (rangeD 0 _).length ≤ 16777216
  rw [rangeD_length]
  have b2 := b.2
  omega
end K07
set_option Elab.async false
set_option linter.all false
set_option maxRecDepth 100000
set_option maxHeartbeats 4000000
namespace K07
open PySem PySem.Spec L2 DL
/-! ### behind the top -/
def d__law_begun : He.DefD := ⟨("_law_begun", none), "_law_begun", "_law_begun", defArgs (top 41), defBody (top 41), defScope (top 41), [], []⟩
def d__law_blended : He.DefD := ⟨("_law_blended", none), "_law_blended", "_law_blended", defArgs (top 42), defBody (top 42), defScope (top 42), [], []⟩
def d__law_draw : He.DefD := ⟨("_law_draw", none), "_law_draw", "_law_draw", defArgs (top 43), defBody (top 43), defScope (top 43), [], []⟩
def d__law_pick : He.DefD := ⟨("_law_pick", none), "_law_pick", "_law_pick", defArgs (top 44), defBody (top 44), defScope (top 44), [], []⟩
def d__law_plain_row : He.DefD := ⟨("_law_plain_row", none), "_law_plain_row", "_law_plain_row", defArgs (top 45), defBody (top 45), defScope (top 45), [], []⟩
def d__law_told_row : He.DefD := ⟨("_law_told_row", none), "_law_told_row", "_law_told_row", defArgs (top 46), defBody (top 46), defScope (top 46), [], []⟩
def d__law_kinds : He.DefD := ⟨("_law_kinds", none), "_law_kinds", "_law_kinds", defArgs (top 47), defBody (top 47), defScope (top 47), [], []⟩
def d__law_is_raised : He.DefD := ⟨("_law_is_raised", none), "_law_is_raised", "_law_is_raised", defArgs (top 48), defBody (top 48), defScope (top 48), [], []⟩
def d_law : He.DefD := ⟨("law", none), "law", "law", defArgs (top 49), defBody (top 49), defScope (top 49), [], []⟩
def fnL : List He.DefD := [d__law_begun, d__law_blended, d__law_draw, d__law_pick, d__law_plain_row, d__law_told_row, d__law_kinds, d__law_is_raised, d_law]
def fa0 : List He.Fa := [.glo "_law_begun", .glo "_law_blended", .glo "_law_draw", .glo "_law_pick", .glo "_law_plain_row", .glo "_law_told_row", .glo "_law_kinds", .glo "_law_is_raised", .glo "law", .free "ValueError", .free "abs", .free "enumerate", .free "int", .free "isinstance", .free "len", .free "min", .free "range", .free "super"]
def faL : List He.Fa := fa0
def e_SightError : ErD := ⟨"SightError", none, top 1⟩
def e_BadRow : ErD := ⟨"BadRow", none, top 2⟩
def e_BadTriple : ErD := ⟨"BadTriple", none, top 3⟩
def e_BadFact : ErD := ⟨"BadFact", none, top 4⟩
def e_BadBarrier : ErD := ⟨"BadBarrier", none, top 5⟩
def e_BadValue : ErD := ⟨"BadValue", none, top 6⟩
def e_BadRoles : ErD := ⟨"BadRoles", none, top 7⟩
def e_BadPlace : ErD := ⟨"BadPlace", none, top 8⟩
def e_BadEnd : ErD := ⟨"BadEnd", none, top 9⟩
def e_BadName : ErD := ⟨"BadName", none, top 10⟩
def e_BadForm : ErD := ⟨"BadForm", none, top 11⟩
def e_BadPiece : ErD := ⟨"BadPiece", none, top 12⟩
def e_BadSort : ErD := ⟨"BadSort", none, top 13⟩
def e_NoPiece : ErD := ⟨"NoPiece", none, top 14⟩
def e_NothingDone : ErD := ⟨"NothingDone", none, top 15⟩
def e_BadStep : ErD := ⟨"BadStep", none, top 16⟩
def e_BadRun : ErD := ⟨"BadRun", none, top 17⟩
def e_BadSwap : ErD := ⟨"BadSwap", none, top 18⟩
def e_BadLanguage : ErD := ⟨"BadLanguage", some "place", top 19⟩
def e_BadTerm : ErD := ⟨"BadTerm", some "path", top 20⟩
def e_BadPath : ErD := ⟨"BadPath", some "path", top 21⟩
def e_BadTable : ErD := ⟨"BadTable", some "name", top 22⟩
def e_BadGiven : ErD := ⟨"BadGiven", some "fact", top 23⟩
def e_BadState : ErD := ⟨"BadState", some "number", top 24⟩
def e_BadText : ErD := ⟨"BadText", some "at", top 25⟩
def e_BadLine : ErD := ⟨"BadLine", some "at", top 26⟩
def e_BadPacked : ErD := ⟨"BadPacked", some "at", top 27⟩
def e_BadJournal : ErD := ⟨"BadJournal", some "at", top 28⟩
def e_TooMany : ErD := ⟨"TooMany", some "most", top 29⟩
def e_Unlike : ErD := ⟨"Unlike", some "word", top 30⟩
def e_Disordered : ErD := ⟨"Disordered", some "paths", top 31⟩
def e_Doubtful : ErD := ⟨"Doubtful", some "path", top 32⟩
def e_NoTable : ErD := ⟨"NoTable", some "barrier", top 33⟩
def e_BadMarks : ErD := ⟨"BadMarks", some "number", top 34⟩
def e_TooDeep : ErD := ⟨"TooDeep", some "most", top 35⟩
def e_BadNumber : ErD := ⟨"BadNumber", some "number", top 36⟩
def e_NotAlike : ErD := ⟨"NotAlike", some "word", top 37⟩
def e_NotApart : ErD := ⟨"NotApart", some "name", top 38⟩
def e_NotStraight : ErD := ⟨"NotStraight", some "form", top 39⟩
def es0 : List ErD := [e_SightError, e_BadRow, e_BadTriple, e_BadFact, e_BadBarrier, e_BadValue, e_BadRoles, e_BadPlace, e_BadEnd, e_BadName, e_BadForm, e_BadPiece, e_BadSort, e_NoPiece, e_NothingDone, e_BadStep, e_BadRun, e_BadSwap, e_BadLanguage, e_BadTerm, e_BadPath, e_BadTable, e_BadGiven, e_BadState, e_BadText, e_BadLine, e_BadPacked, e_BadJournal, e_TooMany, e_Unlike]
def es1 : List ErD := [e_Disordered, e_Doubtful, e_NoTable, e_BadMarks, e_TooDeep, e_BadNumber, e_NotAlike, e_NotApart, e_NotStraight]
def esL : List ErD := es0 ++ es1
theorem fm_BadLanguage : IniForm "place" (iniSt (top 19)) := ⟨_, _, _, _, _, _, _, _, _, _, _, _, _, _, _, rfl, rfl, rfl, rfl, rfl, rfl, rfl, by decide, fun env => ⟨_, rfl⟩, by decide, by decide, fun _ _ _ _ _ _ _ _ _ _ => rfl⟩
theorem fm_BadTerm : IniForm "path" (iniSt (top 20)) := ⟨_, _, _, _, _, _, _, _, _, _, _, _, _, _, _, rfl, rfl, rfl, rfl, rfl, rfl, rfl, by decide, fun env => ⟨_, rfl⟩, by decide, by decide, fun _ _ _ _ _ _ _ _ _ _ => rfl⟩
theorem fm_BadPath : IniForm "path" (iniSt (top 21)) := ⟨_, _, _, _, _, _, _, _, _, _, _, _, _, _, _, rfl, rfl, rfl, rfl, rfl, rfl, rfl, by decide, fun env => ⟨_, rfl⟩, by decide, by decide, fun _ _ _ _ _ _ _ _ _ _ => rfl⟩
theorem fm_BadTable : IniForm "name" (iniSt (top 22)) := ⟨_, _, _, _, _, _, _, _, _, _, _, _, _, _, _, rfl, rfl, rfl, rfl, rfl, rfl, rfl, by decide, fun env => ⟨_, rfl⟩, by decide, by decide, fun _ _ _ _ _ _ _ _ _ _ => rfl⟩
theorem fm_BadGiven : IniForm "fact" (iniSt (top 23)) := ⟨_, _, _, _, _, _, _, _, _, _, _, _, _, _, _, rfl, rfl, rfl, rfl, rfl, rfl, rfl, by decide, fun env => ⟨_, rfl⟩, by decide, by decide, fun _ _ _ _ _ _ _ _ _ _ => rfl⟩
theorem fm_BadState : IniForm "number" (iniSt (top 24)) := ⟨_, _, _, _, _, _, _, _, _, _, _, _, _, _, _, rfl, rfl, rfl, rfl, rfl, rfl, rfl, by decide, fun env => ⟨_, rfl⟩, by decide, by decide, fun _ _ _ _ _ _ _ _ _ _ => rfl⟩
theorem fm_BadText : IniForm "at" (iniSt (top 25)) := ⟨_, _, _, _, _, _, _, _, _, _, _, _, _, _, _, rfl, rfl, rfl, rfl, rfl, rfl, rfl, by decide, fun env => ⟨_, rfl⟩, by decide, by decide, fun _ _ _ _ _ _ _ _ _ _ => rfl⟩
theorem fm_BadLine : IniForm "at" (iniSt (top 26)) := ⟨_, _, _, _, _, _, _, _, _, _, _, _, _, _, _, rfl, rfl, rfl, rfl, rfl, rfl, rfl, by decide, fun env => ⟨_, rfl⟩, by decide, by decide, fun _ _ _ _ _ _ _ _ _ _ => rfl⟩
theorem fm_BadPacked : IniForm "at" (iniSt (top 27)) := ⟨_, _, _, _, _, _, _, _, _, _, _, _, _, _, _, rfl, rfl, rfl, rfl, rfl, rfl, rfl, by decide, fun env => ⟨_, rfl⟩, by decide, by decide, fun _ _ _ _ _ _ _ _ _ _ => rfl⟩
theorem fm_BadJournal : IniForm "at" (iniSt (top 28)) := ⟨_, _, _, _, _, _, _, _, _, _, _, _, _, _, _, rfl, rfl, rfl, rfl, rfl, rfl, rfl, by decide, fun env => ⟨_, rfl⟩, by decide, by decide, fun _ _ _ _ _ _ _ _ _ _ => rfl⟩
theorem fm_TooMany : IniForm "most" (iniSt (top 29)) := ⟨_, _, _, _, _, _, _, _, _, _, _, _, _, _, _, rfl, rfl, rfl, rfl, rfl, rfl, rfl, by decide, fun env => ⟨_, rfl⟩, by decide, by decide, fun _ _ _ _ _ _ _ _ _ _ => rfl⟩
theorem fm_Unlike : IniForm "word" (iniSt (top 30)) := ⟨_, _, _, _, _, _, _, _, _, _, _, _, _, _, _, rfl, rfl, rfl, rfl, rfl, rfl, rfl, by decide, fun env => ⟨_, rfl⟩, by decide, by decide, fun _ _ _ _ _ _ _ _ _ _ => rfl⟩
theorem fm_Disordered : IniForm "paths" (iniSt (top 31)) := ⟨_, _, _, _, _, _, _, _, _, _, _, _, _, _, _, rfl, rfl, rfl, rfl, rfl, rfl, rfl, by decide, fun env => ⟨_, rfl⟩, by decide, by decide, fun _ _ _ _ _ _ _ _ _ _ => rfl⟩
theorem fm_Doubtful : IniForm "path" (iniSt (top 32)) := ⟨_, _, _, _, _, _, _, _, _, _, _, _, _, _, _, rfl, rfl, rfl, rfl, rfl, rfl, rfl, by decide, fun env => ⟨_, rfl⟩, by decide, by decide, fun _ _ _ _ _ _ _ _ _ _ => rfl⟩
theorem fm_NoTable : IniForm "barrier" (iniSt (top 33)) := ⟨_, _, _, _, _, _, _, _, _, _, _, _, _, _, _, rfl, rfl, rfl, rfl, rfl, rfl, rfl, by decide, fun env => ⟨_, rfl⟩, by decide, by decide, fun _ _ _ _ _ _ _ _ _ _ => rfl⟩
theorem fm_BadMarks : IniForm "number" (iniSt (top 34)) := ⟨_, _, _, _, _, _, _, _, _, _, _, _, _, _, _, rfl, rfl, rfl, rfl, rfl, rfl, rfl, by decide, fun env => ⟨_, rfl⟩, by decide, by decide, fun _ _ _ _ _ _ _ _ _ _ => rfl⟩
theorem fm_TooDeep : IniForm "most" (iniSt (top 35)) := ⟨_, _, _, _, _, _, _, _, _, _, _, _, _, _, _, rfl, rfl, rfl, rfl, rfl, rfl, rfl, by decide, fun env => ⟨_, rfl⟩, by decide, by decide, fun _ _ _ _ _ _ _ _ _ _ => rfl⟩
theorem fm_BadNumber : IniForm "number" (iniSt (top 36)) := ⟨_, _, _, _, _, _, _, _, _, _, _, _, _, _, _, rfl, rfl, rfl, rfl, rfl, rfl, rfl, by decide, fun env => ⟨_, rfl⟩, by decide, by decide, fun _ _ _ _ _ _ _ _ _ _ => rfl⟩
theorem fm_NotAlike : IniForm "word" (iniSt (top 37)) := ⟨_, _, _, _, _, _, _, _, _, _, _, _, _, _, _, rfl, rfl, rfl, rfl, rfl, rfl, rfl, by decide, fun env => ⟨_, rfl⟩, by decide, by decide, fun _ _ _ _ _ _ _ _ _ _ => rfl⟩
theorem fm_NotApart : IniForm "name" (iniSt (top 38)) := ⟨_, _, _, _, _, _, _, _, _, _, _, _, _, _, _, rfl, rfl, rfl, rfl, rfl, rfl, rfl, by decide, fun env => ⟨_, rfl⟩, by decide, by decide, fun _ _ _ _ _ _ _ _ _ _ => rfl⟩
theorem fm_NotStraight : IniForm "form" (iniSt (top 39)) := ⟨_, _, _, _, _, _, _, _, _, _, _, _, _, _, _, rfl, rfl, rfl, rfl, rfl, rfl, rfl, by decide, fun env => ⟨_, rfl⟩, by decide, by decide, fun _ _ _ _ _ _ _ _ _ _ => rfl⟩
def lo0 : List Str := ["SightError", "BadRow", "BadTriple", "BadFact", "BadBarrier", "BadValue", "BadRoles", "BadPlace", "BadEnd", "BadName", "BadForm", "BadPiece", "BadSort", "NoPiece", "NothingDone", "BadStep", "BadRun", "BadSwap", "BadLanguage", "BadTerm", "BadPath", "BadTable", "BadGiven", "BadState", "BadText", "BadLine", "BadPacked", "BadJournal", "TooMany", "Unlike"]
def lo1 : List Str := ["Disordered", "Doubtful", "NoTable", "BadMarks", "TooDeep", "BadNumber", "NotAlike", "NotApart", "NotStraight", "_law_begun", "_law_blended", "_law_draw", "_law_pick", "_law_plain_row", "_law_told_row", "_law_kinds", "_law_is_raised"]
def loL : List Str := lo0 ++ lo1
abbrev PR : Program := PySem.Challenge.pw_seenthrough_k07_errors_made
abbrev RR : PySem.W.OpenRow := PySem.W.OpenLaw.row PySem.Challenge.rw_seenthrough_k07_errors_made
abbrev hk : PySem.W.Hook := hookX PR 5 faL fnL esL
def ob (s : PySem.W.SharedT) : AlX := obsXG PR 5 faL fnL esL (HandSHeadRun.getT s)
theorem ob_eq (s : PySem.W.SharedT) : ob s = hk.obs s.abs := obsXG_eq (HandSHeadRun.getT_eq s)
theorem run (w : World) : HandSHeadRun.RunEq RR (PySem.W.view RR.prog [49]) hk ob 12000 loL w := by
  intro os
  kernel_rfl
end K07
set_option Elab.async false
set_option linter.all false
set_option maxRecDepth 100000
set_option maxHeartbeats 4000000
namespace K07
open PySem PySem.Spec L2 DL
section
def csL : List Nat := [1, 2, 3, 4, 5, 6, 7, 8, 9, 10, 11, 12, 13, 14, 15, 16, 17, 18, 19, 20, 21, 22, 23, 24, 25, 26, 27, 28, 29, 30, 31, 32, 33, 34, 35, 36, 37, 38, 39]
def nmE : Nat → Str
  | 1 => "SightError"
  | 2 => "BadRow"
  | 3 => "BadTriple"
  | 4 => "BadFact"
  | 5 => "BadBarrier"
  | 6 => "BadValue"
  | 7 => "BadRoles"
  | 8 => "BadPlace"
  | 9 => "BadEnd"
  | 10 => "BadName"
  | 11 => "BadForm"
  | 12 => "BadPiece"
  | 13 => "BadSort"
  | 14 => "NoPiece"
  | 15 => "NothingDone"
  | 16 => "BadStep"
  | 17 => "BadRun"
  | 18 => "BadSwap"
  | 19 => "BadLanguage"
  | 20 => "BadTerm"
  | 21 => "BadPath"
  | 22 => "BadTable"
  | 23 => "BadGiven"
  | 24 => "BadState"
  | 25 => "BadText"
  | 26 => "BadLine"
  | 27 => "BadPacked"
  | 28 => "BadJournal"
  | 29 => "TooMany"
  | 30 => "Unlike"
  | 31 => "Disordered"
  | 32 => "Doubtful"
  | 33 => "NoTable"
  | 34 => "BadMarks"
  | 35 => "TooDeep"
  | 36 => "BadNumber"
  | 37 => "NotAlike"
  | 38 => "NotApart"
  | 39 => "NotStraight"
  | _ => ""
theorem nm_ok : (csL.all fun a => csL.all fun b => (decide (nmE a = nmE b) || decide (nmE b = "SightError")) == (a == b || b == 1)) = true := by decide +kernel
theorem nm_eq {a b : Nat} (ha : a ∈ csL) (hb : b ∈ csL) : (decide (nmE a = nmE b) || decide (nmE b = "SightError")) = (a == b || b == 1) := eq_of_beq (List.all_eq_true.mp (List.all_eq_true.mp nm_ok a ha) b hb)
theorem cls_eq : esL.map (·.cls) = csL.map nmE := rfl
theorem cls_mem {c : Nat} (h : c ∈ csL) : ∃ d, d ∈ esL ∧ d.cls = nmE c := by
  have z : nmE c ∈ esL.map (·.cls) := by rw [cls_eq]; exact List.mem_map_of_mem h
  obtain ⟨d, hd, e⟩ := List.mem_map.mp z
  exact ⟨d, hd, e⟩
theorem in_cs {c : Nat} (h : inE c = true) : c ∈ csL := List.contains_iff_mem.mp h
theorem ef_mem : ∀ {c : Nat} {y : Str}, ef c = some y → ∃ d, d ∈ esL ∧ d.cls = nmE c ∧ d.fld = some y := by
  intro c y h
  unfold ef at h
  split at h
  · cases h; exact ⟨e_BadLanguage, List.mem_of_getElem? (i := 18) rfl, rfl, rfl⟩
  · cases h; exact ⟨e_BadTerm, List.mem_of_getElem? (i := 19) rfl, rfl, rfl⟩
  · cases h; exact ⟨e_BadPath, List.mem_of_getElem? (i := 20) rfl, rfl, rfl⟩
  · cases h; exact ⟨e_BadTable, List.mem_of_getElem? (i := 21) rfl, rfl, rfl⟩
  · cases h; exact ⟨e_BadGiven, List.mem_of_getElem? (i := 22) rfl, rfl, rfl⟩
  · cases h; exact ⟨e_BadState, List.mem_of_getElem? (i := 23) rfl, rfl, rfl⟩
  · cases h; exact ⟨e_BadText, List.mem_of_getElem? (i := 24) rfl, rfl, rfl⟩
  · cases h; exact ⟨e_BadLine, List.mem_of_getElem? (i := 25) rfl, rfl, rfl⟩
  · cases h; exact ⟨e_BadPacked, List.mem_of_getElem? (i := 26) rfl, rfl, rfl⟩
  · cases h; exact ⟨e_BadJournal, List.mem_of_getElem? (i := 27) rfl, rfl, rfl⟩
  · cases h; exact ⟨e_TooMany, List.mem_of_getElem? (i := 28) rfl, rfl, rfl⟩
  · cases h; exact ⟨e_Unlike, List.mem_of_getElem? (i := 29) rfl, rfl, rfl⟩
  · cases h; exact ⟨e_Disordered, List.mem_of_getElem? (i := 30) rfl, rfl, rfl⟩
  · cases h; exact ⟨e_Doubtful, List.mem_of_getElem? (i := 31) rfl, rfl, rfl⟩
  · cases h; exact ⟨e_NoTable, List.mem_of_getElem? (i := 32) rfl, rfl, rfl⟩
  · cases h; exact ⟨e_BadMarks, List.mem_of_getElem? (i := 33) rfl, rfl, rfl⟩
  · cases h; exact ⟨e_TooDeep, List.mem_of_getElem? (i := 34) rfl, rfl, rfl⟩
  · cases h; exact ⟨e_BadNumber, List.mem_of_getElem? (i := 35) rfl, rfl, rfl⟩
  · cases h; exact ⟨e_NotAlike, List.mem_of_getElem? (i := 36) rfl, rfl, rfl⟩
  · cases h; exact ⟨e_NotApart, List.mem_of_getElem? (i := 37) rfl, rfl, rfl⟩
  · cases h; exact ⟨e_NotStraight, List.mem_of_getElem? (i := 38) rfl, rfl, rfl⟩
  · cases h
section
variable {K : PySem.W.Frag} {h : Heap} {mg : Str → Option Value}
abbrev ecK (K : PySem.W.Frag) : Nat → Addr := fun c => He.ga K (nmE c)
theorem exc_of (s : Says PR faL fnL esL K) {c : Nat} (hc : c ∈ csL) : ExcC K (ecK K c) := by
  obtain ⟨d, hd, e⟩ := cls_mem hc
  have z := s.exc hd
  rw [e] at z
  exact z
theorem isa_of (s : Says PR faL fnL esL K) {c : Nat} (hc : c ∈ csL) : IsA K ⟨K, ecK K, ef⟩ (.ref (ecK K c)) (subE c) := by
  obtain ⟨d, hd, ed⟩ := cls_mem hc
  refine ⟨fun a x b hb => ?_, fun a t b ha hb => ?_, fun a ha ht => ?_⟩
  · have hb : (if inE a = true then some (a == c || c == 1) else none) = some b := hb
    split at hb
    · rename_i hin
      have hac := in_cs hin
      refine ⟨exc_of s hac, ?_⟩
      obtain ⟨d2, hd2, ed2⟩ := cls_mem hac
      have z := s.kit hd2 hd
      rw [ed2, ed, nm_eq hac hc, hb] at z
      exact z
    · cases hb
  · cases a with
    | non =>
      cases ha
      cases hb
      have z := s.kitN hd
      rw [ed] at z
      exact z
    | exc _ _ => cases ha
    | _ => cases hb
  · cases a with
    | exc c x => exact absurd rfl (ha c x)
    | non => cases ht
    | _ => rfl
theorem isv_of (s : Says PR faL fnL esL K) : IsA K ⟨K, ecK K, ef⟩ (.type "ValueError") subV := by
  refine ⟨fun a x b hb => ?_, fun a t b ha hb => ?_, fun a ha ht => ?_⟩
  · have hb : (if inE a = true then some true else none) = some b := hb
    split at hb
    · rename_i hin
      have hac := in_cs hin
      refine ⟨exc_of s hac, ?_⟩
      obtain ⟨d2, hd2, ed2⟩ := cls_mem hac
      have z := s.kitV hd2
      rw [ed2, hb] at z
      exact z
    · cases hb
  · cases a with
    | non =>
      cases ha
      cases hb
      exact s.kitNV
    | exc _ _ => cases ha
    | _ => cases hb
  · cases a with
    | exc c x => exact absurd rfl (ha c x)
    | non => cases ht
    | _ => rfl
theorem fld_of (s : Says PR faL fnL esL K) {y : Str} : ∀ c, ef c = some y → ExcC K (ecK K c) ∧ PySem.W.findIn K (.ref (ecK K c)) y = some none := fun c hc => by
  obtain ⟨d, hd, e1, e2⟩ := ef_mem hc
  have z := s.exc hd
  have f := List.all_eq_true.mp s.fld d hd
  rw [e2, e1] at f
  rw [e1] at z
  exact ⟨z, He.eqO_ok f⟩
theorem er_of (s : Says PR faL fnL esL K) (X : K.In h) (G : h.Ns mainGlobals mg) : Er PR K mg (ecK K) := by
  have hs := s.d.fact 17 (f := .free "super") rfl
  have ht : (PR.main.scope.names.lookup ("super" : Str)).isSome = false := by decide +kernel
  have k1 : EcP K mg (ecK K 1) "SightError" := s.plain X G (d := e_SightError) (List.mem_of_getElem? (i := 0) rfl) rfl
  have k2 : EcP K mg (ecK K 2) "BadRow" := s.plain X G (d := e_BadRow) (List.mem_of_getElem? (i := 1) rfl) rfl
  have k3 : EcP K mg (ecK K 3) "BadTriple" := s.plain X G (d := e_BadTriple) (List.mem_of_getElem? (i := 2) rfl) rfl
  have k4 : EcP K mg (ecK K 4) "BadFact" := s.plain X G (d := e_BadFact) (List.mem_of_getElem? (i := 3) rfl) rfl
  have k5 : EcP K mg (ecK K 5) "BadBarrier" := s.plain X G (d := e_BadBarrier) (List.mem_of_getElem? (i := 4) rfl) rfl
  have k6 : EcP K mg (ecK K 6) "BadValue" := s.plain X G (d := e_BadValue) (List.mem_of_getElem? (i := 5) rfl) rfl
  have k7 : EcP K mg (ecK K 7) "BadRoles" := s.plain X G (d := e_BadRoles) (List.mem_of_getElem? (i := 6) rfl) rfl
  have k8 : EcP K mg (ecK K 8) "BadPlace" := s.plain X G (d := e_BadPlace) (List.mem_of_getElem? (i := 7) rfl) rfl
  have k9 : EcP K mg (ecK K 9) "BadEnd" := s.plain X G (d := e_BadEnd) (List.mem_of_getElem? (i := 8) rfl) rfl
  have k10 : EcP K mg (ecK K 10) "BadName" := s.plain X G (d := e_BadName) (List.mem_of_getElem? (i := 9) rfl) rfl
  have k11 : EcP K mg (ecK K 11) "BadForm" := s.plain X G (d := e_BadForm) (List.mem_of_getElem? (i := 10) rfl) rfl
  have k12 : EcP K mg (ecK K 12) "BadPiece" := s.plain X G (d := e_BadPiece) (List.mem_of_getElem? (i := 11) rfl) rfl
  have k13 : EcP K mg (ecK K 13) "BadSort" := s.plain X G (d := e_BadSort) (List.mem_of_getElem? (i := 12) rfl) rfl
  have k14 : EcP K mg (ecK K 14) "NoPiece" := s.plain X G (d := e_NoPiece) (List.mem_of_getElem? (i := 13) rfl) rfl
  have k15 : EcP K mg (ecK K 15) "NothingDone" := s.plain X G (d := e_NothingDone) (List.mem_of_getElem? (i := 14) rfl) rfl
  have k16 : EcP K mg (ecK K 16) "BadStep" := s.plain X G (d := e_BadStep) (List.mem_of_getElem? (i := 15) rfl) rfl
  have k17 : EcP K mg (ecK K 17) "BadRun" := s.plain X G (d := e_BadRun) (List.mem_of_getElem? (i := 16) rfl) rfl
  have k18 : EcP K mg (ecK K 18) "BadSwap" := s.plain X G (d := e_BadSwap) (List.mem_of_getElem? (i := 17) rfl) rfl
  have k19 : EcI PR K mg (ecK K 19) "BadLanguage" "place" := s.own X G (d := e_BadLanguage) (List.mem_of_getElem? (i := 18) rfl) rfl hs fm_BadLanguage ht
  have k20 : EcI PR K mg (ecK K 20) "BadTerm" "path" := s.own X G (d := e_BadTerm) (List.mem_of_getElem? (i := 19) rfl) rfl hs fm_BadTerm ht
  have k21 : EcI PR K mg (ecK K 21) "BadPath" "path" := s.own X G (d := e_BadPath) (List.mem_of_getElem? (i := 20) rfl) rfl hs fm_BadPath ht
  have k22 : EcI PR K mg (ecK K 22) "BadTable" "name" := s.own X G (d := e_BadTable) (List.mem_of_getElem? (i := 21) rfl) rfl hs fm_BadTable ht
  have k23 : EcI PR K mg (ecK K 23) "BadGiven" "fact" := s.own X G (d := e_BadGiven) (List.mem_of_getElem? (i := 22) rfl) rfl hs fm_BadGiven ht
  have k24 : EcI PR K mg (ecK K 24) "BadState" "number" := s.own X G (d := e_BadState) (List.mem_of_getElem? (i := 23) rfl) rfl hs fm_BadState ht
  have k25 : EcI PR K mg (ecK K 25) "BadText" "at" := s.own X G (d := e_BadText) (List.mem_of_getElem? (i := 24) rfl) rfl hs fm_BadText ht
  have k26 : EcI PR K mg (ecK K 26) "BadLine" "at" := s.own X G (d := e_BadLine) (List.mem_of_getElem? (i := 25) rfl) rfl hs fm_BadLine ht
  have k27 : EcI PR K mg (ecK K 27) "BadPacked" "at" := s.own X G (d := e_BadPacked) (List.mem_of_getElem? (i := 26) rfl) rfl hs fm_BadPacked ht
  have k28 : EcI PR K mg (ecK K 28) "BadJournal" "at" := s.own X G (d := e_BadJournal) (List.mem_of_getElem? (i := 27) rfl) rfl hs fm_BadJournal ht
  have k29 : EcI PR K mg (ecK K 29) "TooMany" "most" := s.own X G (d := e_TooMany) (List.mem_of_getElem? (i := 28) rfl) rfl hs fm_TooMany ht
  have k30 : EcI PR K mg (ecK K 30) "Unlike" "word" := s.own X G (d := e_Unlike) (List.mem_of_getElem? (i := 29) rfl) rfl hs fm_Unlike ht
  have k31 : EcI PR K mg (ecK K 31) "Disordered" "paths" := s.own X G (d := e_Disordered) (List.mem_of_getElem? (i := 30) rfl) rfl hs fm_Disordered ht
  have k32 : EcI PR K mg (ecK K 32) "Doubtful" "path" := s.own X G (d := e_Doubtful) (List.mem_of_getElem? (i := 31) rfl) rfl hs fm_Doubtful ht
  have k33 : EcI PR K mg (ecK K 33) "NoTable" "barrier" := s.own X G (d := e_NoTable) (List.mem_of_getElem? (i := 32) rfl) rfl hs fm_NoTable ht
  have k34 : EcI PR K mg (ecK K 34) "BadMarks" "number" := s.own X G (d := e_BadMarks) (List.mem_of_getElem? (i := 33) rfl) rfl hs fm_BadMarks ht
  have k35 : EcI PR K mg (ecK K 35) "TooDeep" "most" := s.own X G (d := e_TooDeep) (List.mem_of_getElem? (i := 34) rfl) rfl hs fm_TooDeep ht
  have k36 : EcI PR K mg (ecK K 36) "BadNumber" "number" := s.own X G (d := e_BadNumber) (List.mem_of_getElem? (i := 35) rfl) rfl hs fm_BadNumber ht
  have k37 : EcI PR K mg (ecK K 37) "NotAlike" "word" := s.own X G (d := e_NotAlike) (List.mem_of_getElem? (i := 36) rfl) rfl hs fm_NotAlike ht
  have k38 : EcI PR K mg (ecK K 38) "NotApart" "name" := s.own X G (d := e_NotApart) (List.mem_of_getElem? (i := 37) rfl) rfl hs fm_NotApart ht
  have k39 : EcI PR K mg (ecK K 39) "NotStraight" "form" := s.own X G (d := e_NotStraight) (List.mem_of_getElem? (i := 38) rfl) rfl hs fm_NotStraight ht
  exact ⟨k1, k1.g, isa_of s (List.mem_of_getElem? (i := 0) rfl), k2, k2.g, isa_of s (List.mem_of_getElem? (i := 1) rfl), k3, k3.g, isa_of s (List.mem_of_getElem? (i := 2) rfl), k4, k4.g, isa_of s (List.mem_of_getElem? (i := 3) rfl), k5, k5.g, isa_of s (List.mem_of_getElem? (i := 4) rfl), k6, k6.g, isa_of s (List.mem_of_getElem? (i := 5) rfl), k7, k7.g, isa_of s (List.mem_of_getElem? (i := 6) rfl), k8, k8.g, isa_of s (List.mem_of_getElem? (i := 7) rfl), k9, k9.g, isa_of s (List.mem_of_getElem? (i := 8) rfl), k10, k10.g, isa_of s (List.mem_of_getElem? (i := 9) rfl), k11, k11.g, isa_of s (List.mem_of_getElem? (i := 10) rfl), k12, k12.g, isa_of s (List.mem_of_getElem? (i := 11) rfl), k13, k13.g, isa_of s (List.mem_of_getElem? (i := 12) rfl), k14, k14.g, isa_of s (List.mem_of_getElem? (i := 13) rfl), k15, k15.g, isa_of s (List.mem_of_getElem? (i := 14) rfl), k16, k16.g, isa_of s (List.mem_of_getElem? (i := 15) rfl), k17, k17.g, isa_of s (List.mem_of_getElem? (i := 16) rfl), k18, k18.g, isa_of s (List.mem_of_getElem? (i := 17) rfl), k19, k19.g, isa_of s (List.mem_of_getElem? (i := 18) rfl), k20, k20.g, isa_of s (List.mem_of_getElem? (i := 19) rfl), k21, k21.g, isa_of s (List.mem_of_getElem? (i := 20) rfl), k22, k22.g, isa_of s (List.mem_of_getElem? (i := 21) rfl), k23, k23.g, isa_of s (List.mem_of_getElem? (i := 22) rfl), k24, k24.g, isa_of s (List.mem_of_getElem? (i := 23) rfl), k25, k25.g, isa_of s (List.mem_of_getElem? (i := 24) rfl), k26, k26.g, isa_of s (List.mem_of_getElem? (i := 25) rfl), k27, k27.g, isa_of s (List.mem_of_getElem? (i := 26) rfl), k28, k28.g, isa_of s (List.mem_of_getElem? (i := 27) rfl), k29, k29.g, isa_of s (List.mem_of_getElem? (i := 28) rfl), k30, k30.g, isa_of s (List.mem_of_getElem? (i := 29) rfl), k31, k31.g, isa_of s (List.mem_of_getElem? (i := 30) rfl), k32, k32.g, isa_of s (List.mem_of_getElem? (i := 31) rfl), k33, k33.g, isa_of s (List.mem_of_getElem? (i := 32) rfl), k34, k34.g, isa_of s (List.mem_of_getElem? (i := 33) rfl), k35, k35.g, isa_of s (List.mem_of_getElem? (i := 34) rfl), k36, k36.g, isa_of s (List.mem_of_getElem? (i := 35) rfl), k37, k37.g, isa_of s (List.mem_of_getElem? (i := 36) rfl), k38, k38.g, isa_of s (List.mem_of_getElem? (i := 37) rfl), k39, k39.g, isa_of s (List.mem_of_getElem? (i := 38) rfl), fld_of s, fld_of s, fld_of s, fld_of s, fld_of s, fld_of s, fld_of s, fld_of s, fld_of s, fld_of s, fld_of s, isv_of s⟩
theorem nb_of (s : Says PR faL fnL esL K) (X : K.In h) (G : h.Ns mainGlobals mg) : Nb mg := ⟨He.free_ok X G (s.d.fact 9 (f := .free "ValueError") rfl), He.free_ok X G (s.d.fact 10 (f := .free "abs") rfl), He.free_ok X G (s.d.fact 11 (f := .free "enumerate") rfl), He.free_ok X G (s.d.fact 12 (f := .free "int") rfl), He.free_ok X G (s.d.fact 13 (f := .free "isinstance") rfl), He.free_ok X G (s.d.fact 14 (f := .free "len") rfl), He.free_ok X G (s.d.fact 15 (f := .free "min") rfl), He.free_ok X G (s.d.fact 16 (f := .free "range") rfl)⟩
theorem facts {w : World} {f : Addr} (s : Says PR faL fnL esL K) (X : K.In h) (G : h.Ns mainGlobals mg) (hfa : mg ("law" : Str) = some (.ref f)) :
    ∃ fd : FuncData, (∀ (s : Shared) (v : Value), BindsTo s fd ⟨[v], []⟩ [("script", v)]) ∧ ∀ base : Heap, K.In base → base.Ns mainGlobals mg → FnOk PR w K mg base CX0 4 f fd ["script"] (spLaw K) := by
  have T := nb_of s X G
  have Z := er_of s X G
  obtain ⟨fd__law_begun, D__law_begun⟩ := s.d.def_ 0 (d := d__law_begun) rfl
  have F__law_begun : Fun K "_law_begun" "_law_begun" (top 41) (He.ga K "_law_begun") fd__law_begun := fun_of (st := top 41) D__law_begun
  have g__law_begun := He.glo_ok X G (s.d.fact 0 (f := .glo "_law_begun") rfl)
  have b__law_begun := F__law_begun.binds (ps := ["script"]) fun _ _ _ _ _ _ us hl => match us, hl with | [_], _ => rfl
  obtain ⟨fd__law_blended, D__law_blended⟩ := s.d.def_ 1 (d := d__law_blended) rfl
  have F__law_blended : Fun K "_law_blended" "_law_blended" (top 42) (He.ga K "_law_blended") fd__law_blended := fun_of (st := top 42) D__law_blended
  have g__law_blended := He.glo_ok X G (s.d.fact 1 (f := .glo "_law_blended") rfl)
  have b__law_blended := F__law_blended.binds (ps := ["state"]) fun _ _ _ _ _ _ us hl => match us, hl with | [_], _ => rfl
  obtain ⟨fd__law_draw, D__law_draw⟩ := s.d.def_ 2 (d := d__law_draw) rfl
  have F__law_draw : Fun K "_law_draw" "_law_draw" (top 43) (He.ga K "_law_draw") fd__law_draw := fun_of (st := top 43) D__law_draw
  have g__law_draw := He.glo_ok X G (s.d.fact 2 (f := .glo "_law_draw") rfl)
  have b__law_draw := F__law_draw.binds (ps := ["state", "room"]) fun _ _ _ _ _ _ us hl => match us, hl with | [_, _], _ => rfl
  obtain ⟨fd__law_pick, D__law_pick⟩ := s.d.def_ 3 (d := d__law_pick) rfl
  have F__law_pick : Fun K "_law_pick" "_law_pick" (top 44) (He.ga K "_law_pick") fd__law_pick := fun_of (st := top 44) D__law_pick
  have g__law_pick := He.glo_ok X G (s.d.fact 3 (f := .glo "_law_pick") rfl)
  have b__law_pick := F__law_pick.binds (ps := ["state", "some"]) fun _ _ _ _ _ _ us hl => match us, hl with | [_, _], _ => rfl
  obtain ⟨fd__law_plain_row, D__law_plain_row⟩ := s.d.def_ 4 (d := d__law_plain_row) rfl
  have F__law_plain_row : Fun K "_law_plain_row" "_law_plain_row" (top 45) (He.ga K "_law_plain_row") fd__law_plain_row := fun_of (st := top 45) D__law_plain_row
  have g__law_plain_row := He.glo_ok X G (s.d.fact 4 (f := .glo "_law_plain_row") rfl)
  have b__law_plain_row := F__law_plain_row.binds (ps := ["text"]) fun _ _ _ _ _ _ us hl => match us, hl with | [_], _ => rfl
  obtain ⟨fd__law_told_row, D__law_told_row⟩ := s.d.def_ 5 (d := d__law_told_row) rfl
  have F__law_told_row : Fun K "_law_told_row" "_law_told_row" (top 46) (He.ga K "_law_told_row") fd__law_told_row := fun_of (st := top 46) D__law_told_row
  have g__law_told_row := He.glo_ok X G (s.d.fact 5 (f := .glo "_law_told_row") rfl)
  have b__law_told_row := F__law_told_row.binds (ps := ["one"]) fun _ _ _ _ _ _ us hl => match us, hl with | [_], _ => rfl
  obtain ⟨fd__law_kinds, D__law_kinds⟩ := s.d.def_ 6 (d := d__law_kinds) rfl
  have F__law_kinds : Fun K "_law_kinds" "_law_kinds" (top 47) (He.ga K "_law_kinds") fd__law_kinds := fun_of (st := top 47) D__law_kinds
  have g__law_kinds := He.glo_ok X G (s.d.fact 6 (f := .glo "_law_kinds") rfl)
  have b__law_kinds := F__law_kinds.binds (ps := ["error"]) fun _ _ _ _ _ _ us hl => match us, hl with | [_], _ => rfl
  obtain ⟨fd__law_is_raised, D__law_is_raised⟩ := s.d.def_ 7 (d := d__law_is_raised) rfl
  have F__law_is_raised : Fun K "_law_is_raised" "_law_is_raised" (top 48) (He.ga K "_law_is_raised") fd__law_is_raised := fun_of (st := top 48) D__law_is_raised
  have g__law_is_raised := He.glo_ok X G (s.d.fact 7 (f := .glo "_law_is_raised") rfl)
  have b__law_is_raised := F__law_is_raised.binds (ps := ["error"]) fun _ _ _ _ _ _ us hl => match us, hl with | [_], _ => rfl
  obtain ⟨fd_law, D_law⟩ := s.d.def_ 8 (d := d_law) rfl
  have F_law : Fun K "law" "law" (top 49) (He.ga K "law") fd_law := fun_of (st := top 49) D_law
  have g_law := He.glo_ok X G (s.d.fact 8 (f := .glo "law") rfl)
  have e := hfa.symm.trans g_law
  cases e
  refine ⟨fd_law, fun s v => ?_, fun base _ _ => ?_⟩
  · obtain ⟨oc, od, kV, doc, pm, an, cdv, ct, osl, e, _, _⟩ := F_law.ex
    rw [e]
    exact .of_eq rfl
  · have c__law_blended : Cal PR w K mg base 1 "_law_blended" ["state"] spBl := ⟨_, _, ok__law_blended F__law_blended T.int, g__law_blended, F__law_blended.kp, b__law_blended⟩
    have c__law_draw : Cal PR w K mg base 2 "_law_draw" ["state", "room"] (spD ⟨K, ecK K, ef⟩ 2 1 fDraw) := ⟨_, _, ok__law_draw (ec := ecK K) F__law_draw T.int c__law_blended, g__law_draw, F__law_draw.kp, b__law_draw⟩
    have c__law_begun : Cal PR w K mg base 1 "_law_begun" ["script"] (spBg K) := ⟨_, _, ok__law_begun F__law_begun T.abs, g__law_begun, F__law_begun.kp, b__law_begun⟩
    have c__law_pick : Cal PR w K mg base 3 "_law_pick" ["state", "some"] (spD ⟨K, ecK K, ef⟩ 2 1 fPick) := ⟨_, _, (ok__law_pick (ec := ecK K) F__law_pick T c__law_draw).imp (spD_imp fun ds k e _ q => pick_ok ds k e q), g__law_pick, F__law_pick.kp, b__law_pick⟩
    have c__law_plain_row : Cal PR w K mg base 2 "_law_plain_row" ["text"] (spD ⟨K, ecK K, ef⟩ 1 0 fPlain) := ⟨_, _, (ok__law_plain_row (ec := ecK K) F__law_plain_row Z).imp (spD_imp fun ds k e _ q => plain_ok ds k e q), g__law_plain_row, F__law_plain_row.kp, b__law_plain_row⟩
    have c__law_told_row : Cal PR w K mg base 2 "_law_told_row" ["one"] (spD ⟨K, ecK K, ef⟩ 1 0 fTold) := ⟨_, _, (ok__law_told_row (ec := ecK K) F__law_told_row Z).imp (spD_imp fun ds k e _ q => told_ok ds k e q), g__law_told_row, F__law_told_row.kp, b__law_told_row⟩
    have c__law_kinds : Cal PR w K mg base 1 "_law_kinds" ["error"] (spD ⟨K, ecK K, ef⟩ 1 0 fKinds) := ⟨_, _, (ok__law_kinds (ec := ecK K) F__law_kinds T Z).imp (spD_imp fun ds k e _ q => kinds_ok ds k e q), g__law_kinds, F__law_kinds.kp, b__law_kinds⟩
    have c__law_is_raised : Cal PR w K mg base 1 "_law_is_raised" ["error"] (spD ⟨K, ecK K, ef⟩ 1 0 fRaised) := ⟨_, _, (ok__law_is_raised (ec := ecK K) F__law_is_raised T Z).imp (spD_imp fun ds k e _ q => raised_ok ds k e q), g__law_is_raised, F__law_is_raised.kp, b__law_is_raised⟩
    exact ok_law (ec := ecK K) F_law T Z c__law_begun c__law_is_raised c__law_kinds c__law_pick c__law_plain_row c__law_told_row (fun ns hl => law_ok ns hl)
end
end
end K07
open PySem PySem.W PySem.Calls PyProof.Rows
set_option maxRecDepth 100000 in
set_option maxHeartbeats 0 in
theorem PySem.Challenge.cw_seenthrough_k07_errors_made_holds : PySem.Challenge.rw_seenthrough_k07_errors_made.Holds := by
  w_on; o_law
  refine HandSHeadRun.head_any (r := OpenLaw.row PySem.Challenge.rw_seenthrough_k07_errors_made) (q := view (OpenLaw.row PySem.Challenge.rw_seenthrough_k07_errors_made).prog [49]) (H := K07.hk) (ob := K07.ob) (M := 12000) (loose := K07.loL) (d := HandSHeadRun.topDef (OpenLaw.row PySem.Challenge.rw_seenthrough_k07_errors_made).prog 49) (kwd := []) K07.ob_eq
    (by kernel_rfl) (fun s => by kernel_rfl) K07.run (by kernel_rfl) (by kernel_rfl) (by kernel_rfl) (by rfl) (by first | assumption | decide +kernel) (by decide +kernel) ⟨rfl, rfl, rfl, rfl, rfl, by decide +kernel⟩ ?hw ?hc
  case hw => w_witness2
  case hc =>
    refine L2.walk_ofE (l := PySem.Challenge.rw_seenthrough_k07_errors_made) (n := 63) (k := 4) (x := "script") (CX := L2.CX0) rfl (by decide) (by kernel_rfl) ⟨rfl, by decide, by decide⟩ ?F (fun _ _ _ _ z => z)
    intro w mg fa h Y G hmg0
    obtain ⟨K, KX, c⟩ := Y
    have hmg : mg ("law" : PySem.Str) = some (.ref fa) := by
      have e : (HandSHeadRun.topDef (OpenLaw.row PySem.Challenge.rw_seenthrough_k07_errors_made).prog 49).name = ("law" : PySem.Str) := by kernel_rfl
      rw [← e]
      exact hmg0
    obtain ⟨fd, hb, hF⟩ := K07.facts (w := w) (DL.says_of c) KX G hmg
    exact ⟨K, fd, DL.spLaw K, KX, hb, fun H a ns hl _ hS => ⟨a, ns, rfl, hS, hl, fun _ => rfl⟩, hF⟩
