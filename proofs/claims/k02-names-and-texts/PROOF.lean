import PyProof.Rows.All
import Wide.All
import OpenK.AllK
import Wide.FinOn
import HandS.ForMost
import HandS.Exc
import HandS.TryOnly
import HandS.ExcOwn
import HandS.WordsExc
import HandS.Defaults
import HandS.CallSlots
import HandS.Walk
import HandS.TupAny
import HandS.Wide
import HandS.IsInst
import HandS.HeadEnd
import OpenK.KMore
import HandS.Dict
import KE.KAssignIn
import HandS.Style
import KE.KEqSeq
import PySem.Challenge.RW_anyarrival_k02_names_and_texts
import KE.KStateDown
import Lean
import HandS.More
import HandS.Words
import HandS.Head0
import HandS.Head1
import HandS.Head2
import HandS.HeadHook1
import HandS.HeadHook2
set_option Elab.async false
set_option linter.all false
set_option maxRecDepth 100000
set_option maxHeartbeats 0
/-! ## Dl: what a body does, told over plain data. A state is a list of items, one a slot: shared data, an own (new, changeable) object with its data, or nothing. -/
namespace Dl
open PySem PySem.Spec PyProof.Rows L2

/-! ### the data -/
inductive D where
  | non | bl (b : Bool) | int (i : Int) | str (x : Str) | lst (xs : List D) | tup (xs : List D)
  | dK (kvs : List (Key × D)) | dT (kvs : List (List Key × D)) | ins (C : Addr) (fs : List (Str × D)) | adr (a : Addr)
  /-- the script -/
  | frl (ns : List Int)

mutual
/-- in the known heap B the value v bears the data d -/
inductive Rep (K : PySem.W.Frag) (B : Hp) : V → D → Prop
  | non : Rep K B .non .non
  | bl (b : Bool) : Rep K B (.bl b) (.bl b)
  | int (i : Int) : Rep K B (.int i) (.int i)
  | str (x : Str) : Rep K B (.str x) (.str x)
  | adr (a : Addr) : Rep K B (.ref a) (.adr a)
  | lst {a : Addr} {vs : List V} {ds : List D} : B a = some (.lst vs) → Reps K B vs ds → Rep K B (.ref a) (.lst ds)
  | frl {a : Addr} {ns : List Int} : SqL K B a (ns.map V.int) → Rep K B (.ref a) (.frl ns)
  | tup {a : Addr} {vs : List V} {ds : List D} : B a = some (.tup vs) → Reps K B vs ds → Rep K B (.ref a) (.tup ds)
  | dK {a : Addr} {kvs : List (Key × V)} {kds : List (Key × D)} : Rd B a (.dK kvs) → kvs.map (·.1) = kds.map (·.1) → Reps K B (kvs.map (·.2)) (kds.map (·.2)) → Rep K B (.ref a) (.dK kds)
  | dT {a : Addr} {kvs : List (List Key × V)} {kds : List (List Key × D)} : Rd B a (.dT kvs) → kvs.map (·.1) = kds.map (·.1) → Reps K B (kvs.map (·.2)) (kds.map (·.2)) → Rep K B (.ref a) (.dT kds)
  | ins {a C dx : Addr} {fs : List (Str × V)} {fds : List (Str × D)} : B a = some (.ins C dx fs) → fs.map (·.1) = fds.map (·.1) → Reps K B (fs.map (·.2)) (fds.map (·.2)) → Rep K B (.ref a) (.ins C fds)
inductive Reps (K : PySem.W.Frag) (B : Hp) : List V → List D → Prop
  | nil : Reps K B [] []
  | cons {v : V} {vs : List V} {d : D} {ds : List D} : Rep K B v d → Reps K B vs ds → Reps K B (v :: vs) (d :: ds)
end

/-- what stood stands -/
def Ex (H H' : Hp) : Prop := ∀ a o, H a = some o → H' a = some o
theorem Ex.refl (H : Hp) : Ex H H := fun _ _ h => h
theorem Ex.trans {H H1 H2 : Hp} (a : Ex H H1) (b : Ex H1 H2) : Ex H H2 := fun x o h => b x o (a x o h)
theorem Ex.up {H : Hp} {p : Addr} {o : HO} (h : H p = none) : Ex H (upd H p o) := fun a u e => by
  rw [upd_ne (ne_of_none e h)]
  exact e
theorem Ex.rd {H H' : Hp} {a : Addr} {u : HO} (e : Ex H H') (h : Rd H a u) : Rd H' a u := h.elim (fun q => .inl (e _ _ q)) fun ⟨o, q⟩ => .inr ⟨o, e _ _ q⟩
theorem Ex.sl {K : PySem.W.Frag} {H H' : Hp} {a : Addr} {xs : List V} (e : Ex H H') (h : SqL K H a xs) : SqL K H' a xs := h.elim (fun q => .inl (e.rd q)) .inr
theorem Ex.st {K : PySem.W.Frag} {H H' : Hp} {a : Addr} {xs : List V} (e : Ex H H') (h : SqT K H a xs) : SqT K H' a xs := h.elim (fun q => .inl (e.rd q)) .inr
theorem Ex.none {H H' : Hp} (e : Ex H H') {p : Addr} (h : H' p = Option.none) : H p = Option.none := by
  cases q : H p with
  | none => rfl
  | some o =>
    rw [e p o q] at h
    cases h

mutual
theorem Rep.mono {K : PySem.W.Frag} {B B' : Hp} (e : Ex B B') : ∀ {v : V} {d : D}, Rep K B v d → Rep K B' v d
  | _, _, .non => .non
  | _, _, .bl b => .bl b
  | _, _, .int i => .int i
  | _, _, .str x => .str x
  | _, _, .adr a => .adr a
  | _, _, .lst h r => .lst (e _ _ h) (Reps.mono e r)
  | _, _, .frl h => .frl (e.sl h)
  | _, _, .tup h r => .tup (e _ _ h) (Reps.mono e r)
  | _, _, .dK h k r => .dK (e.rd h) k (Reps.mono e r)
  | _, _, .dT h k r => .dT (e.rd h) k (Reps.mono e r)
  | _, _, .ins h k r => .ins (e _ _ h) k (Reps.mono e r)
theorem Reps.mono {K : PySem.W.Frag} {B B' : Hp} (e : Ex B B') : ∀ {vs : List V} {ds : List D}, Reps K B vs ds → Reps K B' vs ds
  | _, _, .nil => .nil
  | _, _, .cons h r => .cons (Rep.mono e h) (Reps.mono e r)
end
section
variable {K : PySem.W.Frag} {B : Hp}
theorem Reps.len : ∀ {vs : List V} {ds : List D}, Reps K B vs ds → vs.length = ds.length
  | _, _, .nil => rfl
  | _, _, .cons _ r => congrArg Nat.succ (Reps.len r)
theorem Reps.at : ∀ {vs : List V} {ds : List D} {i : Nat} {d : D}, Reps K B vs ds → ds[i]? = some d → ∃ v, vs[i]? = some v ∧ Rep K B v d
  | _, _, 0, _, .cons h _, e => by
    cases e
    exact ⟨_, rfl, h⟩
  | _, _, i + 1, d, .cons _ r, e => Reps.at (i := i) r (by simpa using e)
theorem Reps.at' : ∀ {vs : List V} {ds : List D} {i : Nat} {v : V}, Reps K B vs ds → vs[i]? = some v → ∃ d, ds[i]? = some d ∧ Rep K B v d
  | _, _, 0, _, .cons h _, e => by
    cases e
    exact ⟨_, rfl, h⟩
  | _, _, i + 1, d, .cons _ r, e => Reps.at' (i := i) r (by simpa using e)
theorem Reps.app : ∀ {vs ws : List V} {ds es : List D}, Reps K B vs ds → Reps K B ws es → Reps K B (vs ++ ws) (ds ++ es)
  | _, _, _, _, .nil, s => s
  | _, _, _, _, .cons h r, s => .cons h (Reps.app r s)
theorem Reps.one {v : V} {d : D} (h : Rep K B v d) : Reps K B [v] [d] := .cons h .nil
theorem Reps.take : ∀ {vs : List V} {ds : List D} (n : Nat), Reps K B vs ds → Reps K B (vs.take n) (ds.take n)
  | _, _, 0, _ => .nil
  | _, _, _ + 1, .nil => .nil
  | _, _, n + 1, .cons h r => .cons h (Reps.take n r)
theorem Reps.drop : ∀ {vs : List V} {ds : List D} (n : Nat), Reps K B vs ds → Reps K B (vs.drop n) (ds.drop n)
  | _, _, 0, r => r
  | _, _, _ + 1, .nil => .nil
  | _, _, n + 1, .cons _ r => Reps.drop n r
theorem Reps.set {v : V} {d : D} (h : Rep K B v d) : ∀ {vs : List V} {ds : List D} (i : Nat), Reps K B vs ds → Reps K B (vs.set i v) (ds.set i d)
  | _, _, _, .nil => .nil
  | _, _, 0, .cons _ r => .cons h r
  | _, _, i + 1, .cons g r => .cons g (Reps.set h i r)
end

/-! ### the world: what may be changed in passing (the draws' record), and what is true of it -/
structure Wd where
  fp : Addr → Prop
  ok : Hp → Prop
  loc : ∀ H H', ok H → (∀ a, fp a → H' a = H a) → ok H'
  al : ∀ H, ok H → ∀ a, fp a → H a ≠ none
theorem Wd.mono (W : Wd) (H H' : Hp) (e : Ex H H') (h : W.ok H) : W.ok H' := W.loc H H' h fun a f => by
  cases q : H a with
  | none => exact absurd q (W.al H h a f)
  | some o => exact e a o q
/-- nothing is changed -/
def W0 : Wd := ⟨fun _ => False, fun _ => True, fun _ _ _ _ => trivial, fun _ _ _ h => h.elim⟩

/-- from the heap H0, of which B0 was known, to H, of which B is known -/
structure Go (W : Wd) (B0 H0 B H : Hp) : Prop where
  keep : ∀ a o, H0 a = some o → ¬ W.fp a → H a = some o
  bk : ∀ a, H0 a ≠ none → B a = B0 a
  ext : Ex B H
  ok0 : W.ok H0
  ok : W.ok H
  nf : ∀ a, W.fp a → B a = none
theorem Go.refl {W : Wd} {B H : Hp} (e : Ex B H) (o : W.ok H) (n : ∀ a, W.fp a → B a = none) : Go W B H B H := ⟨fun _ _ h _ => h, fun _ _ => rfl, e, o, o, n⟩
theorem Go.there {W : Wd} {B0 H0 B H : Hp} (g : Go W B0 H0 B H) {a : Addr} (h : H0 a ≠ none) : H a ≠ none := by
  by_cases f : W.fp a
  · exact W.al _ g.ok _ f
  · cases q : H0 a with
    | none => exact absurd q h
    | some o =>
      rw [g.keep a o q f]
      exact fun z => by cases z
theorem Go.trans {W : Wd} {B0 H0 B1 H1 B2 H2 : Hp} (a : Go W B0 H0 B1 H1) (b : Go W B1 H1 B2 H2) : Go W B0 H0 B2 H2 :=
  ⟨fun x o h f => b.keep x o (a.keep x o h f) f, fun x h => (b.bk x (a.there h)).trans (a.bk x h), b.ext, a.ok0, b.ok, b.nf⟩
/-- what was known is known (B0 part of H0) -/
theorem Go.bex {W : Wd} {B0 H0 B H : Hp} (g : Go W B0 H0 B H) (e : Ex B0 H0) : Ex B0 B := fun a o h => by
  rw [g.bk a (by rw [e a o h]; exact fun z => by cases z)]
  exact h

/-! ### items -/
inductive E where
  | no | sh (d : D) | ow (p : Addr) (d : D) | vr (i : Nat)
  /-- an object of one's own, here to be read alone -/
  | ro (p : Addr) (d : D)
  /-- the record of the draws at A, its lists at w and cc; at most n turns were made -/
  | dr (A w cc : Addr) (n : Nat)
/-- a slot's item: no vr -/
def E.here : E → Prop
  | .vr _ => False
  | _ => True
def E.ads : E → List Addr
  | .ow p _ => [p]
  | .dr A w cc _ => [A, w, cc]
  | _ => []
/-- the draws' record -/
def DrOk (B H : Hp) (A w cc : Addr) (n : Nat) : Prop := B A = none ∧ B w = none ∧ B cc = none ∧ ∃ (ws cs : List Int) (r t : Int),
  H A = some (.dK [(.inr "wide", .ref w), (.inr "cells", .ref cc), (.inr "rest", .int r), (.inr "turn", .int t)]) ∧ H w = some (.lst (ws.map V.int)) ∧ H cc = some (.lst (cs.map V.int)) ∧ (∀ x ∈ ws, 0 ≤ x) ∧ 0 ≤ r ∧ 0 ≤ t ∧ t ≤ n
theorem DrOk.go {B H B' H' : Hp} {A w cc : Addr} {n : Nat} (h : DrOk B H A w cc n) (b : ∀ a, a = A ∨ a = w ∨ a = cc → B' a = B a) (hh : ∀ a, a = A ∨ a = w ∨ a = cc → H' a = H a) : DrOk B' H' A w cc n := by
  obtain ⟨b1, b2, b3, ws, cs, r, t, h1, h2, h3, z⟩ := h
  exact ⟨(b _ (.inl rfl)).trans b1, (b _ (.inr (.inl rfl))).trans b2, (b _ (.inr (.inr rfl))).trans b3, ws, cs, r, t, (hh _ (.inl rfl)).trans h1, (hh _ (.inr (.inl rfl))).trans h2, (hh _ (.inr (.inr rfl))).trans h3, z⟩
/-- the object at p is one's own, its data d -/
def Own (K : PySem.W.Frag) (B H : Hp) (p : Addr) : D → Prop
  | .lst ds => B p = none ∧ ∃ vs, H p = some (.lst vs) ∧ Reps K B vs ds
  | .dK kds => B p = none ∧ ∃ kvs : List (Key × V), H p = some (.dK kvs) ∧ kvs.map (·.1) = kds.map (·.1) ∧ Reps K B (kvs.map (·.2)) (kds.map (·.2))
  | .dT kds => B p = none ∧ ∃ kvs : List (List Key × V), H p = some (.dT kvs) ∧ kvs.map (·.1) = kds.map (·.1) ∧ Reps K B (kvs.map (·.2)) (kds.map (·.2))
  | .ins C fds => B p = none ∧ ∃ (dx : Addr) (fs : List (Str × V)), H p = some (.ins C dx fs) ∧ fs.map (·.1) = fds.map (·.1) ∧ Reps K B (fs.map (·.2)) (fds.map (·.2))
  | _ => False
theorem Own.bn {K : PySem.W.Frag} {B H : Hp} {p : Addr} {d : D} (h : Own K B H p d) : B p = none := by
  cases d with
  | lst ds => exact h.1
  | dK kds => exact h.1
  | dT kds => exact h.1
  | ins C fds => exact h.1
  | _ => exact h.elim
theorem Own.hs {K : PySem.W.Frag} {B H : Hp} {p : Addr} {d : D} (h : Own K B H p d) : H p ≠ none := by
  cases d with
  | lst ds => obtain ⟨_, vs, e, _⟩ := h; rw [e]; exact fun z => by cases z
  | dK kds => obtain ⟨_, vs, e, _⟩ := h; rw [e]; exact fun z => by cases z
  | dT kds => obtain ⟨_, vs, e, _⟩ := h; rw [e]; exact fun z => by cases z
  | ins C fds => obtain ⟨_, dx, fs, e, _⟩ := h; rw [e]; exact fun z => by cases z
  | _ => exact h.elim
/-- it stays one's own where its object stays -/
theorem Own.go {K : PySem.W.Frag} {B H B' H' : Hp} {p : Addr} {d : D} (h : Own K B H p d) (hb : B' p = none) (hh : H' p = H p) (e : Ex B B') : Own K B' H' p d := by
  cases d with
  | lst ds => obtain ⟨_, vs, q, r⟩ := h; exact ⟨hb, vs, hh.trans q, r.mono e⟩
  | dK kds => obtain ⟨_, vs, q, k, r⟩ := h; exact ⟨hb, vs, hh.trans q, k, r.mono e⟩
  | dT kds => obtain ⟨_, vs, q, k, r⟩ := h; exact ⟨hb, vs, hh.trans q, k, r.mono e⟩
  | ins C fds => obtain ⟨_, dx, fs, q, k, r⟩ := h; exact ⟨hb, dx, fs, hh.trans q, k, r.mono e⟩
  | _ => exact h.elim
/-- it is made known -/
theorem Own.rep {K : PySem.W.Frag} {B H : Hp} {p : Addr} {d : D} (h : Own K B H p d) : ∃ o, H p = some o ∧ Rep K (upd B p o) (.ref p) d := by
  cases d with
  | lst ds => obtain ⟨b, vs, q, r⟩ := h; exact ⟨_, q, .lst upd_same (r.mono (.up b))⟩
  | dK kds => obtain ⟨b, vs, q, k, r⟩ := h; exact ⟨_, q, .dK (.inl upd_same) k (r.mono (.up b))⟩
  | dT kds => obtain ⟨b, vs, q, k, r⟩ := h; exact ⟨_, q, .dT (.inl upd_same) k (r.mono (.up b))⟩
  | ins C fds => obtain ⟨b, dx, fs, q, k, r⟩ := h; exact ⟨_, q, .ins upd_same k (r.mono (.up b))⟩
  | _ => exact h.elim

/-- an item, and what the slot holds -/
def SlotOk (K : PySem.W.Frag) (W : Wd) (H0 B H : Hp) (σ : L2.St) : E → Option V → Prop
  | .no, _ => True
  | .sh d, o => ∃ v, o = some v ∧ Rep K B v d
  | .ow p d, o => o = some (.ref p) ∧ Own K B H p d ∧ H0 p = none
  | .vr i, o => ∃ v, o = some v ∧ σ[i]? = some (some v)
  | .ro p d, o => o = some (.ref p) ∧ Own K B H p d ∧ H0 p ≠ none ∧ ¬ W.fp p
  | .dr A w cc n, o => o = some (.ref A) ∧ DrOk B H A w cc n ∧ ∀ a, a = A ∨ a = w ∨ a = cc → H0 a = none
def All2 {α β : Type} (F : α → β → Prop) : List α → List β → Prop
  | [], [] => True
  | a :: as, b :: bs => F a b ∧ All2 F as bs
  | _, _ => False
section
variable {α β : Type} {F G : α → β → Prop}
theorem All2.imp : ∀ {as : List α} {bs : List β}, All2 F as bs → (∀ a ∈ as, ∀ b, F a b → G a b) → All2 G as bs
  | [], [], _, _ => trivial
  | a :: as, b :: bs, h, f => ⟨f a (List.mem_cons_self ..) b h.1, All2.imp h.2 fun x hx => f x (List.mem_cons_of_mem _ hx)⟩
theorem All2.len : ∀ {as : List α} {bs : List β}, All2 F as bs → as.length = bs.length
  | [], [], _ => rfl
  | _ :: _, _ :: _, h => congrArg Nat.succ (All2.len h.2)
theorem All2.at : ∀ {as : List α} {bs : List β} {i : Nat} {a : α}, All2 F as bs → as[i]? = some a → ∃ b, bs[i]? = some b ∧ F a b
  | a :: as, b :: bs, 0, x, h, e => by
    cases e
    exact ⟨b, rfl, h.1⟩
  | a :: as, b :: bs, i + 1, x, h, e => All2.at (i := i) h.2 (by simpa using e)
theorem All2.set : ∀ {as : List α} {bs : List β} (i : Nat) {a : α} {b : β}, All2 F as bs → F a b → All2 F (as.set i a) (bs.set i b)
  | [], [], _, _, _, _, _ => trivial
  | _ :: _, _ :: _, 0, _, _, h, f => ⟨f, h.2⟩
  | _ :: _, _ :: _, i + 1, _, _, h, f => ⟨h.1, All2.set i h.2 f⟩
/-- one item alone is changed -/
theorem All2.set1 : ∀ {as : List α} {bs : List β} (i : Nat) {a : α}, All2 F as bs → (∀ b, bs[i]? = some b → F a b) → All2 F (as.set i a) bs
  | [], [], _, _, _, _ => trivial
  | _ :: _, b :: _, 0, _, h, f => ⟨f b rfl, h.2⟩
  | _ :: _, _ :: bs, i + 1, _, h, f => ⟨h.1, All2.set1 i h.2 fun b e => f b (by simpa using e)⟩
theorem All2.app : ∀ {as cs : List α} {bs ds : List β}, All2 F as bs → All2 F cs ds → All2 F (as ++ cs) (bs ++ ds)
  | [], _, [], _, _, s => s
  | _ :: _, _, _ :: _, _, h, s => ⟨h.1, All2.app h.2 s⟩
theorem All2.split : ∀ {as cs : List α} {bs ds : List β}, as.length = bs.length → All2 F (as ++ cs) (bs ++ ds) → All2 F as bs ∧ All2 F cs ds
  | [], _, [], _, _, s => ⟨trivial, s⟩
  | _ :: _, _, _ :: _, _, l, h => by
    obtain ⟨h1, h2⟩ := All2.split (Nat.succ.inj l) h.2
    exact ⟨⟨h.1, h1⟩, h2⟩
end
/-- THE STATE: temporaries τ (their values tv), slots ρ (their values σ) -/
structure Bs where
  /-- what was known at the entry -/
  B0 : Hp
  /-- what stood then (and is kept) -/
  H0 : Hp
  /-- what is known since -/
  Bk : Hp
structure SR (K : PySem.W.Frag) (W : Wd) (β : Bs) (τ ρ : List E) (B H : Hp) (tv : List V) (σ : L2.St) : Prop where
  go : Go W β.B0 β.H0 B H
  b0 : Ex β.B0 β.H0
  kb : Ex β.Bk B
  tm : All2 (SlotOk K W β.H0 B H σ) τ (tv.map some)
  sl : All2 (SlotOk K W β.H0 B H σ) ρ σ
  nd : ((τ ++ ρ).flatMap E.ads).Nodup
  hr : ∀ e ∈ ρ, e.here

section
variable {K : PySem.W.Frag} {W : Wd} {β : Bs} {H0 B H B' H' : Hp} {τ ρ ρ' : List E} {tv : List V} {σ : L2.St} {r : E} {v : V} {d : D} {i : Nat} {p : Addr}
theorem SlotOk.has {e : E} {o : Option V} (h : SlotOk K W H0 B H σ e o) (m : p ∈ e.ads) : H p ≠ none ∧ B p = none ∧ H0 p = none := by
  cases e with
  | ow q d =>
    have e : p = q := by simpa [E.ads] using m
    subst e
    exact ⟨h.2.1.hs, h.2.1.bn, h.2.2⟩
  | dr A w cc n =>
    have e : p = A ∨ p = w ∨ p = cc := by simpa [E.ads] using m
    obtain ⟨_, ⟨b1, b2, b3, ws, cs, r, t, h1, h2, h3, _⟩, z⟩ := h
    refine ⟨?_, ?_, z p e⟩
    · rcases e with e | e | e
      · rw [e, h1]; exact fun y => by cases y
      · rw [e, h2]; exact fun y => by cases y
      · rw [e, h3]; exact fun y => by cases y
    · rcases e with e | e | e
      · rw [e]; exact b1
      · rw [e]; exact b2
      · rw [e]; exact b3
  | _ => simp [E.ads] at m
/-- what one owns stays where all that stood ahead of a step stands behind it -/
theorem SlotOk.go {e : E} {o : Option V} (h : SlotOk K W H0 B H σ e o) (e1 : Ex B B') (hb : ∀ a, H a ≠ none → B a = none → B' a = none) (hh : ∀ a, H a ≠ none → ¬ W.fp a → H' a = H a) (hz : ∀ a, H0 a = none → ¬ W.fp a) : SlotOk K W H0 B' H' σ e o := by
  have hs := fun {p : Addr} (m : p ∈ e.ads) => h.has m
  cases e with
  | no => trivial
  | sh d => obtain ⟨v, q, r⟩ := h; exact ⟨v, q, r.mono e1⟩
  | ow p d => obtain ⟨q, w, z⟩ := h; exact ⟨q, w.go (hb _ w.hs w.bn) (hh _ w.hs (hz _ z)) e1, z⟩
  | vr i => exact h
  | ro p d => obtain ⟨q, w, z⟩ := h; exact ⟨q, w.go (hb _ w.hs w.bn) (hh _ w.hs z.2) e1, z⟩
  | dr A w cc n =>
    obtain ⟨q, k, z⟩ := h
    have s3 : ∀ a, a = A ∨ a = w ∨ a = cc → H a ≠ none ∧ B a = none ∧ H0 a = none := fun a e => hs (by simpa [E.ads] using e)
    exact ⟨q, k.go (fun a e => by rw [hb a (s3 a e).1 (s3 a e).2.1, (s3 a e).2.1]) (fun a e => hh a (s3 a e).1 (hz a (s3 a e).2.2)), z⟩
/-- THE STEP: from a state by a step that keeps all that stood but the world's own -/
theorem SR.step (S : SR K W β τ ρ B H tv σ) (g : Go W B H B' H') : SR K W β τ ρ B' H' tv σ := by
  have f : ∀ a, H a ≠ none → B a = none → B' a = none := fun a h q => (g.bk a h).trans q
  have k : ∀ a, H a ≠ none → ¬ W.fp a → H' a = H a := fun a h w => by
    cases q : H a with
    | none => exact absurd q h
    | some o => exact g.keep a o q w
  have hz : ∀ a, β.H0 a = none → ¬ W.fp a := fun a z f => W.al _ S.go.ok0 _ f z
  have e : Ex B B' := g.bex S.go.ext
  exact ⟨S.go.trans g, S.b0, S.kb.trans e, S.tm.imp fun _ _ _ x => x.go e f k hz, S.sl.imp fun _ _ _ x => x.go e f k hz, S.nd, S.hr⟩
theorem SR.push (S : SR K W β τ ρ B H tv σ) (h : Rep K B v d) : SR K W β (.sh d :: τ) ρ B H (v :: tv) σ := ⟨S.go, S.b0, S.kb, ⟨⟨v, rfl, h⟩, S.tm⟩, S.sl, S.nd, S.hr⟩
theorem SR.pushV (S : SR K W β τ ρ B H tv σ) (h : σ[i]? = some (some v)) : SR K W β (.vr i :: τ) ρ B H (v :: tv) σ := ⟨S.go, S.b0, S.kb, ⟨⟨v, rfl, h⟩, S.tm⟩, S.sl, S.nd, S.hr⟩
theorem All2.mem {α β : Type} {F : α → β → Prop} : ∀ {as : List α} {bs : List β} {a : α}, All2 F as bs → a ∈ as → ∃ b, F a b
  | _ :: _, b :: _, _, h, m => by
    rcases List.mem_cons.mp m with e | m
    · subst e; exact ⟨b, h.1⟩
    · exact All2.mem h.2 m
theorem SR.owned (S : SR K W β τ ρ B H tv σ) (h : p ∈ (τ ++ ρ).flatMap E.ads) : H p ≠ none ∧ B p = none ∧ β.H0 p = none := by
  obtain ⟨e, m, q⟩ := List.mem_flatMap.mp h
  rcases List.mem_append.mp m with m | m
  · obtain ⟨o, z⟩ := S.tm.mem m; exact z.has q
  · obtain ⟨o, z⟩ := S.sl.mem m; exact z.has q
/-- a new object is laid, one's own -/
theorem SR.new {o : HO} (S : SR K W β τ ρ B H tv σ) (h : H p = none) (w : Own K B (upd H p o) p d) : SR K W β (.ow p d :: τ) ρ B (upd H p o) (.ref p :: tv) σ := by
  have nf : ¬ W.fp p := fun f => W.al _ S.go.ok _ f h
  have e : Ex H (upd H p o) := .up h
  have g : Go W B H B (upd H p o) := ⟨fun a u q _ => e a u q, fun _ _ => rfl, S.go.ext.trans e, S.go.ok, W.mono _ _ e S.go.ok, S.go.nf⟩
  have S' := S.step g
  have h0 : β.H0 p = none := by
    cases q : β.H0 p with
    | none => rfl
    | some u => exact absurd h (S.go.there (by rw [q]; exact fun z => by cases z))
  refine ⟨S'.go, S.b0, S'.kb, ⟨⟨rfl, w, h0⟩, S'.tm⟩, S'.sl, ?_, S.hr⟩
  show (p :: (τ ++ ρ).flatMap E.ads).Nodup
  refine List.nodup_cons.mpr ⟨fun m => ?_, S.nd⟩
  exact (S.owned m).1 h
/-- .. or known at once (a tuple) -/
theorem SR.newK {o : HO} (S : SR K W β τ ρ B H tv σ) (h : H p = none) (w : Rep K (upd B p o) (.ref p) d) : SR K W β (.sh d :: τ) ρ (upd B p o) (upd H p o) (.ref p :: tv) σ := by
  have nf : ¬ W.fp p := fun f => W.al _ S.go.ok _ f h
  have e : Ex H (upd H p o) := .up h
  have g : Go W B H (upd B p o) (upd H p o) := ⟨fun a u q _ => e a u q, fun a q => upd_ne fun z => q (by rw [z]; exact h), fun a u q => by
    by_cases z : a = p
    · subst z; rw [upd_same] at q ⊢; exact q
    · rw [upd_ne z] at q ⊢; exact S.go.ext a u q, S.go.ok, W.mono _ _ e S.go.ok, fun a f => by
      rw [upd_ne (fun z => nf (by rw [← z]; exact f))]
      exact S.go.nf a f⟩
  exact (S.step g).push w
theorem SR.pop (S : SR K W β (r :: τ) ρ B H (v :: tv) σ) : SR K W β τ ρ B H tv σ := by
  refine ⟨S.go, S.b0, S.kb, S.tm.2, S.sl, ?_, S.hr⟩
  have n : (r.ads ++ (τ ++ ρ).flatMap E.ads).Nodup := S.nd
  exact (List.nodup_append.mp n).2.1
/-- the first temporary, one's own, is made known -/
theorem SR.share (S : SR K W β (.ow p d :: τ) ρ B H (v :: tv) σ) : ∃ B', SR K W β (.sh d :: τ) ρ B' H (v :: tv) σ := by
  obtain ⟨⟨e, w, z⟩, tm⟩ := S.tm
  cases e
  obtain ⟨o, ho, rep⟩ := w.rep
  have nf : ¬ W.fp p := fun f => W.al _ S.go.ok0 _ f z
  have nm := (List.nodup_cons.mp (show (p :: (τ ++ ρ).flatMap E.ads).Nodup from S.nd))
  have ex : Ex B (upd B p o) := .up w.bn
  have up : ∀ {e : E} {u : Option V}, e ∈ τ ++ ρ → SlotOk K W β.H0 B H σ e u → SlotOk K W β.H0 (upd B p o) H σ e u := fun {e u} m q => by
    cases e with
    | no => trivial
    | sh d => obtain ⟨x, a, b⟩ := q; exact ⟨x, a, b.mono ex⟩
    | ow p' d' =>
      obtain ⟨a, b, c⟩ := q
      have np : p' ≠ p := fun y => nm.1 (List.mem_flatMap.mpr ⟨_, m, by rw [y]; exact List.mem_cons_self ..⟩)
      exact ⟨a, b.go (by rw [upd_ne np]; exact b.bn) rfl ex, c⟩
    | dr A w cc n =>
      obtain ⟨a, b, c⟩ := q
      have np : ∀ x, x = A ∨ x = w ∨ x = cc → x ≠ p := fun x e y => nm.1 (List.mem_flatMap.mpr ⟨_, m, by rw [← y]; simpa [E.ads] using e⟩)
      exact ⟨a, b.go (fun x e => upd_ne (np x e)) (fun _ _ => rfl), c⟩
    | vr i => exact q
    | ro p' d' =>
      obtain ⟨a, b, c⟩ := q
      have np : p' ≠ p := fun y => c.1 (by rw [y]; exact z)
      exact ⟨a, b.go (by rw [upd_ne np]; exact b.bn) rfl ex, c⟩
  refine ⟨upd B p o, ⟨⟨S.go.keep, fun a q => ?_, fun a u q => ?_, S.go.ok0, S.go.ok, fun a f => ?_⟩, S.b0, S.kb.trans ex, ⟨⟨_, rfl, rep⟩, tm.imp fun e m u q => up (List.mem_append_left _ m) q⟩, S.sl.imp fun e m u q => up (List.mem_append_right _ m) q, nm.2, S.hr⟩⟩
  · rw [upd_ne (fun y => q (by rw [y]; exact z))]
    exact S.go.bk a q
  · by_cases y : a = p
    · subst y; rw [upd_same] at q; cases q; exact ho
    · rw [upd_ne y] at q; exact S.go.ext a u q
  · rw [upd_ne (fun y => nf (by rw [← y]; exact f))]
    exact S.go.nf a f
end
end Dl

/-! ## what is wanted of code, by itself (each is the weakest reading of its judgement) -/
namespace Dl
open PySem PySem.Spec PyProof.Rows L2
/-! arguments without a star -/
def isStar : Expr → Bool
  | .Starred .. => true
  | _ => false
theorem star_cons {e : Expr} {es : List Expr} {env : Env} (h : isStar e = false) : starEach (e :: es) env = (false, eval e env) :: starEach es env := by
  cases e <;> first | rfl | cases h
def noStars : List Expr → Bool
  | [] => true
  | e :: es => !isStar e && noStars es
theorem star_no {pos : Pos} {env : Env} : ∀ {es : List Expr}, noStars es = true → (backTo pos (starEach es env)).any (·.1) = false
  | [], _ => rfl
  | e :: es, h => by
    obtain ⟨h1, h2⟩ := Bool.and_eq_true_iff.mp (show (!isStar e && noStars es) = true from h)
    have h1 : isStar e = false := by simpa using h1
    have ih := star_no (pos := pos) (env := env) h2
    rw [star_cons h1]
    simpa [backTo] using ih

section
variable (X : Cx)
def wE (e : Expr) : TE := fun σ H Q => ∀ (pins : List (Addr × Obj)) (s : Shared), Inv X pins σ H s → wpAny (model X.prog X.w) X.A (eval e X.env) (EP X pins σ Q) X.xe s
def wT (e : Expr) : TT := fun σ H Q => ∀ (pins : List (Addr × Obj)) (s : Shared), Inv X pins σ H s → wpAny (model X.prog X.w) X.A (isTrue e X.env (eval e X.env)) (TP X pins σ Q) X.xe s
def wW (e : Expr) : TT := fun σ H Q => ∀ (whole : Sem Value) (pins : List (Addr × Obj)) (s : Shared), Inv X pins σ H s → wpAny (model X.prog X.w) X.A (isTrue e X.env whole) (TP X pins σ Q) X.xe s
def wA (es : List Expr) : TA := fun σ H Q => ∀ (pos : Pos) (pins : List (Addr × Obj)) (s : Shared), Inv X pins σ H s → wpAny (model X.prog X.w) X.A (spliced (backTo pos (starEach es X.env))) (AP X pins σ Q) X.xe s
def wS (st : Stmt) : TS := fun D σ H => ∀ (pins : List (Addr × Obj)) (s : Shared), Inv X pins σ H s → wpAny (model X.prog X.w) X.A (exec st X.env) (SP X pins D) X.xe s
def wB (st : List Stmt) : TS := fun D σ H => ∀ (pins : List (Addr × Obj)) (s : Shared), Inv X pins σ H s → wpAny (model X.prog X.w) X.A (execs st X.env) (SP X pins D) X.xe s
end
section
variable {X : Cx} {e : Expr} {es : List Expr} {st : Stmt} {b : List Stmt} {te : TE} {tt : TT} {ta : TA} {ts : TS} {σ : L2.St} {H : Hp} {D : Ends}
theorem pe_w : PE X e (wE X e) := ⟨fun pins s _ _ _ I h => h pins s I⟩
theorem pt_w : PT X e (wT X e) := ⟨fun pins s _ _ _ I h => h pins s I⟩
theorem pw_w : PW X e (wW X e) := ⟨fun wh pins s _ _ _ I h => h wh pins s I⟩
theorem pa_w : PA X es (wA X es) := ⟨fun pos pins s _ _ _ I h => h pos pins s I⟩
theorem ps_w : PS X st (wS X st) := ⟨fun pins s _ _ _ I h => h pins s I⟩
theorem pb_w : PSs X b (wB X b) := ⟨fun pins s _ _ _ I h => h pins s I⟩
theorem PEw {Q : VK} (p : PE X e te) (h : te σ H Q) : wE X e σ H Q := fun pins s I => p.run pins s σ H Q I h
theorem PTw {Q : Bool → Hp → Prop} (p : PT X e tt) (h : tt σ H Q) : wT X e σ H Q := fun pins s I => p.run pins s σ H Q I h
theorem PWw {Q : Bool → Hp → Prop} (p : PW X e tt) (h : tt σ H Q) : wW X e σ H Q := fun wh pins s I => p.run wh pins s σ H Q I h
theorem PAw {Q : List V → Hp → Prop} (p : PA X es ta) (h : ta σ H Q) : wA X es σ H Q := fun pos pins s I => p.run pos pins s σ H Q I h
theorem PSw (p : PS X st ts) (h : ts D σ H) : wS X st D σ H := fun pins s I => p.run pins s σ H D I h
theorem PBw (p : PSs X b ts) (h : ts D σ H) : wB X b D σ H := fun pins s I => p.run pins s σ H D I h
end

/-! ### the context: the machine's, the world, what is wanted of exceptions: by their class, what they bear, and the slots -/
/-- an exception's own dict bears one thing by name, or it has none -/
def ExcRep (K : PySem.W.Frag) (B H : Hp) (dx : Option Addr) : Option (Str × D) → Prop
  | none => dx = none
  | some (f, d) => ∃ a v, dx = some a ∧ H a = some (.xd [(f, v)]) ∧ Rep K B v d
structure DC where
  X : Cx
  W : Wd
  Wx : WX
  ex : Value → Option (Str × D) → List E → Prop
  tk : Takes X Wx
  hp : PassesOwn (model X.prog X.w) X.A X.env X.xe
def DC.no (c : DC) : Prop := ∀ v p ρ, ¬ c.ex v p ρ
/-- an exception of which c.ex is true is what the machine wants -/
def XOk (c : DC) (β : Bs) (σ : L2.St) : Prop := ∀ ρ B H cls dx pd, SR c.X.K c.W β [] ρ B H [] σ → ExcRep c.X.K B H dx pd → c.ex cls pd ρ → c.Wx cls dx σ H
/-- what is known since: here all -/
def Bs.re (β : Bs) (B : Hp) : Bs := ⟨β.B0, β.H0, B⟩
theorem SR.re {K : PySem.W.Frag} {W : Wd} {β : Bs} {B H : Hp} {τ ρ : List E} {tv : List V} {σ : L2.St} (S : SR K W β τ ρ B H tv σ) : SR K W (β.re B) τ ρ B H tv σ := ⟨S.go, S.b0, .refl B, S.tm, S.sl, S.nd, S.hr⟩
theorem SR.un {K : PySem.W.Frag} {W : Wd} {β : Bs} {B1 B H : Hp} {τ ρ : List E} {tv : List V} {σ : L2.St} (S : SR K W (β.re B1) τ ρ B H tv σ) (e : Ex β.Bk B1) : SR K W β τ ρ B H tv σ := ⟨S.go, S.b0, e.trans S.kb, S.tm, S.sl, S.nd, S.hr⟩
theorem XOk.re {c : DC} {β : Bs} {σ : L2.St} {B : Hp} (X : XOk c β σ) (e : Ex β.Bk B) : XOk c (β.re B) σ := fun ρ B H cls dx pd S => X ρ B H cls dx pd (S.un e)
/-- THE JUDGEMENTS -/
def XE (c : DC) (e : Expr) (ρ : List E) (P : E → List E → Prop) : Prop := ∀ (β : Bs) (B H : Hp) (τ : List E) (tv : List V) (σ : L2.St) (Q : VK), SR c.X.K c.W β τ ρ B H tv σ → XOk c β σ →
  (∀ r v ρ' B' H', SR c.X.K c.W β (r :: τ) ρ' B' H' (v :: tv) σ → P r ρ' → Q v H') → wE c.X e σ H Q
def XT (c : DC) (e : Expr) (ρ : List E) (P : Bool → List E → Prop) : Prop := ∀ (β : Bs) (B H : Hp) (τ : List E) (tv : List V) (σ : L2.St) (Q : Bool → Hp → Prop), SR c.X.K c.W β τ ρ B H tv σ → XOk c β σ →
  (∀ b ρ' B' H', SR c.X.K c.W β τ ρ' B' H' tv σ → P b ρ' → Q b H') → wT c.X e σ H Q
def XW (c : DC) (e : Expr) (ρ : List E) (P : Bool → List E → Prop) : Prop := ∀ (β : Bs) (B H : Hp) (τ : List E) (tv : List V) (σ : L2.St) (Q : Bool → Hp → Prop), SR c.X.K c.W β τ ρ B H tv σ → XOk c β σ →
  (∀ b ρ' B' H', SR c.X.K c.W β τ ρ' B' H' tv σ → P b ρ' → Q b H') → wW c.X e σ H Q
def XA (c : DC) (es : List Expr) (ρ : List E) (P : List E → List E → Prop) : Prop := ∀ (β : Bs) (B H : Hp) (τ : List E) (tv : List V) (σ : L2.St) (Q : List V → Hp → Prop), SR c.X.K c.W β τ ρ B H tv σ → XOk c β σ →
  (∀ rs vs ρ' B' H', rs.length = vs.length → SR c.X.K c.W β (rs ++ τ) ρ' B' H' (vs ++ tv) σ → P rs ρ' → Q vs H') → wA c.X es σ H Q
/-- what is wanted behind a statement -/
structure Tg where
  nx : List E → Prop
  rt : E → List E → Prop
  bk : List E → Prop := fun _ => False
  ct : List E → Prop := fun _ => False
structure TgOk (c : DC) (β : Bs) (T : Tg) (D : Ends) : Prop where
  nx : ∀ ρ B H σ, SR c.X.K c.W β [] ρ B H [] σ → T.nx ρ → D.nx σ H
  rt : ∀ r v ρ B H σ, SR c.X.K c.W β [r] ρ B H [v] σ → T.rt r ρ → D.rt v H
  bk : ∀ ρ B H σ, SR c.X.K c.W β [] ρ B H [] σ → T.bk ρ → D.bk σ H
  ct : ∀ ρ B H σ, SR c.X.K c.W β [] ρ B H [] σ → T.ct ρ → D.ct σ H
def XS (c : DC) (st : Stmt) (ρ : List E) (T : Tg) : Prop := ∀ (β : Bs) (B H : Hp) (σ : L2.St) (D : Ends), SR c.X.K c.W β [] ρ B H [] σ → (∀ σ, XOk c β σ) → TgOk c β T D → wS c.X st D σ H
def XB (c : DC) (st : List Stmt) (ρ : List E) (T : Tg) : Prop := ∀ (β : Bs) (B H : Hp) (σ : L2.St) (D : Ends), SR c.X.K c.W β [] ρ B H [] σ → (∀ σ, XOk c β σ) → TgOk c β T D → wB c.X st D σ H
/-- an operation on two values: what it gives -/
def OP (c : DC) (f : Value → Value → Sem Value) (r1 r2 : E) (ρ : List E) (P : E → List E → Prop) : Prop := ∀ (β : Bs) (B H : Hp) (τ : List E) (tv : List V) (σ : L2.St) (x y : V) (Q : VK), SR c.X.K c.W β (r2 :: r1 :: τ) ρ B H (y :: x :: tv) σ → XOk c β σ →
  (∀ r v ρ' B' H', SR c.X.K c.W β (r :: τ) ρ' B' H' (v :: tv) σ → P r ρ' → Q v H') → ∃ R : R2, OpR c.X f R ∧ R x y H Q
/-- a call of a value upon values -/
def CP (c : DC) (f : Value) (rs : List E) (ρ : List E) (P : E → List E → Prop) : Prop := ∀ (β : Bs) (B H : Hp) (τ : List E) (tv : List V) (σ : L2.St) (xs : List V) (Q : VK), rs.length = xs.length → SR c.X.K c.W β (rs ++ τ) ρ B H (xs ++ tv) σ → XOk c β σ →
  (∀ r v ρ' B' H', SR c.X.K c.W β (r :: τ) ρ' B' H' (v :: tv) σ → P r ρ' → Q v H') → ∃ R, CallR c.X f R ∧ R xs H Q
/-- a method of a built-in type -/
def MP (c : DC) (T id : String) (r : E) (rs : List E) (ρ : List E) (P : E → List E → Prop) : Prop := ∀ (β : Bs) (B H : Hp) (τ : List E) (tv : List V) (σ : L2.St) (x : V) (xs : List V) (Q : VK), rs.length = xs.length → SR c.X.K c.W β (rs ++ r :: τ) ρ B H (xs ++ x :: tv) σ → XOk c β σ →
  (∀ r v ρ' B' H', SR c.X.K c.W β (r :: τ) ρ' B' H' (v :: tv) σ → P r ρ' → Q v H') → ∃ R, MtR c.X id R ∧ R x xs H Q

section
variable {c : DC} {e a b f : Expr} {es : List Expr} {ρ : List E} {P P' : E → List E → Prop} {PB : Bool → List E → Prop} {PL : List E → List E → Prop} {pos : Pos} {x : Str} {i : Nat} {d : D} {T : Tg} {st : Stmt} {sts sts' : List Stmt}

theorem XE.imp (h : XE c e ρ P) (k : ∀ r ρ', P r ρ' → P' r ρ') : XE c e ρ P' := fun β B H τ tv σ Q S x q => h β B H τ tv σ Q S x fun r v ρ' B' H' S' p => q r v ρ' B' H' S' (k r ρ' p)
/-! ### names, constants -/
theorem xe_nm (i : Nat) (d : D) (h : ρ[i]? = some (.sh d)) (k : P (.sh d) ρ) (hN : c.X.N[i]? = some x := by rfl) (hv : Vis c.X.env.scope x := by first | exact Or.inl rfl | exact Or.inr (Or.inl rfl) | exact Or.inr (Or.inr rfl))
    (hd : (x == ("__debug__" : Str)) = false := by decide) (hcd : (x == ("__classdict__" : Str)) = false := by decide) : XE c (.Name x pos) ρ P := by
  intro β B H τ tv σ Q S _ q
  obtain ⟨o, ho, v, hv', r⟩ := S.sl.at h
  exact PEw (pe_var hN hv hd hcd) ⟨v, by rw [ho, hv'], q _ _ _ _ _ (S.push r) k⟩
theorem xe_nmo (i : Nat) (p : Addr) (d : D) (h : ρ[i]? = some (.ow p d)) (k : P (.vr i) ρ) (hN : c.X.N[i]? = some x := by rfl) (hv : Vis c.X.env.scope x := by first | exact Or.inl rfl | exact Or.inr (Or.inl rfl) | exact Or.inr (Or.inr rfl))
    (hd : (x == ("__debug__" : Str)) = false := by decide) (hcd : (x == ("__classdict__" : Str)) = false := by decide) : XE c (.Name x pos) ρ P := by
  intro β B H τ tv σ Q S _ q
  obtain ⟨o, ho, hv', _⟩ := S.sl.at h
  have z : σ[i]? = some (some (V.ref p)) := by rw [ho, hv']
  exact PEw (pe_var hN hv hd hcd) ⟨_, z, q _ _ _ _ _ (S.pushV z) k⟩
theorem xe_nmr (i : Nat) (p : Addr) (d : D) (h : ρ[i]? = some (.ro p d)) (k : P (.vr i) ρ) (hN : c.X.N[i]? = some x := by rfl) (hv : Vis c.X.env.scope x := by first | exact Or.inl rfl | exact Or.inr (Or.inl rfl) | exact Or.inr (Or.inr rfl))
    (hd : (x == ("__debug__" : Str)) = false := by decide) (hcd : (x == ("__classdict__" : Str)) = false := by decide) : XE c (.Name x pos) ρ P := by
  intro β B H τ tv σ Q S _ q
  obtain ⟨o, ho, hv', _⟩ := S.sl.at h
  have z : σ[i]? = some (some (V.ref p)) := by rw [ho, hv']
  exact PEw (pe_var hN hv hd hcd) ⟨_, z, q _ _ _ _ _ (S.pushV z) k⟩
theorem xe_int {n : Int} {j : Nat} (k : P (.sh (.int n)) ρ) : XE c (.Constant (.int n) j pos) ρ P := fun _ _ _ _ _ _ _ S _ q => PEw pe_int (q _ _ _ _ _ (S.push (.int n)) k)
theorem xe_bl {n : Bool} {j : Nat} (k : P (.sh (.bl n)) ρ) : XE c (.Constant (.bool n) j pos) ρ P := fun _ _ _ _ _ _ _ S _ q => PEw pe_bl (q _ _ _ _ _ (S.push (.bl n)) k)
theorem xe_non {j : Nat} (k : P (.sh .non) ρ) : XE c (.Constant .none j pos) ρ P := fun _ _ _ _ _ _ _ S _ q => PEw pe_non (q _ _ _ _ _ (S.push .non) k)
theorem xe_str {z : Str} {j : Nat} (k : P (.sh (.str z)) ρ) : XE c (.Constant (.str z) j pos) ρ P := fun _ _ _ _ _ _ _ S _ q => PEw pe_str (q _ _ _ _ _ (S.push (.str z)) k)
/-- a constant of the module -/
theorem xe_gi {n : Int} {t : Tok} (hm : c.X.mg x = some (.int n t)) (k : P (.sh (.int n)) ρ) (hg : Gl c.X x := by rfl) (hd : (x == ("__debug__" : Str)) = false := by decide) : XE c (.Name x pos) ρ P := fun _ _ _ _ _ _ _ S _ q => PEw (pe_glob (v := .int n) hg hm ⟨t, rfl⟩ hd) (q _ _ _ _ _ (S.push (.int n)) k)
theorem xe_gs {z : Str} {t : Tok} (hm : c.X.mg x = some (.str z t)) (k : P (.sh (.str z)) ρ) (hg : Gl c.X x := by rfl) (hd : (x == ("__debug__" : Str)) = false := by decide) : XE c (.Name x pos) ρ P := fun _ _ _ _ _ _ _ S _ q => PEw (pe_glob (v := .str z) hg hm ⟨t, rfl⟩ hd) (q _ _ _ _ _ (S.push (.str z)) k)

/-! ### operators -/
theorem xe_bin {op : Operator} (h : XE c a ρ fun r1 ρ1 => XE c b ρ1 fun r2 ρ2 => OP c (binaryOp op) r1 r2 ρ2 P) : XE c (.BinOp a op b pos) ρ P := by
  intro β B H τ tv σ Q S X q
  let R : R2 := fun x y H Q => ∃ R : R2, OpR c.X (binaryOp op) R ∧ R x y H Q
  have hR : OpR c.X (binaryOp op) R := fun pins s σ H x y v u Q I rx ry ⟨R', o, h⟩ => o pins s σ H x y v u Q I rx ry h
  refine PEw (pe_op hR pe_w pe_w) (h β B H τ tv σ _ S X fun r1 x ρ1 B1 H1 S1 h1 => ?_)
  exact h1 β B1 H1 (r1 :: τ) (x :: tv) σ _ S1 X fun r2 y ρ2 B2 H2 S2 h2 => h2 β B2 H2 τ tv σ x y Q S2 X q
theorem xe_cmp {op : CmpOp} (h : XE c a ρ fun r1 ρ1 => XE c b ρ1 fun r2 ρ2 => OP c (compareOp op) r1 r2 ρ2 P) (hm : behindInMarks op b = false := by first | exact nomark _ | rfl) : XE c (.Compare a [op] [b] pos) ρ P := by
  intro β B H τ tv σ Q S X q
  let R : R2 := fun x y H Q => ∃ R : R2, OpR c.X (compareOp op) R ∧ R x y H Q
  have hR : OpR c.X (compareOp op) R := fun pins s σ H x y v u Q I rx ry ⟨R', o, h⟩ => o pins s σ H x y v u Q I rx ry h
  refine PEw (pe_cmpR hR pe_w pe_w hm) (h β B H τ tv σ _ S X fun r1 x ρ1 B1 H1 S1 h1 => ?_)
  exact h1 β B1 H1 (r1 :: τ) (x :: tv) σ _ S1 X fun r2 y ρ2 B2 H2 S2 h2 => h2 β B2 H2 τ tv σ x y Q S2 X q
/-! ### tests -/
theorem xt_val (h : XE c e ρ fun r ρ' => ∃ b, r = .sh (.bl b) ∧ PB b ρ') (he : ∀ whole, isTrue e c.X.env whole = (do let v ← whole; standAt e.pos; holding [v] (truthy v)) := by intro _; rfl) : XT c e ρ PB := by
  intro β B H τ tv σ Q S X q
  refine PTw (pt_val pe_w he) (h β B H τ tv σ _ S X fun r v ρ' B' H' S' ⟨b, e, p⟩ => ?_)
  subst e
  obtain ⟨⟨v', e1, r1⟩, _⟩ := S'.tm
  cases e1
  cases r1
  exact ⟨b, rfl, q b ρ' B' H' S'.pop p⟩
theorem xt_cmp {op : CmpOp} (h : XE c a ρ fun r1 ρ1 => XE c b ρ1 fun r2 ρ2 => OP c (compareOp op) r1 r2 ρ2 fun r ρ' => ∃ b, r = .sh (.bl b) ∧ PB b ρ') (hm : behindInMarks op b = false := by first | exact nomark _ | rfl) : XT c (.Compare a [op] [b] pos) ρ PB := by
  intro β B H τ tv σ Q S X q
  let R : R2 := fun x y H Q => ∃ R : R2, OpR c.X (compareOp op) R ∧ R x y H Q
  have hR : OpR c.X (compareOp op) R := fun pins s σ H x y v u Q I rx ry ⟨R', o, h⟩ => o pins s σ H x y v u Q I rx ry h
  refine PTw (pt_cmpR hR pe_w pe_w hm) (h β B H τ tv σ _ S X fun r1 x ρ1 B1 H1 S1 h1 => ?_)
  refine h1 β B1 H1 (r1 :: τ) (x :: tv) σ _ S1 X fun r2 y ρ2 B2 H2 S2 h2 => h2 β B2 H2 τ tv σ x y _ S2 X fun r v ρ' B' H' S' ⟨b, e, p⟩ => ?_
  subst e
  obtain ⟨⟨v', e1, r1⟩, _⟩ := S'.tm
  cases e1
  cases r1
  exact ⟨b, rfl, q b ρ' B' H' S'.pop p⟩
theorem xt_not (h : XT c a ρ fun b ρ' => PB (!b) ρ') : XT c (.UnaryOp .Not a pos) ρ PB := fun β B H τ tv σ Q S X q => PTw (pt_not pt_w) (h β B H τ tv σ _ S X fun b ρ' B' H' S' p => q (!b) ρ' B' H' S' p)
theorem xt_bool {op : BoolOp} (h : XW c (.BoolOp op es pos) ρ PB) : XT c (.BoolOp op es pos) ρ PB := fun β B H τ tv σ Q S X q => PTw (PW.pt pw_w) (h β B H τ tv σ Q S X q)
theorem xw_and1 (h : XT c a ρ PB) : XW c (.BoolOp .And [a] pos) ρ PB := fun β B H τ tv σ Q S X q => PWw (pw_and1 pt_w) (h β B H τ tv σ Q S X q)
theorem xw_or1 (h : XT c a ρ PB) : XW c (.BoolOp .Or [a] pos) ρ PB := fun β B H τ tv σ Q S X q => PWw (pw_or1 pt_w) (h β B H τ tv σ Q S X q)
theorem xw_and {rest : List Expr} (h : XT c a ρ fun k ρ' => (k = true → XW c (.BoolOp .And (b :: rest) pos) ρ' PB) ∧ (k = false → PB false ρ')) : XW c (.BoolOp .And (a :: b :: rest) pos) ρ PB := fun β B H τ tv σ Q S X q =>
  PWw (pw_and pt_w pw_w) (h β B H τ tv σ _ S X fun k ρ' B' H' S' p => by
    cases k with
    | true => rw [if_pos rfl]; exact p.1 rfl β B' H' τ tv σ Q S' X q
    | false => rw [if_neg Bool.false_ne_true]; exact q false ρ' B' H' S' (p.2 rfl))
theorem xw_or {rest : List Expr} (h : XT c a ρ fun k ρ' => (k = false → XW c (.BoolOp .Or (b :: rest) pos) ρ' PB) ∧ (k = true → PB true ρ')) : XW c (.BoolOp .Or (a :: b :: rest) pos) ρ PB := fun β B H τ tv σ Q S X q =>
  PWw (pw_or pt_w pw_w) (h β B H τ tv σ _ S X fun k ρ' B' H' S' p => by
    cases k with
    | false => rw [if_neg Bool.false_ne_true]; exact p.1 rfl β B' H' τ tv σ Q S' X q
    | true => rw [if_pos rfl]; exact q true ρ' B' H' S' (p.2 rfl))
/-- and, or, not as values -/
theorem xe_and {rest : List Expr} (h : XE c a ρ fun r ρ' => ∃ k, r = .sh (.bl k) ∧ (k = true → XE c (.BoolOp .And (b :: rest) pos) ρ' P) ∧ (k = false → P (.sh (.bl false)) ρ')) : XE c (.BoolOp .And (a :: b :: rest) pos) ρ P := fun β B H τ tv σ Q S X q =>
  PEw (pe_and pe_w pe_w) (h β B H τ tv σ _ S X fun r v ρ' B' H' S' ⟨k, e, p1, p2⟩ => by
    subst e
    obtain ⟨⟨v', e1, r1⟩, _⟩ := S'.tm
    cases e1
    cases r1
    refine ⟨k, rfl, ?_⟩
    cases k with
    | true => rw [if_pos rfl]; exact p1 rfl β B' H' τ tv σ Q S'.pop X q
    | false => rw [if_neg Bool.false_ne_true]; exact q _ _ ρ' B' H' S' (p2 rfl))
theorem xe_or {rest : List Expr} (h : XE c a ρ fun r ρ' => ∃ k, r = .sh (.bl k) ∧ (k = false → XE c (.BoolOp .Or (b :: rest) pos) ρ' P) ∧ (k = true → P (.sh (.bl true)) ρ')) : XE c (.BoolOp .Or (a :: b :: rest) pos) ρ P := fun β B H τ tv σ Q S X q =>
  PEw (pe_or pe_w pe_w) (h β B H τ tv σ _ S X fun r v ρ' B' H' S' ⟨k, e, p1, p2⟩ => by
    subst e
    obtain ⟨⟨v', e1, r1⟩, _⟩ := S'.tm
    cases e1
    cases r1
    refine ⟨k, rfl, ?_⟩
    cases k with
    | false => rw [if_neg Bool.false_ne_true]; exact p1 rfl β B' H' τ tv σ Q S'.pop X q
    | true => rw [if_pos rfl]; exact q _ _ ρ' B' H' S' (p2 rfl))
theorem xe_bool1 {op : BoolOp} (h : XE c a ρ P) : XE c (.BoolOp op [a] pos) ρ P := fun β B H τ tv σ Q S X q => PEw (pe_one pe_w) (h β B H τ tv σ Q S X q)
theorem xe_not (h : XE c a ρ fun r ρ' => ∃ k, r = .sh (.bl k) ∧ P (.sh (.bl (!k))) ρ') : XE c (.UnaryOp .Not a pos) ρ P := fun β B H τ tv σ Q S X q =>
  PEw (pe_not pe_w) (h β B H τ tv σ _ S X fun r v ρ' B' H' S' ⟨k, e, p⟩ => by
    subst e
    obtain ⟨⟨v', e1, r1⟩, _⟩ := id S'.tm
    cases e1
    cases r1
    exact ⟨k, rfl, q _ _ ρ' B' H' (S'.pop.push (.bl _)) p⟩)
theorem xe_if {t : Expr} (h : XT c t ρ fun k ρ' => (k = true → XE c a ρ' P) ∧ (k = false → XE c b ρ' P)) : XE c (.IfExp t a b pos) ρ P := fun β B H τ tv σ Q S X q =>
  PEw (pe_ifExp pt_w pe_w pe_w) (h β B H τ tv σ _ S X fun k ρ' B' H' S' p => by
    cases k with
    | true => rw [if_pos rfl]; exact p.1 rfl β B' H' τ tv σ Q S' X q
    | false => rw [if_neg Bool.false_ne_true]; exact p.2 rfl β B' H' τ tv σ Q S' X q)

/-! ### arguments, displays -/
theorem SR.rot {K : PySem.W.Frag} {W : Wd} {β : Bs} {B H : Hp} {τ ρ rs : List E} {tv vs : List V} {σ : L2.St} {r : E} {v : V} (l : rs.length = vs.length) (S : SR K W β (rs ++ r :: τ) ρ B H (vs ++ v :: tv) σ) : SR K W β ((r :: rs) ++ τ) ρ B H ((v :: vs) ++ tv) σ := by
  have t := S.tm
  rw [List.map_append] at t
  obtain ⟨t1, t2, t3⟩ := All2.split (by rw [List.length_map]; exact l) t
  refine ⟨S.go, S.b0, S.kb, ?_, S.sl, ?_, S.hr⟩
  · show All2 _ (r :: (rs ++ τ)) ((v :: (vs ++ tv)).map some)
    rw [List.map_cons, List.map_append]
    exact ⟨t2, t1.app t3⟩
  · have p : (r :: (rs ++ τ) ++ ρ).Perm (rs ++ r :: τ ++ ρ) := (List.perm_middle.symm).append_right ρ
    exact ((p.flatMap_right E.ads).nodup_iff).mpr S.nd
theorem xa_nil (k : PL [] ρ) : XA c [] ρ PL := fun β B H τ tv σ Q S X q => PAw pa_nil (q [] [] ρ B H rfl S k)
theorem xa_cons (h : XE c e ρ fun r ρ' => XA c es ρ' fun rs ρ'' => PL (r :: rs) ρ'') (he : ∀ X : Cx, starEach (e :: es) X.env = (false, eval e X.env) :: starEach es X.env := by intro X; exact star_cons rfl) : XA c (e :: es) ρ PL := fun β B H τ tv σ Q S X q =>
  PAw (pa_cons pe_w pa_w (he _)) (h β B H τ tv σ _ S X fun r v ρ' B' H' S' p => p β B' H' (r :: τ) (v :: tv) σ _ S' X fun rs vs ρ'' B'' H'' l S'' p' =>
    q (r :: rs) (v :: vs) ρ'' B'' H'' (congrArg Nat.succ l) (S''.rot l) p')
end
end Dl

/-! ## statements, targets -/
namespace Dl
open PySem PySem.Spec PyProof.Rows L2
theorem sq_l {K : PySem.W.Frag} {H : Hp} {a : Addr} {xs : List V} (h : H a = some (.lst xs)) : SqL K H a xs := .inl (.inl h)
theorem sq_t {K : PySem.W.Frag} {H : Hp} {a : Addr} {xs : List V} (h : H a = some (.tup xs)) : SqT K H a xs := .inl (.inl h)
/-- the item as data (one's own is made known) -/
def AsD (r : E) (f : D → Prop) : Prop := match r with
  | .sh d => f d
  | .ow _ d => f d
  | _ => False
section
variable {K : PySem.W.Frag} {W : Wd} {β : Bs} {B H : Hp} {τ ρ : List E} {tv : List V} {σ : L2.St} {r : E} {v : V} {d : D} {i : Nat} {p : Addr}
theorem AsD.go {f : D → Prop} (h : AsD r f) (S : SR K W β (r :: τ) ρ B H (v :: tv) σ) : ∃ d B', f d ∧ SR K W β (.sh d :: τ) ρ B' H (v :: tv) σ := by
  cases r with
  | sh d => exact ⟨d, B, h, S⟩
  | ow p d =>
    obtain ⟨B', S'⟩ := S.share
    exact ⟨d, B', h, S'⟩
  | _ => exact h.elim
theorem SR.rep (S : SR K W β (.sh d :: τ) ρ B H (v :: tv) σ) : Rep K B v d := by
  obtain ⟨⟨v', e, r⟩, _⟩ := S.tm
  cases e
  exact r
theorem SR.repH (S : SR K W β (.sh d :: τ) ρ B H (v :: tv) σ) : Rep K H v d := S.rep.mono S.go.ext
/-- what may be read: shared data, or one's own by its slot -/
def Rdr (ρ : List E) : E → D → Prop
  | .sh d, d' => d = d'
  | .ow _ d, d' => d = d'
  | .vr i, d' => ∃ p, ρ[i]? = some (.ow p d') ∨ ρ[i]? = some (.ro p d')
  | .ro _ d, d' => d = d'
  | .no, _ => False
  | .dr _ _ _ _, _ => False
theorem SR.slot (S : SR K W β τ ρ B H tv σ) {e : E} (h : ρ[i]? = some e) : ∃ o, σ[i]? = some o ∧ SlotOk K W β.H0 B H σ e o := S.sl.at h
theorem SlotOk.rd {e : E} (sl : All2 (SlotOk K W β.H0 B H σ) ρ σ) (h : SlotOk K W β.H0 B H σ e (some v)) (q : Rdr ρ e d) : Rep K B v d ∨ ∃ p, v = .ref p ∧ Own K B H p d := by
  cases e with
  | no => exact q.elim
  | dr _ _ _ _ => exact q.elim
  | sh d' =>
    have q' : d' = d := q
    subst q'
    obtain ⟨v', e1, r⟩ := h
    cases e1
    exact .inl r
  | ow p d' =>
    have q' : d' = d := q
    subst q'
    obtain ⟨e1, w, _⟩ := h
    cases e1
    exact .inr ⟨p, rfl, w⟩
  | ro p d' =>
    have q' : d' = d := q
    subst q'
    obtain ⟨e1, w, _⟩ := h
    cases e1
    exact .inr ⟨p, rfl, w⟩
  | vr i =>
    obtain ⟨p, q⟩ := q
    obtain ⟨v', e1, z⟩ := h
    cases e1
    rcases q with q | q
    · obtain ⟨o, ho, e2, w, _⟩ := sl.at q
      rw [ho, e2] at z
      cases z
      exact .inr ⟨p, rfl, w⟩
    · obtain ⟨o, ho, e2, w, _⟩ := sl.at q
      rw [ho, e2] at z
      cases z
      exact .inr ⟨p, rfl, w⟩
theorem rd_lst {vs : List D} (h : Rep K B v (.lst vs) ∨ ∃ p, v = .ref p ∧ Own K B H p (.lst vs)) (e : Ex B H) : ∃ a xs, v = .ref a ∧ H a = some (.lst xs) ∧ Reps K B xs vs := by
  rcases h with h | ⟨p, rfl, _, xs, q, r⟩
  · cases h with
    | lst q r => exact ⟨_, _, rfl, e _ _ q, r⟩
  · exact ⟨p, xs, rfl, q, r⟩
theorem rd_tup {vs : List D} (h : Rep K B v (.tup vs) ∨ ∃ p, v = .ref p ∧ Own K B H p (.tup vs)) (e : Ex B H) : ∃ a xs, v = .ref a ∧ H a = some (.tup xs) ∧ Reps K B xs vs := by
  rcases h with h | ⟨p, rfl, z⟩
  · cases h with
    | tup q r => exact ⟨_, _, rfl, e _ _ q, r⟩
  · exact z.elim
theorem rd_dK {vs : List (Key × D)} (h : Rep K B v (.dK vs) ∨ ∃ p, v = .ref p ∧ Own K B H p (.dK vs)) (e : Ex B H) : ∃ a kvs, v = .ref a ∧ Rd H a (.dK kvs) ∧ kvs.map (·.1) = vs.map (·.1) ∧ Reps K B (kvs.map (·.2)) (vs.map (·.2)) := by
  rcases h with h | ⟨p, rfl, _, xs, q, k, r⟩
  · cases h with
    | dK q k r => exact ⟨_, _, rfl, e.rd q, k, r⟩
  · exact ⟨p, xs, rfl, .inl q, k, r⟩
theorem rd_dT {vs : List (List Key × D)} (h : Rep K B v (.dT vs) ∨ ∃ p, v = .ref p ∧ Own K B H p (.dT vs)) (e : Ex B H) : ∃ a kvs, v = .ref a ∧ Rd H a (.dT kvs) ∧ kvs.map (·.1) = vs.map (·.1) ∧ Reps K B (kvs.map (·.2)) (vs.map (·.2)) := by
  rcases h with h | ⟨p, rfl, _, xs, q, k, r⟩
  · cases h with
    | dT q k r => exact ⟨_, _, rfl, e.rd q, k, r⟩
  · exact ⟨p, xs, rfl, .inl q, k, r⟩
theorem cnt_set (a : Addr) (r : E) : ∀ (l : List E) (i : Nat), ((l.set i r).flatMap E.ads).count a ≤ r.ads.count a + (l.flatMap E.ads).count a
  | [], _ => Nat.zero_le _
  | x :: l, 0 => by
    show (r.ads ++ l.flatMap E.ads).count a ≤ r.ads.count a + (x.ads ++ l.flatMap E.ads).count a
    rw [List.count_append, List.count_append]
    omega
  | x :: l, i + 1 => by
    have ih := cnt_set a r l i
    show (x.ads ++ (l.set i r).flatMap E.ads).count a ≤ r.ads.count a + (x.ads ++ l.flatMap E.ads).count a
    rw [List.count_append, List.count_append]
    omega
theorem cnt_out (a : Addr) {e : E} : ∀ {l : List E} {i : Nat}, l[i]? = some e → e.ads.count a + ((l.set i .no).flatMap E.ads).count a = (l.flatMap E.ads).count a
  | [], _, h => by simp at h
  | x :: l, 0, h => by
    have h : x = e := by simpa using h
    subst h
    show x.ads.count a + (([] : List Addr) ++ l.flatMap E.ads).count a = (x.ads ++ l.flatMap E.ads).count a
    rw [List.count_append, List.count_append] <;> simp
  | x :: l, i + 1, h => by
    have ih := cnt_out a (l := l) (i := i) (by simpa using h)
    show e.ads.count a + (x.ads ++ (l.set i .no).flatMap E.ads).count a = (x.ads ++ l.flatMap E.ads).count a
    rw [List.count_append, List.count_append]
    omega
theorem nodup_set {l : List E} {r : E} (h : ((r :: l).flatMap E.ads).Nodup) (i : Nat) : ((l.set i r).flatMap E.ads).Nodup := by
  rw [List.nodup_iff_count] at h ⊢
  intro a
  have h1 : (r.ads ++ l.flatMap E.ads).count a ≤ 1 := h a
  rw [List.count_append] at h1
  exact Nat.le_trans (cnt_set a r l i) h1
theorem nodup_out {l : List E} {e : E} {i : Nat} (h : l[i]? = some e) (n : (l.flatMap E.ads).Nodup) : ((e :: l.set i .no).flatMap E.ads).Nodup := by
  rw [List.nodup_iff_count] at n ⊢
  intro a
  show (e.ads ++ (l.set i .no).flatMap E.ads).count a ≤ 1
  rw [List.count_append, cnt_out a h]
  exact n a
theorem nodup_set0 {l : List E} {e : E} (he : e.ads = []) (h : (l.flatMap E.ads).Nodup) (i : Nat) : ((l.set i e).flatMap E.ads).Nodup := nodup_set (r := e) (by
  show (e.ads ++ l.flatMap E.ads).Nodup
  rw [he]
  exact h) i
/-- a slot's value is changed: what else is said of the slots (no vr stands in a slot's item) -/
theorem SlotOk.resig {H0 : Hp} {e : E} {o : Option V} {σ' : L2.St} (n : e.here) (h : SlotOk K W H0 B H σ e o) : SlotOk K W H0 B H σ' e o := by
  cases e with
  | vr i => exact n.elim
  | _ => exact h
end
theorem here_set {ρ : List E} (h : ∀ e ∈ ρ, e.here) {e : E} (he : e.here) (i : Nat) : ∀ x ∈ ρ.set i e, x.here := fun x m => by
  rcases List.mem_or_eq_of_mem_set m with z | z
  · exact h x z
  · rw [z]; exact he
section
variable {K : PySem.W.Frag} {W : Wd} {β : Bs} {B H : Hp} {τ ρ : List E} {tv : List V} {σ : L2.St} {r : E} {v : V} {d : D} {i : Nat} {p : Addr}
theorem SR.store (S : SR K W β [r] ρ B H [v] σ) (hr : r.here) (i : Nat) : SR K W β [] (ρ.set i r) B H [] (σ.set i (some v)) := by
  refine ⟨S.go, S.b0, S.kb, trivial, ?_, ?_, here_set S.hr hr i⟩
  · have z : All2 (SlotOk K W β.H0 B H (σ.set i (some v))) ρ σ := S.sl.imp fun e m o q => q.resig (S.hr e m)
    exact z.set i (S.tm.1.resig hr)
  · exact nodup_set S.nd i
/-- a slot is forgotten -/
theorem SR.clear (S : SR K W β [] ρ B H [] σ) (i : Nat) (o : Option V) : SR K W β [] (ρ.set i .no) B H [] (σ.set i o) :=
  ⟨S.go, S.b0, S.kb, trivial, (S.sl.imp fun e m o q => q.resig (S.hr e m)).set i trivial, nodup_set0 (e := .no) rfl S.nd i, here_set (e := .no) S.hr trivial i⟩
/-- a slot's own object is made known -/
theorem SR.shareSlot (S : SR K W β [] ρ B H [] σ) (h : ρ[i]? = some (.ow p d)) : ∃ B', SR K W β [] (ρ.set i (.sh d)) B' H [] σ := by
  obtain ⟨o, ho, e, w, z⟩ := S.sl.at h
  -- the slot's item as a temporary, the slot emptied
  have nd : ((E.ow p d :: ρ.set i .no).flatMap E.ads).Nodup := nodup_out h S.nd
  have S1 : SR K W β [.ow p d] (ρ.set i .no) B H [.ref p] σ := ⟨S.go, S.b0, S.kb, ⟨⟨rfl, w, z⟩, trivial⟩, S.sl.set1 i fun _ _ => trivial, nd, here_set (e := .no) S.hr trivial i⟩
  obtain ⟨B', S2⟩ := S1.share
  have hv := S2.rep
  have e2 : (ρ.set i .no).set i (.sh d) = ρ.set i (.sh d) := List.set_set ..
  refine ⟨B', ⟨S2.go, S2.b0, S2.kb, trivial, ?_, ?_, here_set (e := .sh d) S.hr trivial i⟩⟩
  · have q := S2.sl.set1 (a := E.sh d) i fun b hb => by
      rw [ho, e] at hb
      cases hb
      exact ⟨_, rfl, hv⟩
    rw [e2] at q
    exact q
  · have q := nodup_set0 (l := ρ.set i .no) (e := E.sh d) rfl S2.pop.nd i
    rw [e2] at q
    exact q
end

section
variable {c : DC} {e a b f t : Expr} {es : List Expr} {ρ : List E} {P P' : E → List E → Prop} {PB : Bool → List E → Prop} {PL : List E → List E → Prop} {pos : Pos} {x : Str} {i : Nat} {d : D} {T : Tg} {st : Stmt} {sts sts' : List Stmt} {p : Addr}
/-! ### blocks -/
theorem xb_nil (k : T.nx ρ) : XB c [] ρ T := fun β B H σ D S X q => PBw pss_nil (q.nx ρ B H σ S k)
theorem xb_cons (h : XS c st ρ { T with nx := fun ρ' => XB c sts ρ' T }) : XB c (st :: sts) ρ T := fun β B H σ D S X q =>
  PBw (pss_cons ps_w pb_w) (h β B H σ { D with nx := wB c.X sts D } S X ⟨fun ρ' B' H' σ' S' k => k β B' H' σ' D S' X q, q.rt, q.bk, q.ct⟩)
theorem XB.imp {T' : Tg} (h : XB c sts ρ T) (h1 : ∀ ρ, T.nx ρ → T'.nx ρ) (h2 : ∀ r ρ, T.rt r ρ → T'.rt r ρ) (h3 : ∀ ρ, T.bk ρ → T'.bk ρ) (h4 : ∀ ρ, T.ct ρ → T'.ct ρ) : XB c sts ρ T' := fun β B H σ D S X q =>
  h β B H σ D S X ⟨fun ρ B H σ S k => q.nx ρ B H σ S (h1 ρ k), fun r v ρ B H σ S k => q.rt r v ρ B H σ S (h2 r ρ k), fun ρ B H σ S k => q.bk ρ B H σ S (h3 ρ k), fun ρ B H σ S k => q.ct ρ B H σ S (h4 ρ k)⟩
/-- an own object is made known for good -/
theorem xb_sh (i : Nat) (p : Addr) (d : D) (h : ρ[i]? = some (.ow p d)) (k : XB c sts (ρ.set i (.sh d)) T) : XB c sts ρ T := fun β B H σ D S X q => by
  obtain ⟨B', S'⟩ := S.shareSlot h
  exact k β B' H σ D S' X q
theorem xs_pass (k : T.nx ρ) : XS c (.Pass pos) ρ T := fun β B H σ D S X q => PSw ps_pass (q.nx ρ B H σ S k)
theorem xs_break (k : T.bk ρ) : XS c (.Break pos) ρ T := fun β B H σ D S X q => PSw ps_break (q.bk ρ B H σ S k)
theorem xs_continue (k : T.ct ρ) : XS c (.Continue pos) ρ T := fun β B H σ D S X q => PSw ps_continue (q.ct ρ B H σ S k)
theorem xs_ret (h : XE c e ρ fun r ρ' => T.rt r ρ') : XS c (.Return (some e) pos) ρ T := fun β B H σ D S X q => PSw (ps_ret pe_w) (h β B H [] [] σ _ S (X σ) fun r v ρ' B' H' S' k => q.rt r v ρ' B' H' σ S' k)
theorem xs_retN (h : T.rt (.sh .non) ρ) : XS c (.Return none pos) ρ T := fun β B H σ D S X q => PSw ps_retN (q.rt _ _ ρ B H σ (S.push .non) h)
theorem xs_expr (h : XE c e ρ fun _ ρ' => T.nx ρ') (hs : swapsWith e none pos.line c.X.env = pure false := by rfl) : XS c (.Expr e pos) ρ T := fun β B H σ D S X q =>
  PSw (ps_expr pe_w hs) (h β B H [] [] σ _ S (X σ) fun r v ρ' B' H' S' k => q.nx ρ' B' H' σ S'.pop k)
theorem xs_if {u : List Stmt} (h : XT c t ρ fun k ρ' => (k = true → XB c sts ρ' T) ∧ (k = false → XB c u ρ' T)) : XS c (.If t sts u pos) ρ T := fun β B H σ D S X q =>
  PSw (ps_if pt_w pb_w pb_w) (h β B H [] [] σ _ S (X σ) fun k ρ' B' H' S' p => by
    cases k with
    | true => rw [if_pos rfl]; exact p.1 rfl β B' H' σ D S' X q
    | false => rw [if_neg Bool.false_ne_true]; exact p.2 rfl β B' H' σ D S' X q)
/-- x = e -/
theorem xs_set {pos' : Pos} (i : Nat) (h : XE c e ρ fun r ρ' => r.here ∧ T.nx (ρ'.set i r)) (hN : c.X.N.Nodup) (hi : c.X.N[i]? = some x := by rfl) (hx : Loc c.X.env.scope x := by first | exact .inl rfl | exact .inr rfl)
    (hs : swapsWith e (some (.Name x pos')) pos.line c.X.env = pure false := by rfl) (hf : c.X.fn x = true ∨ c.X.env.scope.names.lookup x = some .local := by first | exact .inl rfl | exact .inr rfl) : XS c (.Assign [.Name x pos'] e pos) ρ T := fun β B H σ D S X q =>
  PSw (ps_set hN hi hx pe_w hs hf) (h β B H [] [] σ _ S (X σ) fun r v ρ' B' H' S' ⟨k1, k3⟩ => q.nx _ B' H' _ (S'.store k1 i) k3)
end
end Dl

/-! ## targets, loops, comprehensions -/
namespace Dl
open PySem PySem.Spec PyProof.Rows L2
theorem wipe_set {i : Nat} {o : Option V} : ∀ {vs : List Nat} {σ : L2.St}, i ∈ vs → wipe (σ.set i o) vs = wipe σ vs
  | v :: vs, σ, h => by
    by_cases e : i ∈ vs
    · show (wipe (σ.set i o) vs).set v none = (wipe σ vs).set v none
      rw [wipe_set e]
    · have e2 : i = v := (List.mem_cons.mp h).resolve_right e
      subst e2
      have k : ∀ (ws : List Nat) (σ : L2.St), i ∉ ws → wipe (σ.set i o) ws = (wipe σ ws).set i o := by
        intro ws
        induction ws with
        | nil => intro σ _; rfl
        | cons w ws ih =>
          intro σ hn
          have n1 : i ≠ w := fun z => hn (by rw [z]; exact List.mem_cons_self ..)
          show (wipe (σ.set i o) ws).set w none = ((wipe σ ws).set w none).set i o
          rw [ih σ (fun m => hn (List.mem_cons_of_mem _ m)), List.set_comm _ _ n1]
      show (wipe (σ.set i o) vs).set i none = (wipe σ vs).set i none
      rw [k vs σ e, List.set_set]
section
variable {K : PySem.W.Frag} {W : Wd} {β : Bs} {B H : Hp} {τ ρ : List E} {tv : List V} {σ : L2.St}
/-- names of a block's own are forgotten in the items as in the slots -/
def wipeE (ρ : List E) : List Nat → List E
  | [] => ρ
  | v :: vs => (wipeE ρ vs).set v .no
theorem SR.wipe (S : SR K W β [] ρ B H [] σ) : ∀ vs : List Nat, SR K W β [] (wipeE ρ vs) B H [] (L2.wipe σ vs)
  | [] => S
  | v :: vs => (SR.wipe S vs).clear v none
/-- one's own objects, to be read alone: for code that runs from here as from an entry -/
def E.fz : E → E
  | .ow p d => .ro p d
  | .dr _ _ _ _ => .no
  | e => e
theorem SR.fz (S : SR K W β τ ρ B H tv σ) : SR K W ⟨B, H, B⟩ [] (ρ.map E.fz) B H [] σ := by
  refine ⟨.refl S.go.ext S.go.ok S.go.nf, S.go.ext, .refl B, trivial, ?_, ?_, ?_⟩
  · have key : ∀ {l : List E} {vs : List (Option V)}, (∀ e ∈ l, e.here) → All2 (SlotOk K W β.H0 B H σ) l vs → All2 (SlotOk K W H B H σ) (l.map E.fz) vs := by
      intro l
      induction l with
      | nil =>
        intro vs _ h
        cases vs with
        | nil => trivial
        | cons _ _ => exact h.elim
      | cons e l ih =>
        intro vs hh h
        cases vs with
        | nil => exact h.elim
        | cons v vs =>
          refine ⟨?_, ih (fun x m => hh x (List.mem_cons_of_mem _ m)) h.2⟩
          have h1 := h.1
          cases e with
          | no => trivial
          | sh d => exact h1
          | vr i => exact (hh _ (List.mem_cons_self ..)).elim
          | ow p d =>
            obtain ⟨a, b, z⟩ := h1
            exact ⟨a, b, b.hs, fun f => W.al _ S.go.ok0 _ f z⟩
          | ro p d =>
            obtain ⟨a, b, z, f⟩ := h1
            exact ⟨a, b, b.hs, f⟩
          | dr A w cc n => trivial
    exact key S.hr S.sl
  · have key : ∀ l : List E, (([] ++ l.map E.fz).flatMap E.ads) = [] := by
      intro l
      induction l with
      | nil => rfl
      | cons e l ih =>
        cases e with
        | _ => exact ih
    rw [key]
    exact List.nodup_nil
  · intro e m
    obtain ⟨x, mx, rfl⟩ := List.mem_map.mp m
    have h := S.hr x mx
    cases x with
    | vr i => exact h.elim
    | _ => trivial
end

/-! ### targets: a shared value is stored; vs: the slots that may be changed -/
def wG (X : Cx) (tg : Expr) : TG := fun v σ H Q => ∀ (pins : List (Addr × Obj)) (s : Shared) (u : Value), Inv X pins σ H s → RelV v u → wpAny (model X.prog X.w) X.A (assign tg X.env u) (fun _ s' => ∃ σ' H', Inv X pins σ' H' s' ∧ Q σ' H') X.xe s
theorem pg_w {X : Cx} {tg : Expr} : PG X tg (wG X tg) := ⟨fun pins s _ _ _ u _ I r h => h pins s u I r⟩
theorem PGw {X : Cx} {tg : Expr} {g : TG} {v : V} {σ : L2.St} {H : Hp} {Q : L2.St → Hp → Prop} (p : PG X tg g) (h : g v σ H Q) : wG X tg v σ H Q := fun pins s u I r => p.run pins s σ H v u Q I r h
def XG (c : DC) (vs : List Nat) (tg : Expr) (d : D) (ρ : List E) (N : List E → Prop) : Prop := ∀ (β : Bs) (B H : Hp) (σ : L2.St) (v : V) (Q : L2.St → Hp → Prop), SR c.X.K c.W β [] ρ B H [] σ → Rep c.X.K B v d →
  (∀ ρ' σ', SR c.X.K c.W β [] ρ' B H [] σ' → L2.wipe σ' vs = L2.wipe σ vs → N ρ' → Q σ' H) → wG c.X tg v σ H Q
def XGs (c : DC) (vs : List Nat) (tgs : List Expr) (ds : List D) (ρ : List E) (N : List E → Prop) : Prop := ∃ t : TGs, PGs c.X tgs t ∧ ∀ (β : Bs) (B H : Hp) (σ : L2.St) (ws : List V) (Q : L2.St → Hp → Prop), SR c.X.K c.W β [] ρ B H [] σ → Reps c.X.K B ws ds →
  (∀ ρ' σ', SR c.X.K c.W β [] ρ' B H [] σ' → L2.wipe σ' vs = L2.wipe σ vs → N ρ' → Q σ' H) → t ws σ H Q
section
variable {c : DC} {vs : List Nat} {tg : Expr} {tgs : List Expr} {d : D} {ds : List D} {ρ : List E} {N : List E → Prop} {x : Str} {pos : Pos}
theorem xg_nm (i : Nat) (k : N (ρ.set i (.sh d))) (hN : c.X.N.Nodup) (hv : i ∈ vs := by decide) (hi : c.X.N[i]? = some x := by rfl) (hx : Loc c.X.env.scope x := by first | exact .inl rfl | exact .inr rfl)
    (hf : c.X.fn x = true ∨ c.X.env.scope.names.lookup x = some .local := by first | exact .inl rfl | exact .inr rfl) : XG c vs (.Name x pos) d ρ N := fun β B H σ v Q S r q =>
  PGw (pg_name hN hi hx hf) (q _ _ ((S.push r).store trivial i) (wipe_set hv) k)
theorem xgs_nil (k : N ρ) : XGs c vs [] [] ρ N := ⟨gNil, pgs_nil, fun β B H σ ws Q S r q => by
  cases r
  exact ⟨rfl, q ρ σ S rfl k⟩⟩
theorem xgs_cons (h : XG c vs tg d ρ fun ρ1 => True) : True := trivial
/-- several names -/
theorem xgs_nm (i : Nat) (h : XGs c vs tgs ds (ρ.set i (.sh d)) N) (hN : c.X.N.Nodup) (hv : i ∈ vs := by decide) (hi : c.X.N[i]? = some x := by rfl) (hx : Loc c.X.env.scope x := by first | exact .inl rfl | exact .inr rfl)
    (hf : c.X.fn x = true ∨ c.X.env.scope.names.lookup x = some .local := by first | exact .inl rfl | exact .inr rfl)
    (hs : ∀ X : Cx, (assignEach (.Name x pos :: tgs) X.env).map (·.2) = assign (.Name x pos) X.env :: (assignEach tgs X.env).map (·.2) := by intro _; rfl) : XGs c vs (.Name x pos :: tgs) (d :: ds) ρ N := by
  obtain ⟨t, p, g⟩ := h
  refine ⟨gCons (gName i) t, pgs_cons (pg_name hN hi hx hf) p (hs _), fun β B H σ ws Q S r q => ?_⟩
  cases r with
  | cons r rs => exact ⟨_, _, rfl, g β B H _ _ Q ((S.push r).store trivial i) rs fun ρ' σ' S' w n => q ρ' σ' S' (w.trans (wipe_set hv)) n⟩
theorem xg_tup {k : Nat} (h : XGs c vs tgs ds ρ N) (hc : c.X.calm = true := by rfl) (hl : tgs.length = ds.length := by rfl)
    (hn : (assignEach tgs c.X.env).length = tgs.length := by rfl) (hst : (assignEach tgs c.X.env).findIdx? (·.1) = none := by rfl) : XG c vs (.Tuple tgs k pos) (.tup ds) ρ N := by
  obtain ⟨t, p, g⟩ := h
  intro β B H σ v Q S r q
  cases r with
  | tup e r => exact PGw (pg_tup hc p hn hst) ⟨_, _, rfl, sq_t (S.go.ext _ _ e), by rw [r.len, hl], g β B H σ _ Q S r q⟩
end

/-! ### what is walked: it gives the data ds, one after another -/
def Yd (K : PySem.W.Frag) (B1 : Hp) (Y : Nat → Hp → V → Hp → Prop) (ds : List D) : Prop := ∀ i d H B x H', ds[i]? = some d → Ex B1 B → Ex B H → Y i H x H' →
  (H' = H ∧ Rep K B x d) ∨ ∃ T o, x = .ref T ∧ H T = none ∧ H' = upd H T o ∧ Rep K (upd B T o) (.ref T) d
def XI (c : DC) (tg it : Expr) (ρ : List E) (P : List D → List E → Prop) : Prop := ∀ (β : Bs) (B H : Hp) (τ : List E) (tv : List V) (σ : L2.St) (R : It → Hp → Prop), SR c.X.K c.W β τ ρ B H tv σ → XOk c β σ →
  (∀ J n G Y ds ρ' B' H', SR c.X.K c.W β τ ρ' B' H' tv σ → Walk J n G Y → ds.length = n → (∀ B2 H2, Ex B' B2 → Ex B2 H2 → G H2) → Yd c.X.K B' Y ds → P ds ρ' → R J H') → ∃ wi, PI c.X tg it wi ∧ wi σ H R
section
variable {c : DC} {tg it e a b : Expr} {es : List Expr} {ρ : List E} {P : List D → List E → Prop} {pos p : Pos} {T : Tg} {body : List Stmt}
theorem yd_at {K : PySem.W.Frag} {B : Hp} {xs : List V} {ds : List D} (r : Reps K B xs ds) : Yd K B (YAt xs) ds := fun i d H B2 x H' e e1 e2 y => by
  obtain ⟨h, y⟩ := y
  obtain ⟨v, hv, rv⟩ := r.at e
  rw [hv] at y
  cases y
  exact .inl ⟨h, rv.mono e1⟩
/-- over a list; a tuple; the script; a text -/
theorem xi_lst (h : XE c e ρ fun r ρ' => ∃ ds, AsD r (fun d => d = .lst ds) ∧ P ds ρ') : XI c tg e ρ P := fun β B H τ tv σ R S X q => by
  refine ⟨iList c.X.K (wE c.X e), pi_list pe_w, h β B H τ tv σ _ S X fun r v ρ' B' H' S' ⟨ds, hd, p⟩ => ?_⟩
  obtain ⟨d, B2, rfl, S2⟩ := hd.go S'
  have rp := S2.rep
  cases rp with
  | lst ea r =>
    refine ⟨_, rfl, ⟨_, sq_l (S2.go.ext _ _ ea)⟩, q _ _ _ _ ds ρ' B2 H' S2.pop walk_list r.len.symm (fun B3 H3 e1 e2 => sq_l (e2 _ _ (e1 _ _ ea))) (yd_at r) p⟩
theorem xi_tup (h : XE c e ρ fun r ρ' => ∃ ds, AsD r (fun d => d = .tup ds) ∧ P ds ρ') : XI c tg e ρ P := fun β B H τ tv σ R S X q => by
  refine ⟨iTup c.X.K (wE c.X e), pi_tup pe_w, h β B H τ tv σ _ S X fun r v ρ' B' H' S' ⟨ds, hd, p⟩ => ?_⟩
  obtain ⟨d, B2, rfl, S2⟩ := hd.go S'
  have rp := S2.rep
  cases rp with
  | tup ea r =>
    refine ⟨_, rfl, ⟨_, sq_t (S2.go.ext _ _ ea)⟩, q _ _ _ _ ds ρ' B2 H' S2.pop walk_tup r.len.symm (fun B3 H3 e1 e2 => sq_t (e2 _ _ (e1 _ _ ea))) (yd_at r) p⟩
theorem reps_ints {K : PySem.W.Frag} {B : Hp} : ∀ ns : List Int, Reps K B (ns.map V.int) (ns.map D.int)
  | [] => .nil
  | n :: ns => .cons (.int n) (reps_ints ns)
theorem xi_frl (h : XE c e ρ fun r ρ' => ∃ ns, AsD r (fun d => d = .frl ns) ∧ P (ns.map D.int) ρ') : XI c tg e ρ P := fun β B H τ tv σ R S X q => by
  refine ⟨iList c.X.K (wE c.X e), pi_list pe_w, h β B H τ tv σ _ S X fun r v ρ' B' H' S' ⟨ns, hd, p⟩ => ?_⟩
  obtain ⟨d, B2, rfl, S2⟩ := hd.go S'
  have rp := S2.rep
  cases rp with
  | frl ea =>
    refine ⟨_, rfl, ⟨_, S2.go.ext.sl ea⟩, q _ _ _ _ (ns.map D.int) ρ' B2 H' S2.pop walk_list (by rw [List.length_map, List.length_map]) (fun B3 H3 e1 e2 => e2.sl (e1.sl ea)) (yd_at (reps_ints ns)) p⟩
/-- a text's signs -/
def signs (z : Str) : List D := z.cps.toList.map fun n => .str ⟨#[n]⟩
theorem xi_str (h : XE c e ρ fun r ρ' => ∃ z, r = .sh (.str z) ∧ P (signs z) ρ') : XI c tg e ρ P := fun β B H τ tv σ R S X q => by
  refine ⟨iStr (wE c.X e), pi_str pe_w, h β B H τ tv σ _ S X fun r v ρ' B' H' S' ⟨z, hd, p⟩ => ?_⟩
  subst hd
  have rp := S'.rep
  cases rp
  refine ⟨z, rfl, q _ _ _ _ (signs z) ρ' B' H' S'.pop walk_str (by simp [signs]) (fun _ _ _ _ => trivial) (fun i d H2 B2 x H3 e e1 e2 y => ?_) p⟩
  obtain ⟨y1, n, y2, rfl⟩ := y
  refine .inl ⟨y1, ?_⟩
  have z2 : d = .str ⟨#[n]⟩ := by
    unfold signs at e
    rw [List.getElem?_map, Array.getElem?_toList, y2] at e
    exact (Option.some.inj e).symm
  rw [z2]
  exact .str _
/-- range(n), range(a, b) -/
def intsD (lo : Int) (n : Nat) : List D := (List.range n).map fun i => .int (lo + (i : Nat))
theorem yd_ints {K : PySem.W.Frag} {B : Hp} (lo : Int) (n : Nat) : Yd K B (YFn fun i => .int (lo + (i : Nat))) (intsD lo n) := fun i d H B2 x H' e e1 e2 y => by
  obtain ⟨y1, rfl⟩ := y
  refine .inl ⟨y1, ?_⟩
  have z : d = .int (lo + (i : Nat)) := by
    unfold intsD at e
    rw [List.getElem?_map] at e
    by_cases hi : i < n
    · rw [List.getElem?_range hi] at e
      exact (Option.some.inj e).symm
    · rw [List.getElem?_eq_none (by simp; omega)] at e
      cases e
  rw [z]
  exact .int _
theorem intsD_len (lo : Int) (n : Nat) : (intsD lo n).length = n := by simp [intsD]
theorem xi_range (hm : c.X.mg "range" = none) (h : XA c [a] ρ fun rs ρ' => ∃ n : Int, rs = [.sh (.int n)] ∧ -(2 ^ 62) ≤ n ∧ n < 2 ^ 62 ∧ P (intsD 0 n.toNat) ρ') (hg : Gl c.X "range" := by rfl) (hs : ∀ X : Cx, starEach [a] X.env = [(false, eval a X.env)] := by intro _; rfl) :
    XI c tg (.Call (.Name "range" p) [a] [] pos) ρ P := fun β B H τ tv σ R S X q => by
  refine ⟨iRng1 (wA c.X [a]), pi_range1 hg hm pa_w (hs _), h β B H τ tv σ _ S X fun rs vs ρ' B' H' l S' ⟨n, hd, h1, h2, p⟩ => ?_⟩
  subst hd
  match vs, l with
  | [v], _ =>
    have S1 : SR c.X.K c.W β (.sh (.int n) :: τ) ρ' B' H' (v :: tv) σ := S'
    have rp := S1.rep
    cases rp
    exact ⟨n, rfl, h1, h2, q _ _ _ _ (intsD 0 n.toNat) ρ' B' H' S1.pop walk_range (intsD_len _ _) (fun _ _ _ _ => trivial) (yd_ints 0 _) p⟩
theorem xi_range2 (hm : c.X.mg "range" = none) (h : XA c [a, b] ρ fun rs ρ' => ∃ m n : Int, rs = [.sh (.int m), .sh (.int n)] ∧ (-(2 ^ 62) ≤ m ∧ m < 2 ^ 62 ∧ -(2 ^ 62) ≤ n ∧ n < 2 ^ 62) ∧ P (intsD m (n - m).toNat) ρ') (hg : Gl c.X "range" := by rfl)
    (hs : ∀ X : Cx, starEach [a, b] X.env = [(false, eval a X.env), (false, eval b X.env)] := by intro _; rfl) (hs2 : ∀ X : Cx, starEach [b] X.env = [(false, eval b X.env)] := by intro _; rfl) :
    XI c tg (.Call (.Name "range" p) [a, b] [] pos) ρ P := fun β B H τ tv σ R S X q => by
  refine ⟨iRng2 (wA c.X [a, b]), pi_range2 hg hm pa_w (hs _) (hs2 _), h β B H τ tv σ _ S X fun rs vs ρ' B' H' l S' ⟨m, n, hd, h1, p⟩ => ?_⟩
  subst hd
  match vs, l with
  | [v, w], _ =>
    have S1 : SR c.X.K c.W β (.sh (.int m) :: .sh (.int n) :: τ) ρ' B' H' (v :: w :: tv) σ := S'
    have rp := S1.rep
    have rq := S1.pop.rep
    cases rp
    cases rq
    exact ⟨m, n, rfl, h1, q _ _ _ _ (intsD m (n - m).toNat) ρ' B' H' S1.pop.pop walk_range (intsD_len _ _) (fun _ _ _ _ => trivial) (yd_ints m _) p⟩
/-- a turn's value is put into the state -/
theorem SR.turn {K : PySem.W.Frag} {W : Wd} {β : Bs} {B1 B H H' : Hp} {τ ρ : List E} {tv : List V} {σ : L2.St} {Y : Nat → Hp → V → Hp → Prop} {ds : List D} {i : Nat} {d : D} {x : V} (y : Yd K B1 Y ds) (S : SR K W β τ ρ B H tv σ) (e : Ex B1 B) (hd : ds[i]? = some d) (hy : Y i H x H') :
    ∃ B', Ex B1 B' ∧ SR K W β (.sh d :: τ) ρ B' H' (x :: tv) σ := by
  rcases y i d H B x H' hd e S.go.ext hy with ⟨rfl, r⟩ | ⟨T, o, rfl, hT, rfl, r⟩
  · exact ⟨B, e, S.push r⟩
  · have hb : B T = none := S.go.ext.none hT
    exact ⟨upd B T o, e.trans (.up hb), S.newK hT r⟩
/-- for x in it: body, by a word I of the turn and the items -/
theorem xs_for (vs : List Nat) (h : XI c tg it ρ fun ds ρ1 => ∃ I : Nat → List E → Prop, I 0 ρ1 ∧ (∀ i d ρ, ds[i]? = some d → I i ρ → XG c vs tg d ρ fun ρ2 => XB c body ρ2 { nx := I (i + 1), ct := I (i + 1), bk := T.nx, rt := T.rt }) ∧ ∀ ρ, I ds.length ρ → T.nx ρ)
    (hc : c.X.calm = true := by rfl) (hs : ∀ x, foldedSetIterable it c.X.env x = pure x := by intro _; rfl) : XS c (.For tg it body [] pos) ρ T := fun β B H σ D S X q => by
  obtain ⟨wi, pi, w⟩ := h β B H [] [] σ (fun J H1 => ∃ W : Nat → Nat → L2.St → Hp → Prop, (∃ m, W 0 m σ H1) ∧ ∀ i m σ H, W i m σ H →
      (J.stop i H ∧ D.nx σ H) ∨ (J.go i H ∧ ∃ N : L2.St → Hp → Prop, (∀ σ' H', N σ' H' → ∃ m', m' < m ∧ W (i + 1) m' σ' H') ∧ ∀ x H', J.yld i H x H' → wG c.X tg x σ H' fun σ2 H2 => wB c.X body { D with nx := N, ct := N, bk := D.nx } σ2 H2)) S (X σ)
    fun J n G Y ds ρ' B' H' S' wk hn hG hY ⟨I, i0, turn, done⟩ => by
      subst hn
      refine for_it wk (fun i σ2 H2 => ∃ ρ2 B2, SR c.X.K c.W β [] ρ2 B2 H2 [] σ2 ∧ Ex B' B2 ∧ I i ρ2) ⟨ρ', B', S', .refl _, i0⟩ (fun i σ2 H2 _ ⟨ρ2, B2, S2, e2, _⟩ => hG B2 H2 e2 S2.go.ext) (fun i x σ2 H2 H3 hi ⟨ρ2, B2, S2, e2, w2⟩ y => ?_) (fun σ2 H2 ⟨ρ2, B2, S2, e2, w2⟩ => q.nx ρ2 B2 H2 σ2 S2 (done ρ2 w2))
      obtain ⟨d, hd⟩ : ∃ d, ds[i]? = some d := ⟨ds[i], List.getElem?_eq_getElem hi⟩
      obtain ⟨B3, e3, S3⟩ := S2.turn hY e2 hd y
      have kB := S3.kb
      refine turn i d ρ2 hd w2 (β.re B3) B3 H3 σ2 x _ S3.re.pop S3.re.rep fun ρ4 σ4 S4 _ n4 => ?_
      have nx : ∀ ρ B H σ, SR c.X.K c.W (β.re B3) [] ρ B H [] σ → I (i + 1) ρ → ∃ ρ2 B2, SR c.X.K c.W β [] ρ2 B2 H [] σ ∧ Ex B' B2 ∧ I (i + 1) ρ2 := fun ρ B H σ S w => ⟨ρ, B, S.un kB, e3.trans S.kb, w⟩
      exact n4 (β.re B3) B3 H3 σ4 _ S4 (fun σ => (X σ).re kB) ⟨nx, fun r v ρ B H σ S k => q.rt r v ρ B H σ (S.un kB) k, fun ρ B H σ S k => q.nx ρ B H σ (S.un kB) k, nx⟩
  exact PSw (ps_for c.hp hc pi pg_w pb_w hs) w
/-- a break leads to what follows -/
theorem xs_forB (vs : List Nat) (h : XI c tg it ρ fun ds ρ1 => ∃ I : Nat → List E → Prop, I 0 ρ1 ∧ (∀ i d ρ, ds[i]? = some d → I i ρ → XG c vs tg d ρ fun ρ2 => XB c body ρ2 { nx := I (i + 1), ct := I (i + 1), bk := T.nx, rt := T.rt }) ∧ ∀ ρ, I ds.length ρ → T.nx ρ)
    (hc : c.X.calm = true := by rfl) (hs : ∀ x, foldedSetIterable it c.X.env x = pure x := by intro _; rfl) : XS c (.For tg it body [] pos) ρ T := xs_for vs h hc hs
/-- while t: body, by a word I with a measure -/
theorem xs_while {t : Expr} (I : Nat → List E → Prop) (m0 : Nat) (h0 : I m0 ρ) (h : ∀ m ρ, I m ρ → XT c t ρ fun b ρ1 => (b = true → XB c body ρ1 { nx := fun ρ' => ∃ m', m' < m ∧ I m' ρ', ct := fun ρ' => ∃ m', m' < m ∧ I m' ρ', bk := T.nx, rt := T.rt }) ∧ (b = false → T.nx ρ1)) :
    XS c (.While t body [] pos) ρ T := fun β B H σ D S X q => by
  refine PSw (ps_while c.hp pt_w pb_w) ⟨fun m σ H => ∃ ρ B, SR c.X.K c.W β [] ρ B H [] σ ∧ I m ρ, ⟨m0, ρ, B, S, h0⟩, fun m σ1 H1 ⟨ρ1, B1, S1, i1⟩ => ?_⟩
  refine h m ρ1 i1 β B1 H1 [] [] σ1 _ S1 (X σ1) fun b ρ2 B2 H2 S2 k => ?_
  cases b with
  | false =>
    rw [if_neg Bool.false_ne_true]
    exact q.nx ρ2 B2 H2 σ1 S2 (k.2 rfl)
  | true =>
    rw [if_pos rfl]
    refine ⟨fun σ' H' => ∃ m', m' < m ∧ ∃ ρ B, SR c.X.K c.W β [] ρ B H' [] σ' ∧ I m' ρ, fun σ' H' ⟨m', l, ρ, B, S, i⟩ => ⟨m', l, ρ, B, S, i⟩, ?_⟩
    have nx : ∀ ρ B H σ, SR c.X.K c.W β [] ρ B H [] σ → (∃ m', m' < m ∧ I m' ρ) → ∃ m', m' < m ∧ ∃ ρ B, SR c.X.K c.W β [] ρ B H [] σ ∧ I m' ρ := fun ρ B H σ S ⟨m', l, i⟩ => ⟨m', l, ρ, B, S, i⟩
    exact k.1 rfl β B2 H2 σ1 _ S2 X ⟨nx, q.rt, q.nx, nx⟩
end

/-! ### comprehensions -/
theorem fz_fz (e : E) : e.fz.fz = e.fz := by cases e <;> rfl
theorem fz_wipe : ∀ (vs : List Nat) {ρ : List E}, (wipeE (ρ.map E.fz) vs).map E.fz = wipeE (ρ.map E.fz) vs
  | [], ρ => by
    show (ρ.map E.fz).map E.fz = ρ.map E.fz
    rw [List.map_map]
    exact List.map_congr_left fun e _ => fz_fz e
  | v :: vs, ρ => by
    show ((wipeE (ρ.map E.fz) vs).set v .no).map E.fz = (wipeE (ρ.map E.fz) vs).set v .no
    rw [List.map_set, fz_wipe vs] <;> rfl
theorem wipe_wipe (σ : L2.St) (vs : List Nat) : L2.wipe (L2.wipe σ vs) vs = L2.wipe σ vs := by
  have key : ∀ (ws us : List Nat) (σ : L2.St), (∀ w ∈ ws, w ∈ us) → L2.wipe (L2.wipe σ ws) us = L2.wipe σ us := by
    intro ws
    induction ws with
    | nil => intro us σ _; rfl
    | cons w ws ih =>
      intro us σ h
      show L2.wipe ((L2.wipe σ ws).set w none) us = L2.wipe σ us
      rw [wipe_set (h w (List.mem_cons_self ..))]
      exact ih us σ fun x m => h x (List.mem_cons_of_mem _ m)
  exact key vs vs σ fun _ m => m
/-- the first temporary, one's own, is changed -/
theorem SR.chg {K : PySem.W.Frag} {W : Wd} {β : Bs} {B H : Hp} {τ ρ : List E} {tv : List V} {σ : L2.St} {p : Addr} {d d' : D} {v : V} {o : HO} (S : SR K W β (.ow p d :: τ) ρ B H (v :: tv) σ) (w : Own K B (upd H p o) p d') :
    SR K W β (.ow p d' :: τ) ρ B (upd H p o) (v :: tv) σ := by
  obtain ⟨⟨e, w0, z⟩, tm⟩ := S.tm
  cases e
  have nm := List.nodup_cons.mp (show (p :: (τ ++ ρ).flatMap E.ads).Nodup from S.nd)
  have nf : ¬ W.fp p := fun f => W.al _ S.go.ok0 _ f z
  have up : ∀ {e : E} {u : Option V}, e ∈ τ ++ ρ → SlotOk K W β.H0 B H σ e u → SlotOk K W β.H0 B (upd H p o) σ e u := fun {e u} m q => by
    cases e with
    | no => trivial
    | sh d => exact q
    | vr i => exact q
    | ow p' d' =>
      obtain ⟨a, b, c⟩ := q
      have np : p' ≠ p := fun y => nm.1 (List.mem_flatMap.mpr ⟨_, m, by rw [y]; exact List.mem_cons_self ..⟩)
      exact ⟨a, b.go b.bn (upd_ne np) (.refl _), c⟩
    | dr A w cc n =>
      obtain ⟨a, b, c⟩ := q
      have np : ∀ x, x = A ∨ x = w ∨ x = cc → x ≠ p := fun x e y => nm.1 (List.mem_flatMap.mpr ⟨_, m, by rw [← y]; simpa [E.ads] using e⟩)
      exact ⟨a, b.go (fun _ _ => rfl) (fun x e => upd_ne (np x e)), c⟩
    | ro p' d' =>
      obtain ⟨a, b, c⟩ := q
      have np : p' ≠ p := fun y => c.1 (by rw [y]; exact z)
      exact ⟨a, b.go b.bn (upd_ne np) (.refl _), c⟩
  refine ⟨⟨fun a u q f => ?_, S.go.bk, fun a u q => ?_, S.go.ok0, ?_, S.go.nf⟩, S.b0, S.kb, ⟨⟨rfl, w, z⟩, tm.imp fun e m u q => up (List.mem_append_left _ m) q⟩, S.sl.imp fun e m u q => up (List.mem_append_right _ m) q, S.nd, S.hr⟩
  · have np : a ≠ p := fun y => by rw [y, z] at q; cases q
    rw [upd_ne np]
    exact S.go.keep a u q f
  · have np : a ≠ p := fun y => by rw [y, w0.bn] at q; cases q
    rw [upd_ne np]
    exact S.go.ext a u q
  · exact W.loc _ _ S.go.ok fun a f => by rw [upd_ne (fun y => nf (by rw [← y]; exact f))] <;> rfl
/-- the block's context -/
abbrev DC.blk (c : DC) (s : Shared) (H : Hp) (scope : Scope) (C : Addr) (cl : List (Str × Addr)) (fp : List Addr) : DC :=
  ⟨c.X.blk s H scope (compEnvC scope cl C c.X.env) fp, c.W, fun _ _ _ _ => False, fun _ _ _ => False, takes0, PassesOwn.never⟩
def gBl (X : Cx) (scope : Scope) (tg : Expr) : TG := fun v σ H Q => ∀ s H0 C cl fp, wG (X.blk s H0 scope (compEnvC scope cl C X.env) fp) tg v σ H Q
def eBl (X : Cx) (scope : Scope) (e : Expr) : TE := fun σ H Q => ∀ s H0 C cl fp, wE (X.blk s H0 scope (compEnvC scope cl C X.env) fp) e σ H Q
def tBl (X : Cx) (scope : Scope) : List Expr → TT
  | [] => tYes
  | [t] => fun σ H Q => ∀ s H0 C cl fp, wT (X.blk s H0 scope (compEnvC scope cl C X.env) fp) t σ H Q
  | _ => fun _ _ _ => False
/-- the tests of a comprehension: none, or one -/
def XTs (c : DC) (ifs : List Expr) (ρ : List E) (P : Bool → List E → Prop) : Prop := match ifs with
  | [] => P true ρ
  | [t] => XT c t ρ P
  | _ => False
section
variable {c : DC} {tg it elt : Expr} {ifs : List Expr} {scope : Scope} {ρ : List E} {P : E → List E → Prop} {pos p : Pos} {T : Tg} {own : List (Str × Nat)}
theorem pts_bl {s : Shared} {H0 : Hp} {C : Addr} {cl : List (Str × Addr)} {fp : List Addr} : PTs (c.X.blk s H0 scope (compEnvC scope cl C c.X.env) fp) ifs (tBl c.X scope ifs) := by
  match ifs with
  | [] => exact pts_nil
  | [t] => exact pts_one ⟨fun pins s σ H Q I h => h _ _ _ _ _ pins s I⟩
  | _ :: _ :: _ => exact ⟨fun _ _ _ _ _ _ h => h.elim⟩
/-- what a comprehension asks: J tells of the turn and of the list so far -/
def XLc (c : DC) (tg it elt : Expr) (ifs : List Expr) (scope : Scope) (vs : List Nat) (ρ : List E) (P : E → List E → Prop) : Prop :=
  XI c tg it ρ fun ds ρ1 => ∃ J : Nat → List D → Prop, J 0 [] ∧ (∀ i d acc, ds[i]? = some d → J i acc → acc.length < sizeLine ∧ ∀ s H0 C cl fp, XG (c.blk s H0 scope C cl fp) vs tg d (wipeE (ρ1.map E.fz) vs) fun ρ2 =>
    ∀ s H0 C cl fp, XTs (c.blk s H0 scope C cl fp) ifs ρ2 fun b ρ3 => (b = true → ∀ s H0 C cl fp, XE (c.blk s H0 scope C cl fp) elt ρ3 fun r _ => AsD r fun d' => J (i + 1) (acc ++ [d'])) ∧ (b = false → J (i + 1) acc)) ∧
    ∀ acc q, J ds.length acc → P (.ow q (.lst acc)) ρ1
theorem lc_ok {vs : List Nat} {β : Bs} {B H : Hp} {τ : List E} {tv : List V} {σ : L2.St} {Q : VK} (h : XLc c tg it elt ifs scope vs ρ P) (S : SR c.X.K c.W β τ ρ B H tv σ) (X : XOk c β σ)
    (q : ∀ r v ρ' B' H', SR c.X.K c.W β (r :: τ) ρ' B' H' (v :: tv) σ → P r ρ' → Q v H') : ∃ wi, PI c.X tg it wi ∧ tLc wi (gBl c.X scope tg) (tBl c.X scope ifs) (eBl c.X scope elt) vs σ H Q := by
  obtain ⟨wi, pi, w⟩ := h β B H τ tv σ (fun J H1 => ∀ Dl, H1 Dl = none → ∃ W : Nat → Nat → Hp → Prop, (∃ m, W 0 m (upd H1 Dl (.lst []))) ∧ ∀ i m H, W i m H →
      (J.stop i H ∧ Q (.ref Dl) H) ∨ (J.go i H ∧ ∃ Nx : Hp → Prop, (∀ H', Nx H' → ∃ m', m' < m ∧ W (i + 1) m' H') ∧ ∀ x H', J.yld i H x H' → gBl c.X scope tg x (L2.wipe σ vs) H' fun σ2 H2 => L2.wipe σ2 vs = L2.wipe σ vs ∧ tBl c.X scope ifs σ2 H2 fun b H3 =>
        if b = true then eBl c.X scope elt σ2 H3 fun y H4 => ∃ acc, H4 Dl = some (.lst acc) ∧ acc.length < sizeLine ∧ Nx (upd H4 Dl (.lst (acc ++ [y]))) else Nx H3)) S X
    fun J n G Y ds ρ' B' H' S' wk hn hG hY ⟨Jd, j0, turn, done⟩ => by
      subst hn
      intro Dl hD
      -- the state within: from here as from an entry; the new list at Dl is its own
      have Sf := S'.fz
      have Sw : SR c.X.K c.W ⟨B', H', B'⟩ [] (wipeE (ρ'.map E.fz) vs) B' H' [] (L2.wipe σ vs) := Sf.wipe vs
      have S0 : SR c.X.K c.W ⟨B', H', B'⟩ [.ow Dl (.lst [])] (wipeE (ρ'.map E.fz) vs) B' (upd H' Dl (.lst [])) [.ref Dl] (L2.wipe σ vs) := Sw.new hD ⟨Sw.go.ext.none hD, [], upd_same, .nil⟩
      refine lc_it wk (fun i H2 => ∃ B2 acc, SR c.X.K c.W ⟨B', H', B'⟩ [.ow Dl (.lst acc)] (wipeE (ρ'.map E.fz) vs) B2 H2 [.ref Dl] (L2.wipe σ vs) ∧ Jd i acc) ⟨B', [], S0, j0⟩ (fun i H2 _ ⟨B2, acc, S2, _⟩ => hG B2 H2 S2.kb S2.go.ext) (fun i x H2 H3 hi ⟨B2, acc, S2, w2⟩ y => ?_) (fun H2 ⟨B2, acc, S2, w2⟩ => ?_)
      · obtain ⟨d, hd⟩ : ∃ d, ds[i]? = some d := ⟨ds[i], List.getElem?_eq_getElem hi⟩
        obtain ⟨B3, e3, S3⟩ := S2.turn hY S2.kb hd y
        have rx := S3.rep
        have S4 := S3.pop
        have Sb : SR c.X.K c.W ⟨B3, H3, B3⟩ [] (wipeE (ρ'.map E.fz) vs) B3 H3 [] (L2.wipe σ vs) := by
          have z := S4.fz
          rw [fz_wipe] at z
          exact z
        obtain ⟨hl, ht⟩ := turn i d acc hd w2
        have no : ∀ (Y : DC) σ, (Y.ex = fun _ _ _ => False) → XOk Y ⟨B3, H3, B3⟩ σ := fun Y σ e ρ B H cls dx pd _ _ z => by
          rw [e] at z
          exact z.elim
        -- what the turn has come to: the outer state goes on
        have back : ∀ {τ2 ρ2 : List E} {B5 H5 : Hp} {tv2 : List V} {σ2 : L2.St}, SR c.X.K c.W ⟨B3, H3, B3⟩ τ2 ρ2 B5 H5 tv2 σ2 → SR c.X.K c.W ⟨B', H', B'⟩ [.ow Dl (.lst acc)] (wipeE (ρ'.map E.fz) vs) B5 H5 [.ref Dl] (L2.wipe σ vs) := fun S5 => S4.step S5.go
        intro s H0 C cl fp
        refine ht s H0 C cl fp ⟨B3, H3, B3⟩ B3 H3 (L2.wipe σ vs) x _ Sb rx fun ρ4 σ4 S4' hw n4 => ⟨hw.trans (wipe_wipe _ _), ?_⟩
        have fin : ∀ {ρ5 : List E} {B5 H5 : Hp}, SR c.X.K c.W ⟨B3, H3, B3⟩ [] ρ5 B5 H5 [] σ4 → (∀ s H0 C cl fp, XE (c.blk s H0 scope C cl fp) elt ρ5 fun r _ => AsD r fun d' => Jd (i + 1) (acc ++ [d'])) →
            eBl c.X scope elt σ4 H5 fun y H4 => ∃ acc, H4 Dl = some (.lst acc) ∧ acc.length < sizeLine ∧ ∃ B2 acc', SR c.X.K c.W ⟨B', H', B'⟩ [.ow Dl (.lst acc')] (wipeE (ρ'.map E.fz) vs) B2 (upd H4 Dl (.lst (acc ++ [y]))) [.ref Dl] (L2.wipe σ vs) ∧ Jd (i + 1) acc' := fun {ρ5 B5 H5} S5 he s H0 C cl fp => by
          refine he s H0 C cl fp ⟨B3, H3, B3⟩ B5 H5 [] [] σ4 _ S5 (no _ _ rfl) fun r v ρ6 B6 H6 S6 k => ?_
          obtain ⟨d', B7, hj, S7⟩ := k.go S6
          have So := back S7
          obtain ⟨⟨_, ⟨hb, xs, hx, rxs⟩, h0⟩, _⟩ := So.tm
          refine ⟨xs, hx, by rw [rxs.len]; exact hl, B7, acc ++ [d'], ?_, hj⟩
          exact So.chg (d' := .lst (acc ++ [d'])) ⟨hb, xs ++ [v], upd_same, rxs.app (.one S7.rep)⟩
        match ifs, n4 with
        | [], n4 =>
          dsimp only [tBl, tYes]
          rw [if_pos rfl]
          exact fin S4' ((n4 s H0 C cl fp).1 rfl)
        | [t], n4 =>
          intro s H0 C cl fp
          have n5 : XT (c.blk s H0 scope C cl fp) t ρ4 _ := n4 s H0 C cl fp
          refine n5 ⟨B3, H3, B3⟩ B3 H3 [] [] σ4 _ S4' (no _ _ rfl) fun b ρ5 B5 H5 S5 k => ?_
          cases b with
          | true =>
            rw [if_pos rfl]
            exact fin S5 (k.1 rfl)
          | false =>
            rw [if_neg Bool.false_ne_true]
            exact ⟨B5, acc, back S5, k.2 rfl⟩
        | _ :: _ :: _, n4 => exact (n4 s H0 C cl fp).elim
      · -- the end: the new list as a temporary of the outer state
        obtain ⟨⟨_, w, h0⟩, _⟩ := S2.tm
        have So := S'.step S2.go
        have nf : ∀ p ∈ (τ ++ ρ').flatMap E.ads, p ≠ Dl := fun p m e => by
          exact (S'.owned m).1 (by rw [e]; exact hD)
        have h00 : β.H0 Dl = none := by
          cases z : β.H0 Dl with
          | none => rfl
          | some u => exact absurd hD (S'.go.there (by rw [z]; exact fun y => by cases y))
        refine q (.ow Dl (.lst acc)) (.ref Dl) ρ' B2 H2 ⟨So.go, So.b0, So.kb, ⟨⟨rfl, w, h00⟩, So.tm⟩, So.sl, ?_, So.hr⟩ (done acc Dl w2)
        exact List.nodup_cons.mpr ⟨fun m => nf _ m rfl, So.nd⟩
  exact ⟨wi, pi, w⟩
theorem xe_lc (vs : List Nat) (own : List (Str × Nat)) (hv : own.map (·.2) = vs) (h : XLc c tg it elt ifs scope vs ρ P) (hN : c.X.N.Nodup) (ok : BlkOk c.X.N c.X.env.scope scope own) (hc : c.X.calm = true := by rfl) (hs : ∀ x, foldedSetIterable it c.X.env x = pure x := by intro _; rfl) :
    XE c (.ListComp elt [⟨tg, it, ifs, 0⟩] scope pos) ρ P := fun β B H τ tv σ Q S X q => by
  subst hv
  obtain ⟨wi, pi, w⟩ := lc_ok h S X q
  exact PEw (pe_lc hc hN pi ok (fun s H C cl fp => ⟨fun pins s2 σ2 H2 v u Q2 I r z => z s H C cl fp pins s2 u I r⟩) (fun s H C cl fp => pts_bl) (fun s H C cl fp => ⟨fun pins s2 σ2 H2 Q2 I z => z s H C cl fp pins s2 I⟩) hs) w
/-- y = [..] -/
theorem xs_setLc {y : Str} {py spos : Pos} (i : Nat) (vs : List Nat) (own : List (Str × Nat)) (hv : own.map (·.2) = vs) (h : XLc c tg it elt ifs scope vs ρ fun r ρ' => r.here ∧ T.nx (ρ'.set i r)) (hN : c.X.N.Nodup) (ok : BlkOk c.X.N c.X.env.scope scope own)
    (hsw : swapsWith (.ListComp elt [⟨tg, it, ifs, 0⟩] scope pos) (some (.Name y py)) spos.line c.X.env = pure true) (hy : c.X.N[i]? = some y := by rfl) (hyl : c.X.env.scope.names.lookup y = some .local := by rfl) (hc : c.X.calm = true := by rfl) (hs : ∀ x, foldedSetIterable it c.X.env x = pure x := by intro _; rfl) :
    XS c (.Assign [.Name y py] (.ListComp elt [⟨tg, it, ifs, 0⟩] scope pos) spos) ρ T := fun β B H σ D S X q => by
  subst hv
  obtain ⟨wi, pi, w⟩ := lc_ok (Q := fun x H1 => gName i x σ H1 D.nx) h S (X σ) fun r v ρ' B' H' S' ⟨k1, k2⟩ => q.nx _ B' H' _ (S'.store k1 i) k2
  exact PSw (ps_setLc hc hN hy hyl hsw pi ok (fun s H C cl fp => ⟨fun pins s2 σ2 H2 v u Q2 I r z => z s H C cl fp pins s2 u I r⟩) (fun s H C cl fp => pts_bl) (fun s H C cl fp => ⟨fun pins s2 σ2 H2 Q2 I z => z s H C cl fp pins s2 I⟩) hs) w
end
end Dl

/-! ## what a def promises, calls -/
namespace Dl
open PySem PySem.Spec PyProof.Rows L2

/-- what a def may hand back -/
def E.ret : E → Prop
  | .sh _ => True
  | .ow _ _ => True
  | _ => False
theorem E.ret.here {r : E} (h : r.ret) : r.here := by
  cases r with
  | vr i => exact h
  | _ => trivial
/-- a def upon items: F rs R X: called with rs it gives an r of R, or raises one of X -/
abbrev FS := List E → (E → Prop) → (Value → Option (Str × D) → Prop) → Prop
def spD (K : PySem.W.Frag) (W : Wd) (n : Nat) (F : FS) : Sp := fun vs H Q Ex => vs.length = n ∧ ∃ (rs : List E) (B H0 : Hp) (R : E → Prop) (X : Value → Option (Str × D) → Prop),
  SR K W ⟨B, H0, B⟩ [] rs B H [] (vs.map some) ∧ F rs R X ∧ (∀ r v B' H', SR K W ⟨B, H0, B⟩ [r] [] B' H' [v] [] → r.ret → R r → Q v H') ∧
  ∀ B' H' cls dx pd, SR K W ⟨B, H0, B⟩ [] [] B' H' [] [] → ExcRep K B' H' dx pd → X cls pd → Ex cls dx H'
/-- the context of a def's body -/
def mkC (P : Program) (w : World) (K : PySem.W.Frag) (mg : Str → Option Value) (base : Heap) (N : List Str) (qual : Str) (scope : Scope) (f : Addr) (cdv : Value) (A : Around) (outer : List Env) (s : Shared) (H : Hp) (Ex : XK) (W : Wd) (X : Value → Option (Str × D) → Prop) : DC :=
  ⟨cxOf (L2.CX P w) P w K mg base N qual scope f cdv A outer s H Ex, W, fun cls d _ H => Ex cls d H, fun cls pd _ => X cls pd, takes_of rfl rfl rfl rfl, passes_of rfl⟩
section
variable {P : Program} {w : World} {K : PySem.W.Frag} {mg : Str → Option Value} {base : Heap} {x qual : Str} {params : Arguments} {body : List Stmt} {scope : Scope} {dvs : List V} {kws : List (Str × V)} {f : Addr} {fd : FuncData}
theorem SR.drop {W : Wd} {β : Bs} {B H : Hp} {ρ : List E} {σ : L2.St} {r : E} {v : V} (S : SR K W β [r] ρ B H [v] σ) (hr : r.here) : SR K W β [r] [] B H [v] [] := by
  refine ⟨S.go, S.b0, S.kb, ⟨?_, trivial⟩, trivial, ?_, fun e m => (List.not_mem_nil m).elim⟩
  · have h := S.tm.1
    cases r with
    | vr i => exact hr.elim
    | _ => exact h
  · have n : (r.ads ++ ρ.flatMap E.ads).Nodup := S.nd
    have z := (List.nodup_append.mp n).1
    show (r.ads ++ []).Nodup
    rw [List.append_nil]
    exact z
theorem SR.bare {W : Wd} {β : Bs} {B H : Hp} {τ ρ : List E} {tv : List V} {σ : L2.St} (S : SR K W β τ ρ B H tv σ) : SR K W β [] [] B H [] [] := ⟨S.go, S.b0, S.kb, trivial, trivial, List.nodup_nil, fun e m => (List.not_mem_nil m).elim⟩
/-- THE RULE for a def -/
theorem dfn {N ps : List Str} {k n : Nat} {Fs : FS} (W : Wd) (F : FunD K x qual params body scope dvs kws f fd) (S : FnScope N ps scope) (hn : ps.length = n)
    (h : ∀ (cdv : Value) (A : Around) (outer : List Env) (s : Shared) (H : Hp) (Ex : XK) (rs : List E) (R : E → Prop) (X : Value → Option (Str × D) → Prop), Room k (A.deeper (envOfC qual scope s.heap.objs.size f cdv)) → rs.length = n → Fs rs R X →
      XB (mkC P w K mg base N qual scope f cdv A outer s H Ex W X) body (rs ++ List.replicate (N.length - n) .no) ⟨fun _ => R (.sh .non), fun r _ => r.ret ∧ R r, fun _ => False, fun _ => False⟩) :
    FnOk P w K mg base (L2.CX P w) (k + 1) f fd ps (spD K W n Fs) := by
  refine F.ok S (fun vs H Q E h => h.1.trans hn.symm) (fun cdv A outer s H vs Q Ex hr hsp => ?_)
  obtain ⟨hl, rs, B, H0, R, X, S0, hF, hQ, hX⟩ := hsp
  have hrl : rs.length = n := by
    have := S0.sl.len
    rw [List.length_map] at this
    rw [this, hl]
  have hx := h cdv A outer s H Ex rs R X hr hrl hF
  refine ⟨_, pb_w, ?_⟩
  have S1 : SR K W ⟨B, H0, B⟩ [] (rs ++ List.replicate (N.length - n) .no) B H [] (L2.start N vs) := by
    unfold L2.start
    rw [hl]
    have z : ∀ m : Nat, All2 (SlotOk K W H0 B H (vs.map some ++ List.replicate (N.length - n) none)) (List.replicate m E.no) (List.replicate m (none : Option V)) := by
      intro m
      induction m with
      | zero => trivial
      | succ m ih => exact ⟨trivial, ih⟩
    refine ⟨S0.go, S0.b0, S0.kb, trivial, (S0.sl.imp fun e m o q => q.resig (S0.hr e m)).app (z _), ?_, fun e m => ?_⟩
    · have z2 : ∀ m : Nat, (List.replicate m E.no).flatMap E.ads = [] := by
        intro m
        induction m with
        | zero => rfl
        | succ m ih => exact ih
      show ((rs ++ List.replicate _ E.no).flatMap E.ads).Nodup
      rw [List.flatMap_append, z2, List.append_nil]
      exact S0.nd
    · rcases List.mem_append.mp m with m | m
      · exact S0.hr e m
      · rw [(List.mem_replicate.mp m).2]; trivial
  exact hx ⟨B, H0, B⟩ B H (L2.start N vs) { nx := fun _ H' => Q .non H', rt := Q } S1 (fun σ ρ B' H' cls dx pd S' e q => hX B' H' cls dx pd S'.bare e q)
    ⟨fun ρ B' H' σ S' q => hQ _ _ B' H' ((S'.push .non).drop trivial) trivial q, fun r v ρ B' H' σ S' q => hQ r v B' H' (S'.drop q.1.here) q.1 q.2, fun _ _ _ _ _ q => q.elim, fun _ _ _ _ _ q => q.elim⟩
end

/-- a def as it is called by its name: n parameters, the last ones by the defaults dv -/
structure Fn (P : Program) (w : World) (K : PySem.W.Frag) (mg : Str → Option Value) (base : Heap) (x : Str) (k : Nat) (W : Wd) (n : Nat) (dv : List V) (F : FS) : Prop where
  ex : ∃ (f : Addr) (fd : FuncData) (ps : List Str) (ds : List Value), FnOk P w K mg base (L2.CX P w) k f fd ps (spD K W n F) ∧ mg x = some (.ref f) ∧ PySem.W.keepIn K (.ref f) = true ∧ Binds K fd ps ds ∧ Vals dv ds
/-- scalar values as items -/
def vE : V → E
  | .non => .sh .non
  | .bl b => .sh (.bl b)
  | .int i => .sh (.int i)
  | .str z => .sh (.str z)
  | _ => .no
theorem vE_ok {K : PySem.W.Frag} {W : Wd} {H0 B H : Hp} {σ : L2.St} (v : V) : SlotOk K W H0 B H σ (vE v) (some v) := by
  cases v with
  | non => exact ⟨_, rfl, .non⟩
  | bl b => exact ⟨_, rfl, .bl b⟩
  | int i => exact ⟨_, rfl, .int i⟩
  | str z => exact ⟨_, rfl, .str z⟩
  | _ => trivial
theorem vE_ad (v : V) : (vE v).ads = [] := by cases v <;> rfl
theorem vE_here (v : V) : (vE v).here := by cases v <;> trivial
def E.dat : E → Option D
  | .sh d => some d
  | .ow _ d => some d
  | _ => none
section
variable {K : PySem.W.Frag} {W : Wd} {β : Bs} {B H : Hp} {τ ρ : List E} {tv : List V} {σ : L2.St}
/-- temporaries in another order -/
theorem SR.unrot {rs : List E} {vs : List V} {r : E} {v : V} (l : rs.length = vs.length) (S : SR K W β ((r :: rs) ++ τ) ρ B H ((v :: vs) ++ tv) σ) : SR K W β (rs ++ r :: τ) ρ B H (vs ++ v :: tv) σ := by
  have t := S.tm
  rw [List.map_append, List.map_cons] at t
  obtain ⟨⟨t1, t2⟩, t3⟩ := All2.split (as := r :: rs) (by rw [List.length_cons, List.length_cons, List.length_map, l]) t
  refine ⟨S.go, S.b0, S.kb, ?_, S.sl, ?_, S.hr⟩
  · rw [List.map_append, List.map_cons]
    exact t2.app ⟨t1, t3⟩
  · have p : (r :: (rs ++ τ) ++ ρ).Perm (rs ++ r :: τ ++ ρ) := (List.perm_middle.symm).append_right ρ
    exact ((p.flatMap_right E.ads).nodup_iff).mp S.nd
/-- all of them are made known -/
theorem SR.shareAll : ∀ {rs : List E} {vs : List V} {ds : List D} {B : Hp} {τ : List E} {tv : List V}, rs.length = vs.length → rs.mapM E.dat = some ds → SR K W β (rs ++ τ) ρ B H (vs ++ tv) σ → ∃ B', SR K W β (ds.map E.sh ++ τ) ρ B' H (vs ++ tv) σ
  | [], [], ds, B, τ, tv, _, e, S => by
    simp at e
    subst e
    exact ⟨B, S⟩
  | r :: rs, v :: vs, ds, B, τ, tv, l, e, S => by
    have l' := Nat.succ.inj l
    rw [List.mapM_cons] at e
    cases hr : r.dat with
    | none => rw [hr] at e; cases e
    | some d =>
      rw [hr] at e
      cases hs : rs.mapM E.dat with
      | none => rw [hs] at e; cases e
      | some ds' =>
        rw [hs] at e
        cases e
        have f : AsD r (fun x => x = d) := by
          cases r with
          | sh d' => exact Option.some.inj hr
          | ow p d' => exact Option.some.inj hr
          | _ => cases hr
        have S0 : SR K W β (r :: (rs ++ τ)) ρ B H (v :: (vs ++ tv)) σ := S
        obtain ⟨d2, B1, rfl, S1⟩ := f.go S0
        obtain ⟨B2, S2⟩ := SR.shareAll (rs := rs) (vs := vs) (τ := .sh d2 :: τ) (tv := v :: tv) l' hs (SR.unrot (rs := rs) (vs := vs) (τ := τ) (tv := tv) l' S1)
        exact ⟨B2, S2.rot (by rw [List.length_map, ← l']; exact (mapM_len hs).symm)⟩
where mapM_len : ∀ {rs : List E} {ds : List D}, rs.mapM E.dat = some ds → rs.length = ds.length
  | [], ds, e => by
    simp at e
    subst e
    rfl
  | r :: rs, ds, e => by
    rw [List.mapM_cons] at e
    cases hr : r.dat with
    | none => rw [hr] at e; cases e
    | some d =>
      rw [hr] at e
      cases hs : rs.mapM E.dat with
      | none => rw [hs] at e; cases e
      | some ds' =>
        rw [hs] at e
        cases e
        exact congrArg Nat.succ (mapM_len hs)
theorem SR.popAll : ∀ {rs : List E} {vs : List V} {τ : List E} {tv : List V}, rs.length = vs.length → SR K W β (rs ++ τ) ρ B H (vs ++ tv) σ → SR K W β τ ρ B H tv σ
  | [], [], _, _, _, S => S
  | _ :: rs, _ :: vs, _, _, l, S => SR.popAll (rs := rs) (vs := vs) (Nat.succ.inj l) (SR.pop S)
theorem SR.pops (S : SR K W β τ ρ B H tv σ) : SR K W β [] ρ B H [] σ := by
  refine ⟨S.go, S.b0, S.kb, trivial, S.sl, ?_, S.hr⟩
  have n := S.nd
  rw [List.flatMap_append] at n
  exact (List.nodup_append.mp n).2.1
/-- known data alone, as a callee's arguments -/
theorem SR.args {ds : List D} {vs dv : List V} (l : (ds.map E.sh).length = vs.length) (S : SR K W β (ds.map E.sh ++ τ) ρ B H (vs ++ tv) σ) (W' : Wd) (g : Go W' B H B H) : SR K W' ⟨B, H, B⟩ [] (ds.map E.sh ++ dv.map vE) B H [] ((vs ++ dv).map some) := by
  refine ⟨g, S.go.ext, .refl B, trivial, ?_, ?_, fun e m => ?_⟩
  · have t := S.tm
    rw [List.map_append] at t
    obtain ⟨t1, _⟩ := All2.split (by rw [l, List.length_map]) t
    rw [List.map_append]
    refine All2.app (t1.imp fun e m o q => ?_) ?_
    · obtain ⟨d, _, rfl⟩ := List.mem_map.mp m
      exact q
    · have z : ∀ (σ' : L2.St) (dv : List V), All2 (SlotOk K W' H B H σ') (dv.map vE) (dv.map some) := by
        intro σ' dv
        induction dv with
        | nil => trivial
        | cons v dv ih => exact ⟨vE_ok v, ih⟩
      exact z _ _
  · have z : ∀ (ds : List D) (dv : List V), (ds.map E.sh ++ dv.map vE).flatMap E.ads = [] := by
      intro ds dv
      rw [List.flatMap_append]
      have a : (ds.map E.sh).flatMap E.ads = [] := List.flatMap_eq_nil_iff.mpr fun x m => by
        obtain ⟨d, _, rfl⟩ := List.mem_map.mp m
        rfl
      have b : (dv.map vE).flatMap E.ads = [] := List.flatMap_eq_nil_iff.mpr fun x m => by
        obtain ⟨d, _, rfl⟩ := List.mem_map.mp m
        exact vE_ad d
      rw [a, b]
      rfl
    show ((ds.map E.sh ++ dv.map vE).flatMap E.ads).Nodup
    rw [z]
    exact List.nodup_nil
  · rcases List.mem_append.mp m with m | m
    · obtain ⟨d, _, rfl⟩ := List.mem_map.mp m; trivial
    · obtain ⟨v, _, rfl⟩ := List.mem_map.mp m; exact vE_here v
/-- a callee's end: its result as a temporary of the caller -/
theorem SR.back {r : E} {v : V} {B' H' : Hp} (S : SR K W β τ ρ B H tv σ) (R : SR K W ⟨B, H, B⟩ [r] [] B' H' [v] []) (hr : r.ret) : SR K W β (r :: τ) ρ B' H' (v :: tv) σ := by
  have S' := S.step R.go
  have t := R.tm.1
  cases r with
  | sh d => exact ⟨S'.go, S'.b0, S'.kb, ⟨t, S'.tm⟩, S'.sl, S'.nd, S'.hr⟩
  | ow p d =>
    obtain ⟨a, b, z⟩ := t
    have h0 : β.H0 p = none := by
      cases q : β.H0 p with
      | none => rfl
      | some u => exact absurd z (S.go.there (by rw [q]; exact fun y => by cases y))
    refine ⟨S'.go, S'.b0, S'.kb, ⟨⟨a, b, h0⟩, S'.tm⟩, S'.sl, ?_, S'.hr⟩
    refine List.nodup_cons.mpr ⟨fun m => ?_, S'.nd⟩
    exact (S.owned m).1 z
  | _ => exact hr.elim
/-- a step that changes nothing that stood, in any world -/
theorem Go.lift {B' H' : Hp} (W : Wd) (g : Go W0 B H B' H') (ok : W.ok H) (nf : ∀ a, W.fp a → B a = none) : Go W B H B' H' := by
  have ex : Ex H H' := fun a o e => g.keep a o e fun f => f
  refine ⟨fun a o e _ => ex a o e, g.bk, g.ext, ok, W.mono _ _ ex ok, fun a f => ?_⟩
  rw [g.bk a (W.al _ ok a f)]
  exact nf a f
end
section
variable {c : DC} {e a b : Expr} {es : List Expr} {ρ : List E} {P : E → List E → Prop} {x : Str} {k n : Nat} {dv : List V} {Fs : FS} {pos p : Pos} {d : D}
theorem nf_here {W : Wd} {β : Bs} {B H : Hp} {K : PySem.W.Frag} {τ ρ : List E} {tv : List V} {σ : L2.St} (S : SR K W β τ ρ B H tv σ) : Go W B H B H := .refl S.go.ext S.go.ok S.go.nf
/-- f(e, ..): the arguments are made known -/
theorem xe_call (f : Fn c.X.prog c.X.w c.X.K c.X.mg c.X.base x k c.W n dv Fs) (hr : Room k c.X.A) (h : XA c (e :: es) ρ fun rs ρ' => ∃ ds, rs.mapM E.dat = some ds ∧ ds.length + dv.length = n ∧ Fs (ds.map E.sh ++ dv.map vE) (fun r => P r ρ') (fun cls pd => c.ex cls pd ρ'))
    (hg : Gl c.X x := by rfl) (hdb : (x == ("__debug__" : Str)) = false := by decide) (he : starEach (e :: es) c.X.env = (false, eval e c.X.env) :: starEach es c.X.env := by exact star_cons rfl) (hpl : (backTo pos (starEach es c.X.env)).any (·.1) = false := by exact star_no rfl) :
    XE c (.Call (.Name x p) (e :: es) [] pos) ρ P := fun β B H τ tv σ Q S X q => by
  obtain ⟨fa, fd, ps, ds0, F, hm, hk, hb, hd⟩ := f.ex
  refine PEw (pe_callSD F hr hg hm hk hb hd (fun σ => passAt c.tk σ) pa_w hdb he hpl) (h β B H τ tv σ _ S X fun rs vs ρ' B' H' l S' ⟨ds, hds, hn, hF⟩ => ?_)
  obtain ⟨B1, S1⟩ := S'.shareAll l hds
  have l2 : (ds.map E.sh).length = vs.length := by rw [List.length_map, ← l]; exact (SR.shareAll.mapM_len hds).symm
  have S2 : SR c.X.K c.W β τ ρ' B1 H' tv σ := SR.popAll l2 S1
  refine ⟨by rw [List.length_append, ← l2, ← hn, List.length_map], ds.map E.sh ++ dv.map vE, B1, H', _, _, S1.args l2 c.W (nf_here S1), hF, fun r v B2 H2 R hr k => q r v ρ' B2 H2 (S2.back R hr) k, fun B2 H2 cls dx pd R e k => ?_⟩
  exact X ρ' B2 H2 cls dx pd (S2.step R.go).pops e k
/-- .. a def that changes nothing that stood -/
theorem xe_callP (f : Fn c.X.prog c.X.w c.X.K c.X.mg c.X.base x k W0 n dv Fs) (hr : Room k c.X.A) (h : XA c (e :: es) ρ fun rs ρ' => ∃ ds, rs.mapM E.dat = some ds ∧ ds.length + dv.length = n ∧ Fs (ds.map E.sh ++ dv.map vE) (fun r => P r ρ') (fun cls pd => c.ex cls pd ρ'))
    (hg : Gl c.X x := by rfl) (hdb : (x == ("__debug__" : Str)) = false := by decide) (he : starEach (e :: es) c.X.env = (false, eval e c.X.env) :: starEach es c.X.env := by exact star_cons rfl) (hpl : (backTo pos (starEach es c.X.env)).any (·.1) = false := by exact star_no rfl) :
    XE c (.Call (.Name x p) (e :: es) [] pos) ρ P := fun β B H τ tv σ Q S X q => by
  obtain ⟨fa, fd, ps, ds0, F, hm, hk, hb, hd⟩ := f.ex
  refine PEw (pe_callSD F hr hg hm hk hb hd (fun σ => passAt c.tk σ) pa_w hdb he hpl) (h β B H τ tv σ _ S X fun rs vs ρ' B' H' l S' ⟨ds, hds, hn, hF⟩ => ?_)
  obtain ⟨B1, S1⟩ := S'.shareAll l hds
  have l2 : (ds.map E.sh).length = vs.length := by rw [List.length_map, ← l]; exact (SR.shareAll.mapM_len hds).symm
  have S2 : SR c.X.K c.W β τ ρ' B1 H' tv σ := SR.popAll l2 S1
  refine ⟨by rw [List.length_append, ← l2, ← hn, List.length_map], ds.map E.sh ++ dv.map vE, B1, H', _, _, S1.args l2 W0 (.refl S1.go.ext trivial fun _ f => f.elim), hF, fun r v B2 H2 R hr k => ?_, fun B2 H2 cls dx pd R e k => ?_⟩
  · have g := Go.lift c.W R.go S1.go.ok S1.go.nf
    have R2 : SR c.X.K c.W ⟨B1, H', B1⟩ [r] [] B2 H2 [v] [] := by
      refine ⟨g, R.b0, R.kb, ⟨?_, trivial⟩, trivial, R.nd, R.hr⟩
      have t := R.tm.1
      cases r with
      | sh d => exact t
      | ow p d => exact t
      | _ => exact hr.elim
    exact q r v ρ' B2 H2 (S2.back R2 hr) k
  · exact X ρ' B2 H2 cls dx pd (S2.step (Go.lift c.W R.go S1.go.ok S1.go.nf)).pops e k
/-- a built-in function -/
theorem xe_bi {id : String} (hm : c.X.mg x = none) (hv : bootBuiltins x = some (.builtin id)) (h : XA c (e :: es) ρ fun rs ρ' => CP c (.builtin id) rs ρ' P) (hg : Gl c.X x := by rfl) (hn : x ≠ "__name__" := by decide) (hdb : (x == ("__debug__" : Str)) = false := by decide)
    (he : starEach (e :: es) c.X.env = (false, eval e c.X.env) :: starEach es c.X.env := by exact star_cons rfl) (hpl : (backTo pos (starEach es c.X.env)).any (·.1) = false := by exact star_no rfl) : XE c (.Call (.Name x p) (e :: es) [] pos) ρ P := fun β B H τ tv σ Q S X q => by
  let R : List V → Hp → VK → Prop := fun xs H Q => ∃ R, CallR c.X (.builtin id) R ∧ R xs H Q
  have hR : CallR c.X (.builtin id) R := fun pins s σ H xs us Q I r ⟨R', o, h⟩ => o pins s σ H xs us Q I r h
  exact PEw (pe_callB hR hg hm hv pa_w hn hdb he hpl) (h β B H τ tv σ _ S X fun rs vs ρ' B' H' l S' k => k β B' H' τ tv σ vs Q l S' X q)
theorem xe_ty {id : String} (hm : c.X.mg x = none) (hv : bootBuiltins x = some (.type id)) (h : XA c (e :: es) ρ fun rs ρ' => CP c (.type id) rs ρ' P) (hg : Gl c.X x := by rfl) (hn : x ≠ "__name__" := by decide) (hdb : (x == ("__debug__" : Str)) = false := by decide)
    (he : starEach (e :: es) c.X.env = (false, eval e c.X.env) :: starEach es c.X.env := by exact star_cons rfl) (hpl : (backTo pos (starEach es c.X.env)).any (·.1) = false := by exact star_no rfl) : XE c (.Call (.Name x p) (e :: es) [] pos) ρ P := fun β B H τ tv σ Q S X q => by
  let R : List V → Hp → VK → Prop := fun xs H Q => ∃ R, CallR c.X (.type id) R ∧ R xs H Q
  have hR : CallR c.X (.type id) R := fun pins s σ H xs us Q I r ⟨R', o, h⟩ => o pins s σ H xs us Q I r h
  exact PEw (pe_callTy hR hg hm hv pa_w hn hdb he hpl) (h β B H τ tv σ _ S X fun rs vs ρ' B' H' l S' k => k β B' H' τ tv σ vs Q l S' X q)
/-- a built-in's method (not one that changes what one owns) -/
theorem xe_bm {T : String} {id : String} {o : Expr} {name : Str} {apos cpos : Pos} (pa : PlainAttrs T) (slot : Slot T name id) (hty : typeOf (.builtin id) = pure (.type "method_descriptor"))
    (h : XE c o ρ fun r ρ1 => (∀ (β : Bs) (B H : Hp) τ tv σ v, SR c.X.K c.W β (r :: τ) ρ1 B H (v :: tv) σ → tyV c.X.K T v H) ∧ XA c (e :: es) ρ1 fun rs ρ2 => MP c T id r rs ρ2 P)
    (hbase : attributeBase o name c.X.env (eval o c.X.env) = eval o c.X.env := by rfl)
    (hfew : ((backTo cpos (starEach (e :: es) c.X.env)).all (fun x => !x.1) && (backToKw cpos (keywordEach [] c.X.env)).all (fun x => x.1.isSome)
      && decide ((e :: es).length + ([] : List Keyword).length + (if ([] : List Keyword).isEmpty then 0 else 1) < 30)) = true := by rfl)
    (hline : (apos.endLine == cpos.line) = true := by rfl) (hs : starEach (e :: es) c.X.env = (false, eval e c.X.env) :: starEach es c.X.env := by rfl) (hplain : (backTo cpos (starEach es c.X.env)).any (·.1) = false := by rfl) :
    XE c (.Call (.Attribute o name apos) (e :: es) [] cpos) ρ P := fun β B H τ tv σ Q S X q => by
  let R : V → List V → Hp → VK → Prop := fun x xs H Q => ∃ R, MtR c.X id R ∧ R x xs H Q
  have hR : MtR c.X id R := fun pins s σ H x xs v us Q I r rs ⟨R', o, h⟩ => o pins s σ H x xs v us Q I r rs h
  refine PEw (pe_bm pa slot hty hR pe_w pa_w hbase hfew hline hs hplain) (h β B H τ tv σ _ S X fun r x ρ1 B1 H1 S1 ⟨k1, k2⟩ => ⟨k1 β B1 H1 τ tv σ x S1, ?_⟩)
  exact k2 β B1 H1 (r :: τ) (x :: tv) σ _ S1 X fun rs vs ρ' B' H' l S' k => k β B' H' τ tv σ x vs Q l S' X q
/-! ### displays -/
theorem reps_of {K : PySem.W.Frag} {W : Wd} {ds : List D} {vs : List V} {β : Bs} {B H : Hp} {τ ρ : List E} {tv : List V} {σ : L2.St} (l : (ds.map E.sh).length = vs.length) (S : SR K W β (ds.map E.sh ++ τ) ρ B H (vs ++ tv) σ) : Reps K B vs ds := by
  have t := S.tm
  rw [List.map_append] at t
  obtain ⟨t1, _⟩ := All2.split (by rw [l, List.length_map]) t
  clear S t
  induction ds generalizing vs with
  | nil =>
    cases vs with
    | nil => exact .nil
    | cons _ _ => cases l
  | cons d ds ih =>
    cases vs with
    | nil => cases l
    | cons v vs =>
      obtain ⟨⟨v', e, r⟩, t2⟩ := t1
      cases e
      exact .cons r (ih (Nat.succ.inj l) t2)
theorem xe_lst (h : XA c es ρ fun rs ρ' => ∃ ds, rs.mapM E.dat = some ds ∧ ds.length ≤ sizeLine ∧ ∀ q, P (.ow q (.lst ds)) ρ') : XE c (.List es pos) ρ P := fun β B H τ tv σ Q S X q => by
  refine PEw (pe_lst pa_w) (h β B H τ tv σ _ S X fun rs vs ρ' B' H' l S' ⟨ds, hds, hl, k⟩ => ?_)
  obtain ⟨B1, S1⟩ := S'.shareAll l hds
  have l2 : (ds.map E.sh).length = vs.length := by rw [List.length_map, ← l]; exact (SR.shareAll.mapM_len hds).symm
  refine ⟨by rw [← l2, List.length_map]; exact hl, fun a ha => ?_⟩
  have S2 := SR.popAll l2 S1
  exact q _ _ ρ' B1 _ (S2.new (d := .lst ds) ha ⟨S1.go.ext.none ha, vs, upd_same, reps_of l2 S1⟩) (k a)
theorem xe_tup {k : Nat} (h : XA c es ρ fun rs ρ' => ∃ ds, rs.mapM E.dat = some ds ∧ ds.length ≤ sizeLine ∧ P (.sh (.tup ds)) ρ') : XE c (.Tuple es k pos) ρ P := fun β B H τ tv σ Q S X q => by
  refine PEw (pe_tup pa_w) (h β B H τ tv σ _ S X fun rs vs ρ' B' H' l S' ⟨ds, hds, hl, k⟩ => ?_)
  obtain ⟨B1, S1⟩ := S'.shareAll l hds
  have l2 : (ds.map E.sh).length = vs.length := by rw [List.length_map, ← l]; exact (SR.shareAll.mapM_len hds).symm
  refine ⟨by rw [← l2, List.length_map]; exact hl, fun a ha => ?_⟩
  have S2 := SR.popAll l2 S1
  exact q _ _ ρ' _ _ (S2.newK (d := .tup ds) ha (.tup upd_same ((reps_of l2 S1).mono (.up (S1.go.ext.none ha))))) k
end
end Dl

/-! ## operations -/
namespace Dl
open PySem PySem.Spec PyProof.Rows L2
section
variable {c : DC} {ρ : List E} {P : E → List E → Prop} {f : Value → Value → Sem Value} {i j : Int} {r r1 r2 : E} {d d1 d2 : D} {x y : Str}
/-! ### ints -/
theorem op_ii {C : Int → Int → Prop} {g : Int → Int → V} {gd : D} (o : OpR c.X f (rI C g)) (hC : C i j) (hg : ∀ B, Rep c.X.K B (g i j) gd) (k : P (.sh gd) ρ) : OP c f (.sh (.int i)) (.sh (.int j)) ρ P := fun β B H τ tv σ x y Q S X q => by
  have ry := S.rep
  have rx := S.pop.rep
  cases rx
  cases ry
  exact ⟨_, o, i, j, rfl, rfl, hC, q _ _ _ _ _ (S.pop.pop.push (hg B)) k⟩
theorem op_ii0 {g : Int → Int → V} {gd : D} (o : OpR c.X f (rI0 g)) (hg : ∀ B, Rep c.X.K B (g i j) gd) (k : P (.sh gd) ρ) : OP c f (.sh (.int i)) (.sh (.int j)) ρ P := fun β B H τ tv σ x y Q S X q => by
  have ry := S.rep
  have rx := S.pop.rep
  cases rx
  cases ry
  exact ⟨_, o, i, j, rfl, rfl, q _ _ _ _ _ (S.pop.pop.push (hg B)) k⟩
theorem o_addi (k : P (.sh (.int (i + j))) ρ) : OP c (binaryOp .Add) (.sh (.int i)) (.sh (.int j)) ρ P := op_ii0 op_add (fun _ => .int _) k
theorem o_subi (k : P (.sh (.int (i - j))) ρ) : OP c (binaryOp .Sub) (.sh (.int i)) (.sh (.int j)) ρ P := op_ii0 op_sub (fun _ => .int _) k
theorem o_muli (h : CMul i j) (k : P (.sh (.int (i * j))) ρ) : OP c (binaryOp .Mult) (.sh (.int i)) (.sh (.int j)) ρ P := op_ii op_mul h (fun _ => .int _) k
theorem o_fdivi (h : CDivW i j) (k : P (.sh (.int (i / j))) ρ) : OP c (binaryOp .FloorDiv) (.sh (.int i)) (.sh (.int j)) ρ P := op_ii op_fdivW h (fun _ => .int _) k
theorem o_modi (h : 0 < j) (k : P (.sh (.int (i % j))) ρ) : OP c (binaryOp .Mod) (.sh (.int i)) (.sh (.int j)) ρ P := op_ii op_mod h (fun _ => .int _) k
theorem o_powi (h : CPow i j) (k : P (.sh (.int (i ^ j.toNat))) ρ) : OP c (binaryOp .Pow) (.sh (.int i)) (.sh (.int j)) ρ P := op_ii op_pow h (fun _ => .int _) k
theorem o_lti (k : P (.sh (.bl (decide (i < j)))) ρ) : OP c (compareOp .Lt) (.sh (.int i)) (.sh (.int j)) ρ P := op_ii0 op_lt (fun _ => .bl _) k
theorem o_lei (k : P (.sh (.bl (decide (i ≤ j)))) ρ) : OP c (compareOp .LtE) (.sh (.int i)) (.sh (.int j)) ρ P := op_ii0 op_le (fun _ => .bl _) k
theorem o_gti (k : P (.sh (.bl (decide (j < i)))) ρ) : OP c (compareOp .Gt) (.sh (.int i)) (.sh (.int j)) ρ P := op_ii0 op_gt (fun _ => .bl _) k
theorem o_gei (k : P (.sh (.bl (decide (j ≤ i)))) ρ) : OP c (compareOp .GtE) (.sh (.int i)) (.sh (.int j)) ρ P := op_ii0 op_ge (fun _ => .bl _) k
theorem o_eqi (k : P (.sh (.bl (decide (i = j)))) ρ) : OP c (compareOp .Eq) (.sh (.int i)) (.sh (.int j)) ρ P := fun β B H τ tv σ x y Q S X q => by
  have ry := S.rep
  have rx := S.pop.rep
  cases rx
  cases ry
  refine ⟨_, op_eq, rfl, q _ _ _ _ _ (S.pop.pop.push ?_) k⟩
  have e : decide (V.int i = V.int j) = decide (i = j) := decide_eq_decide.mpr ⟨V.int.inj, congrArg _⟩
  rw [e]
  exact .bl _
theorem o_nei (k : P (.sh (.bl (!decide (i = j)))) ρ) : OP c (compareOp .NotEq) (.sh (.int i)) (.sh (.int j)) ρ P := fun β B H τ tv σ x y Q S X q => by
  have ry := S.rep
  have rx := S.pop.rep
  cases rx
  cases ry
  refine ⟨_, op_ne, rfl, q _ _ _ _ _ (S.pop.pop.push ?_) k⟩
  have e : decide (V.int i = V.int j) = decide (i = j) := decide_eq_decide.mpr ⟨V.int.inj, congrArg _⟩
  rw [e]
  exact .bl _
/-! ### texts -/
theorem o_eqs (k : P (.sh (.bl (decide (x = y)))) ρ) : OP c (compareOp .Eq) (.sh (.str x)) (.sh (.str y)) ρ P := fun β B H τ tv σ u v Q S X q => by
  have ry := S.rep
  have rx := S.pop.rep
  cases rx
  cases ry
  refine ⟨_, op_eq, rfl, q _ _ _ _ _ (S.pop.pop.push ?_) k⟩
  have e : decide (V.str x = V.str y) = decide (x = y) := decide_eq_decide.mpr ⟨V.str.inj, congrArg _⟩
  rw [e]
  exact .bl _
theorem o_nes (k : P (.sh (.bl (!decide (x = y)))) ρ) : OP c (compareOp .NotEq) (.sh (.str x)) (.sh (.str y)) ρ P := fun β B H τ tv σ u v Q S X q => by
  have ry := S.rep
  have rx := S.pop.rep
  cases rx
  cases ry
  refine ⟨_, op_ne, rfl, q _ _ _ _ _ (S.pop.pop.push ?_) k⟩
  have e : decide (V.str x = V.str y) = decide (x = y) := decide_eq_decide.mpr ⟨V.str.inj, congrArg _⟩
  rw [e]
  exact .bl _
theorem o_adds (h : x.length + y.length ≤ sizeLine) (k : P (.sh (.str (x ++ y))) ρ) : OP c (binaryOp .Add) (.sh (.str x)) (.sh (.str y)) ρ P := fun β B H τ tv σ u v Q S X q => by
  have ry := S.rep
  have rx := S.pop.rep
  cases rx
  cases ry
  exact ⟨_, op_add_str, x, y, rfl, rfl, h, q _ _ _ _ _ (S.pop.pop.push (.str _)) k⟩
/-- text * number -/
def rMulS : R2 := fun x y H Q => ∃ z n, x = .str z ∧ y = .int n ∧ MulOk z n ∧ Q (.str (Txt.mul z n)) H
theorem op_mulS {X : Cx} : OpR X (binaryOp .Mult) rMulS := fun pins s σ H x y v u Q I rx ry ⟨z, n, e1, e2, h, q⟩ => by
  subst e1 e2
  obtain ⟨t, rfl⟩ := rx
  obtain ⟨t', rfl⟩ := ry
  exact SB.mul h fun t2 k => ⟨.str _, H, I.tok k, ⟨_, rfl⟩, q⟩
theorem o_muls {n : Int} (h : MulOk x n) (k : P (.sh (.str (Txt.mul x n))) ρ) : OP c (binaryOp .Mult) (.sh (.str x)) (.sh (.int n)) ρ P := fun β B H τ tv σ u v Q S X q => by
  have ry := S.rep
  have rx := S.pop.rep
  cases rx
  cases ry
  exact ⟨_, op_mulS, x, n, rfl, rfl, h, q _ _ _ _ _ (S.pop.pop.push (.str _)) k⟩
/-- one sign in a text -/
theorem o_ins {n : Nat} (k : P (.sh (.bl (decide (n ∈ y.cps.toList)))) ρ) : OP c (compareOp .In) (.sh (.str ⟨#[n]⟩)) (.sh (.str y)) ρ P := fun β B H τ tv σ u v Q S X q => by
  have ry := S.rep
  have rx := S.pop.rep
  cases rx
  cases ry
  exact ⟨_, op_in_sign, n, y, rfl, rfl, q _ _ _ _ _ (S.pop.pop.push (.bl _)) k⟩
/-! ### lists, tuples -/
theorem SR.rd {K : PySem.W.Frag} {W : Wd} {β : Bs} {B H : Hp} {τ ρ : List E} {tv : List V} {σ : L2.St} {v : V} (S : SR K W β (r :: τ) ρ B H (v :: tv) σ) (h : Rdr ρ r d) : Rep K B v d ∨ ∃ p, v = .ref p ∧ Own K B H p d := SlotOk.rd S.sl S.tm.1 h
theorem o_addl {xs ys : List D} (h1 : Rdr ρ r1 (.lst xs)) (h2 : Rdr ρ r2 (.lst ys)) (hl : xs.length + ys.length ≤ sizeLine) (k : ∀ p, P (.ow p (.lst (xs ++ ys))) ρ) : OP c (binaryOp .Add) r1 r2 ρ P := fun β B H τ tv σ u v Q S X q => by
  obtain ⟨b, zs, rfl, hb, rb⟩ := rd_lst (S.rd h2) S.go.ext
  obtain ⟨a, ws, rfl, ha, ra⟩ := rd_lst (S.pop.rd h1) S.pop.go.ext
  exact ⟨_, op_cat, a, b, ws, zs, rfl, rfl, ha, hb, by rw [ra.len, rb.len]; exact hl, fun p hp => q _ _ _ _ _ (S.pop.pop.new (d := .lst (xs ++ ys)) hp ⟨S.go.ext.none hp, _, upd_same, ra.app rb⟩) (k p)⟩
theorem o_addt {xs ys : List D} (hl : xs.length + ys.length ≤ sizeLine) (k : P (.sh (.tup (xs ++ ys))) ρ) : OP c (binaryOp .Add) (.sh (.tup xs)) (.sh (.tup ys)) ρ P := fun β B H τ tv σ u v Q S X q => by
  have ry := S.rep
  have rx := S.pop.rep
  cases ry with
  | tup hb rb =>
    cases rx with
    | tup ha ra =>
      refine ⟨_, op_catA, _, _, _, _, rfl, rfl, sq_t (S.go.ext _ _ ha), sq_t (S.go.ext _ _ hb), by rw [ra.len, rb.len]; exact hl, fun e => ?_, fun _ e => ?_, fun _ _ p hp => ?_⟩
      · subst e
        have z := ra.len
        have e2 : xs = [] := List.eq_nil_of_length_eq_zero z.symm
        subst e2
        exact q _ _ _ _ _ (S.pop.pop.push (.tup hb rb)) k
      · subst e
        have z := rb.len
        have e2 : ys = [] := List.eq_nil_of_length_eq_zero z.symm
        subst e2
        rw [List.append_nil] at k
        exact q _ _ _ _ _ (S.pop.pop.push (.tup ha ra)) k
      · exact q _ _ _ _ _ (S.pop.pop.newK hp (.tup upd_same ((ra.app rb).mono (.up (S.go.ext.none hp))))) k
/-! ### == of data -/
mutual
/-- as the library's data -/
def D.py : D → PyData
  | .non => .none
  | .bl b => .bool b
  | .int i => .int i
  | .str x => .str x
  | .lst xs => .list (D.pys xs)
  | .tup xs => .tuple (D.pys xs)
  | .dK kvs => .dict (D.pyk kvs)
  | .dT _ => .none
  | .ins _ _ => .none
  | .adr _ => .none
  | .frl _ => .none
def D.pys : List D → List PyData
  | [] => []
  | d :: ds => d.py :: D.pys ds
def D.pyk : List (Key × D) → List (PyData × PyData)
  | [] => []
  | (k, d) :: r => ((match k with | .inl i => .int i | .inr x => .str x), d.py) :: D.pyk r
end
mutual
/-- none, bools, ints, texts, lists, tuples -/
def D.plain : D → Bool
  | .non => true
  | .bl _ => true
  | .int _ => true
  | .str _ => true
  | .lst xs => D.plains xs
  | .tup xs => D.plains xs
  | _ => false
def D.plains : List D → Bool
  | [] => true
  | d :: ds => d.plain && D.plains ds
end
mutual
theorem Rep.dp {K : PySem.W.Frag} {B : Hp} : ∀ {v : V} {d : D}, Rep K B v d → d.plain = true → Dp K B v d.py
  | _, _, .non, _ => by unfold D.py; exact .non
  | _, _, .bl b, _ => by unfold D.py; exact .bl b
  | _, _, .int i, _ => by unfold D.py; exact .int i
  | _, _, .str x, _ => by unfold D.py; exact .str x
  | _, _, .lst h r, p => by unfold D.py; exact .lst (sq_l h) (Reps.dp r (by unfold D.plain at p; exact p))
  | _, _, .tup h r, p => by unfold D.py; exact .tup (sq_t h) (Reps.dp r (by unfold D.plain at p; exact p))
  | _, _, .adr a, p => by unfold D.plain at p; cases p
  | _, _, .frl h, p => by unfold D.plain at p; cases p
  | _, _, .dK _ _ _, p => by unfold D.plain at p; cases p
  | _, _, .dT _ _ _, p => by unfold D.plain at p; cases p
  | _, _, .ins _ _ _, p => by unfold D.plain at p; cases p
theorem Reps.dp {K : PySem.W.Frag} {B : Hp} : ∀ {vs : List V} {ds : List D}, Reps K B vs ds → D.plains ds = true → DpAll K B vs (D.pys ds)
  | _, _, .nil, _ => by unfold D.pys; exact .nil
  | _, _, .cons h r, p => by
    unfold D.plains at p
    obtain ⟨p1, p2⟩ := Bool.and_eq_true_iff.mp p
    unfold D.pys
    exact .cons (Rep.dp h p1) (Reps.dp r p2)
end
mutual
theorem Dp.mono {K : PySem.W.Frag} {B H : Hp} (e : Ex B H) : ∀ {v : V} {d : PyData}, Dp K B v d → Dp K H v d
  | _, _, .non => .non
  | _, _, .bl b => .bl b
  | _, _, .int i => .int i
  | _, _, .str x => .str x
  | _, _, .lst h r => .lst (e.sl h) (DpAll.mono e r)
  | _, _, .tup h r => .tup (e.st h) (DpAll.mono e r)
theorem DpAll.mono {K : PySem.W.Frag} {B H : Hp} (e : Ex B H) : ∀ {vs : List V} {ds : List PyData}, DpAll K B vs ds → DpAll K H vs ds
  | _, _, .nil => .nil
  | _, _, .cons h r => .cons (Dp.mono e h) (DpAll.mono e r)
end
theorem SR.dp {K : PySem.W.Frag} {W : Wd} {β : Bs} {B H : Hp} {τ ρ : List E} {tv : List V} {σ : L2.St} {v : V} (S : SR K W β (r :: τ) ρ B H (v :: tv) σ) (h : Rdr ρ r d) (p : d.plain = true) : Dp K H v d.py := by
  rcases S.rd h with z | ⟨a, rfl, w⟩
  · exact Dp.mono S.go.ext (z.dp p)
  · cases d with
    | lst ds =>
      obtain ⟨_, vs, e, r⟩ := w
      unfold D.plain at p
      unfold D.py
      exact .lst (sq_l e) (DpAll.mono S.go.ext (r.dp p))
    | dK _ => unfold D.plain at p; cases p
    | dT _ => unfold D.plain at p; cases p
    | ins _ _ => unfold D.plain at p; cases p
    | _ => exact w.elim
theorem o_eqd {k : Nat} (hr : Room k c.X.A) (h1 : Rdr ρ r1 d1) (h2 : Rdr ρ r2 d2) (p1 : d1.plain = true) (p2 : d2.plain = true) (s1 : SeqAt.shaped d1.py = true) (s2 : SeqAt.shaped d2.py = true) (q : P (.sh (.bl (PyData.eqv d1.py d2.py))) ρ) : OP c (compareOp .Eq) r1 r2 ρ P := fun β B H τ tv σ u v Q S X k =>
  ⟨_, op_eqD hr.units, _, _, S.pop.dp h1 p1, S.dp h2 p2, s1, s2, k _ _ _ _ _ (S.pop.pop.push (.bl _)) q⟩
theorem o_ned {k : Nat} (hr : Room k c.X.A) (h1 : Rdr ρ r1 d1) (h2 : Rdr ρ r2 d2) (p1 : d1.plain = true) (p2 : d2.plain = true) (s1 : SeqAt.shaped d1.py = true) (s2 : SeqAt.shaped d2.py = true) (q : P (.sh (.bl (!PyData.eqv d1.py d2.py))) ρ) : OP c (compareOp .NotEq) r1 r2 ρ P := fun β B H τ tv σ u v Q S X k =>
  ⟨_, op_neD hr.units, _, _, S.pop.dp h1 p1, S.dp h2 p2, s1, s2, k _ _ _ _ _ (S.pop.pop.push (.bl _)) q⟩
/-! ### len, min, int, list -/
theorem c_lens (h : x.length ≤ sizeLine) (k : P (.sh (.int x.length)) ρ) : CP c (.builtin "len") [.sh (.str x)] ρ P := fun β B H τ tv σ xs Q l S X q => by
  match xs, l with
  | [v], _ =>
    have S1 : SR c.X.K c.W β (.sh (.str x) :: τ) ρ B H (v :: tv) σ := S
    have r := S1.rep
    cases r
    exact ⟨_, call_len, _, _, rfl, ⟨h, rfl⟩, q _ _ _ _ _ (S1.pop.push (.int _)) k⟩
theorem c_lenl {ds : List D} (h : Rdr ρ r (.lst ds)) (k : P (.sh (.int ds.length)) ρ) : CP c (.builtin "len") [r] ρ P := fun β B H τ tv σ xs Q l S X q => by
  match xs, l with
  | [v], _ =>
    have S1 : SR c.X.K c.W β (r :: τ) ρ B H (v :: tv) σ := S
    obtain ⟨a, ws, rfl, ha, ra⟩ := rd_lst (S1.rd h) S1.go.ext
    refine ⟨_, call_len_seq, a, ws, rfl, .inl (sq_l ha), ?_⟩
    rw [ra.len]
    exact q _ _ _ _ _ (S1.pop.push (.int _)) k
theorem c_lent {ds : List D} (k : P (.sh (.int ds.length)) ρ) : CP c (.builtin "len") [.sh (.tup ds)] ρ P := fun β B H τ tv σ xs Q l S X q => by
  match xs, l with
  | [v], _ =>
    have S1 : SR c.X.K c.W β (.sh (.tup ds) :: τ) ρ B H (v :: tv) σ := S
    have r := S1.rep
    cases r with
    | tup ha ra =>
      refine ⟨_, call_len_seq, _, _, rfl, .inr (sq_t (S1.go.ext _ _ ha)), ?_⟩
      rw [ra.len]
      exact q _ _ _ _ _ (S1.pop.push (.int _)) k
theorem c_lenf {ns : List Int} (k : P (.sh (.int ns.length)) ρ) : CP c (.builtin "len") [.sh (.frl ns)] ρ P := fun β B H τ tv σ xs Q l S X q => by
  match xs, l with
  | [v], _ =>
    have S1 : SR c.X.K c.W β (.sh (.frl ns) :: τ) ρ B H (v :: tv) σ := S
    have r := S1.rep
    cases r with
    | frl ha =>
      refine ⟨_, call_len_seq, _, _, rfl, .inl (S1.go.ext.sl ha), ?_⟩
      rw [List.length_map]
      exact q _ _ _ _ _ (S1.pop.push (.int _)) k
theorem c_min (k : P (.sh (.int (if j < i then j else i))) ρ) (hc : c.X.calm = true := by rfl) : CP c (.builtin "min") [.sh (.int i), .sh (.int j)] ρ P := fun β B H τ tv σ xs Q l S X q => by
  match xs, l with
  | [v, w], _ =>
    have S1 : SR c.X.K c.W β (.sh (.int i) :: .sh (.int j) :: τ) ρ B H (v :: w :: tv) σ := S
    have r := S1.rep
    have r2 := S1.pop.rep
    cases r
    cases r2
    exact ⟨_, call_min2 hc, _, _, rfl, q _ _ _ _ _ (S1.pop.pop.push (.int _)) k⟩
theorem c_max (k : P (.sh (.int (if j > i then j else i))) ρ) (hc : c.X.calm = true := by rfl) : CP c (.builtin "max") [.sh (.int i), .sh (.int j)] ρ P := fun β B H τ tv σ xs Q l S X q => by
  match xs, l with
  | [v, w], _ =>
    have S1 : SR c.X.K c.W β (.sh (.int i) :: .sh (.int j) :: τ) ρ B H (v :: w :: tv) σ := S
    have r := S1.rep
    have r2 := S1.pop.rep
    cases r
    cases r2
    exact ⟨_, call_max2 hc, _, _, rfl, q _ _ _ _ _ (S1.pop.pop.push (.int _)) k⟩
theorem c_inti (k : P (.sh (.int i)) ρ) : CP c (.type "int") [.sh (.int i)] ρ P := fun β B H τ tv σ xs Q l S X q => by
  match xs, l with
  | [v], _ =>
    have S1 : SR c.X.K c.W β (.sh (.int i) :: τ) ρ B H (v :: tv) σ := S
    have r := S1.rep
    cases r
    exact ⟨_, call_int1, .inl ⟨_, rfl, q _ _ _ _ _ S1 k⟩⟩
theorem c_listl {ds : List D} (h : Rdr ρ r (.lst ds)) (k : ∀ p, P (.ow p (.lst ds)) ρ) : CP c (.type "list") [r] ρ P := fun β B H τ tv σ xs Q l S X q => by
  match xs, l with
  | [v], _ =>
    have S1 : SR c.X.K c.W β (r :: τ) ρ B H (v :: tv) σ := S
    obtain ⟨a, ws, rfl, ha, ra⟩ := rd_lst (S1.rd h) S1.go.ext
    exact ⟨_, call_list_of, a, ws, rfl, .inl (sq_l ha), fun p hp => q _ _ _ _ _ (S1.pop.new (d := .lst ds) hp ⟨S1.go.ext.none hp, _, upd_same, ra⟩) (k p)⟩
theorem c_listt {ds : List D} (k : ∀ p, P (.ow p (.lst ds)) ρ) : CP c (.type "list") [.sh (.tup ds)] ρ P := fun β B H τ tv σ xs Q l S X q => by
  match xs, l with
  | [v], _ =>
    have S1 : SR c.X.K c.W β (.sh (.tup ds) :: τ) ρ B H (v :: tv) σ := S
    have r := S1.rep
    cases r with
    | tup ha ra => exact ⟨_, call_list_of, _, _, rfl, .inr (sq_t (S1.go.ext _ _ ha)), fun p hp => q _ _ _ _ _ (S1.pop.new (d := .lst ds) hp ⟨S1.go.ext.none hp, _, upd_same, ra⟩) (k p)⟩
/-! ### repr -/
def rReprD (K : PySem.W.Frag) : List V → Hp → VK → Prop := fun xs H Q => ∃ x d, xs = [x] ∧ Dp K H x d ∧ PyData.showable d = true ∧ d.hasDict = false ∧ d.shown.length ≤ sizeLine ∧ PyData.depth d ≤ 40 ∧ Q (.str d.shown) H
theorem call_reprD {X : Cx} {k : Nat} (hr : Room k X.A) (hg : X.A.guards = some []) : CallR X (.builtin "repr") (rReprD X.K) := fun pins s σ H xs us Q I r ⟨x, d, e, hd, hs, hn, hz, hdep, q⟩ => by
  subst e
  obtain ⟨u, rfl, rx⟩ := vals1 r
  obtain ⟨as, rd⟩ := Dp.reads I d x u hd rx
  have hu : X.A.units + 64 < cLine := hr.units
  have fin : ∀ (h' : Heap) (u2 : Tok) (tk : Nat), (∀ b o, s.heap.get? b = some o → h'.get? b = some o) → EP X pins σ Q (.str d.shown u2) { s with heap := h', toks := tk } := fun h' u2 tk kp => ⟨.str _, H, I.kept kp, ⟨u2, rfl⟩, q⟩
  cases hd with
  | non =>
    cases rx
    exact P.repr_of_none (fin s.heap _ _ fun _ _ e => e)
  | bl b =>
    cases rx
    exact P.repr_of_bool (fin s.heap _ _ fun _ _ e => e)
  | int i =>
    obtain ⟨t, rfl⟩ := rx
    exact P.repr_of_int (by simpa [PyData.showable] using hs) (fin s.heap _ _ fun _ _ e => e)
  | str z =>
    obtain ⟨t, rfl⟩ := rx
    exact P.repr_of_str (fin s.heap _ _ fun _ _ e => e) (by simpa only [PyData.shown] using hz)
  | lst _ _ =>
    cases rx
    exact repr_of_reads' rd hs (PyData.noDict_hsm hn) hg (by omega) (fun _ _ e => e) (fun h' u2 tk kp => fin h' u2 tk kp) hz
  | tup _ _ =>
    cases rx
    exact repr_of_reads' rd hs (PyData.noDict_hsm hn) hg (by omega) (fun _ _ e => e) (fun h' u2 tk kp => fin h' u2 tk kp) hz
theorem c_repr {k : Nat} (hr : Room k c.X.A) (hg : c.X.A.guards = some []) (h : Rdr ρ r d) (p : d.plain = true) (h1 : PyData.showable d.py = true) (h2 : d.py.hasDict = false) (h3 : d.py.shown.length ≤ sizeLine) (h4 : PyData.depth d.py ≤ 40) (q : P (.sh (.str d.py.shown)) ρ) : CP c (.builtin "repr") [r] ρ P := fun β B H τ tv σ xs Q l S X k => by
  match xs, l with
  | [v], _ =>
    have S1 : SR c.X.K c.W β (r :: τ) ρ B H (v :: tv) σ := S
    exact ⟨_, call_reprD hr hg, v, d.py, rfl, S1.dp h p, h1, h2, h3, h4, k _ _ _ _ _ (S1.pop.push (.str _)) q⟩
/-! ### subscripts -/
def SB (c : DC) (r1 r2 : E) (ρ : List E) (P : E → List E → Prop) : Prop := ∀ (β : Bs) (B H : Hp) (τ : List E) (tv : List V) (σ : L2.St) (x y : V) (Q : VK), SR c.X.K c.W β (r2 :: r1 :: τ) ρ B H (y :: x :: tv) σ → XOk c β σ →
  (∀ r v ρ' B' H', SR c.X.K c.W β (r :: τ) ρ' B' H' (v :: tv) σ → P r ρ' → Q v H') → ∃ R : R2, IxR c.X R ∧ R x y H Q
theorem xe_ix {a b : Expr} {pos : Pos} (h : XE c a ρ fun r1 ρ1 => XE c b ρ1 fun r2 ρ2 => SB c r1 r2 ρ2 P) (hs : PlainIx b := by exact fun _ _ => rfl) : XE c (.Subscript a b pos) ρ P := fun β B H τ tv σ Q S X q => by
  let R : R2 := fun x y H Q => ∃ R : R2, IxR c.X R ∧ R x y H Q
  have hR : IxR c.X R := fun value slice pins s σ H x y v u Q I rx ry ⟨R', o, h⟩ e => o value slice pins s σ H x y v u Q I rx ry h e
  refine PEw (pe_ix hR pe_w pe_w hs) (h β B H τ tv σ _ S X fun r1 x ρ1 B1 H1 S1 h1 => ?_)
  exact h1 β B1 H1 (r1 :: τ) (x :: tv) σ _ S1 X fun r2 y ρ2 B2 H2 S2 h2 => h2 β B2 H2 τ tv σ x y Q S2 X q
theorem at_rep {K : PySem.W.Frag} {B : Hp} {vs : List V} {ds : List D} {i : Int} {d : D} (r : Reps K B vs ds) (e : atI ds i = some d) : ∃ v, atI vs i = some v ∧ Rep K B v d   := by
  unfold atI at e ⊢
  rw [← r.len] at e
  cases z : ixN vs.length i with
  | none => rw [z] at e; cases e
  | some j =>
    rw [z] at e
    exact r.at (show ds[j]? = some d from e)
/-- xs[i] -/
theorem s_lst {ds : List D} {i : Int} (h : Rdr ρ r1 (.lst ds)) (e : atI ds i = some d) (k : P (.sh d) ρ) : SB c r1 (.sh (.int i)) ρ P := fun β B H τ tv σ x y Q S X q => by
  have ry := S.rep
  cases ry
  obtain ⟨a, ws, rfl, ha, ra⟩ := rd_lst (S.pop.rd h) S.pop.go.ext
  obtain ⟨v, hv, rv⟩ := at_rep ra e
  exact ⟨_, ix_list, a, ws, i, v, rfl, rfl, sq_l ha, hv, q _ _ _ _ _ (S.pop.pop.push rv) k⟩
theorem s_tup {ds : List D} {i : Int} (e : atI ds i = some d) (k : P (.sh d) ρ) : SB c (.sh (.tup ds)) (.sh (.int i)) ρ P := fun β B H τ tv σ x y Q S X q => by
  have ry := S.rep
  cases ry
  have rx := S.pop.rep
  cases rx with
  | tup ha ra =>
    obtain ⟨v, hv, rv⟩ := at_rep ra e
    exact ⟨_, ix_tup, _, _, i, v, rfl, rfl, sq_t (S.go.ext _ _ ha), hv, q _ _ _ _ _ (S.pop.pop.push rv) k⟩
theorem s_str {i : Int} {n : Nat} (hl : x.length ≤ sizeLine) (e : atI x.cps.toList i = some n) (k : P (.sh (.str ⟨#[n]⟩)) ρ) : SB c (.sh (.str x)) (.sh (.int i)) ρ P := fun β B H τ tv σ u v Q S X q => by
  have ry := S.rep
  cases ry
  have rx := S.pop.rep
  cases rx
  exact ⟨_, ix_str, _, i, n, rfl, rfl, hl, e, q _ _ _ _ _ (S.pop.pop.push (.str _)) k⟩
/-- a[lo:hi] -/
def wO (X : Cx) (e : Option Expr) : TO := fun σ H Q => ∀ (pins : List (Addr × Obj)) (s : Shared), Inv X pins σ H s → wpAny (model X.prog X.w) X.A (evalPart e X.env) (fun u s' => ∃ o H', Inv X pins σ H' s' ∧ IsPart u o ∧ Q o H') X.xe s
theorem po_w {X : Cx} {e : Option Expr} : PO X e (wO X e) := ⟨fun pins s _ _ _ I h => h pins s I⟩
def XO (c : DC) (e : Option Expr) (ρ : List E) (P : Option Int → List E → Prop) : Prop := ∀ (β : Bs) (B H : Hp) (τ : List E) (tv : List V) (σ : L2.St) (Q : Option Int → Hp → Prop), SR c.X.K c.W β τ ρ B H tv σ → XOk c β σ →
  (∀ o ρ' B' H', SR c.X.K c.W β τ ρ' B' H' tv σ → P o ρ' → Q o H') → wO c.X e σ H Q
theorem xo_none {P : Option Int → List E → Prop} (k : P none ρ) : XO c none ρ P := fun β B H τ tv σ Q S X q pins s I => (po_none (X := c.X)).run pins s σ H Q I (q _ _ _ _ S k)
theorem xo_some {e : Expr} {P : Option Int → List E → Prop} (h : XE c e ρ fun r ρ' => ∃ n : Int, r = .sh (.int n) ∧ P (some n) ρ') : XO c (some e) ρ P := fun β B H τ tv σ Q S X q pins s I =>
  (po_some pe_w).run pins s σ H Q I (h β B H τ tv σ _ S X fun r v ρ' B' H' S' ⟨n, e, k⟩ => by
    subst e
    have rv := S'.rep
    cases rv
    exact ⟨n, rfl, q _ _ _ _ S'.pop k⟩)
def SL (c : DC) (r : E) (lo hi : Option Int) (ρ : List E) (P : E → List E → Prop) : Prop := ∀ (β : Bs) (B H : Hp) (τ : List E) (tv : List V) (σ : L2.St) (x : V) (Q : VK), SR c.X.K c.W β (r :: τ) ρ B H (x :: tv) σ → XOk c β σ →
  (∀ r v ρ' B' H', SR c.X.K c.W β (r :: τ) ρ' B' H' (v :: tv) σ → P r ρ' → Q v H') → ∃ R, SlR c.X R ∧ R x lo hi H Q
theorem xe_sl {a : Expr} {lo hi : Option Expr} {pos p2 : Pos} (h : XE c a ρ fun r ρ1 => XO c lo ρ1 fun l ρ2 => XO c hi ρ2 fun u ρ3 => SL c r l u ρ3 P) : XE c (.Subscript a (.Slice lo hi none p2) pos) ρ P := fun β B H τ tv σ Q S X q => by
  let R : V → Option Int → Option Int → Hp → VK → Prop := fun x l u H Q => ∃ R, SlR c.X R ∧ R x l u H Q
  have hR : SlR c.X R := fun pins s σ H x v vl vu lo hi sl Q I rx hs pl pu ⟨R', o, h⟩ => o pins s σ H x v vl vu lo hi sl Q I rx hs pl pu h
  refine PEw (pe_slice hR pe_w po_w po_w) (h β B H τ tv σ _ S X fun r x ρ1 B1 H1 S1 h1 => ?_)
  refine h1 β B1 H1 (r :: τ) (x :: tv) σ _ S1 X fun l ρ2 B2 H2 S2 h2 => ?_
  exact h2 β B2 H2 (r :: τ) (x :: tv) σ _ S2 X fun u ρ3 B3 H3 S3 h3 => h3 β B3 H3 τ tv σ x Q S3 X q
theorem sl_s {lo hi : Option Int} (hl : x.length ≤ sizeLine) (k : P (.sh (.str (cutS x lo hi))) ρ) : SL c (.sh (.str x)) lo hi ρ P := fun β B H τ tv σ v Q S X q => by
  have rx := S.rep
  cases rx
  exact ⟨_, sl_str, x, rfl, hl, q _ _ _ _ _ (S.pop.push (.str _)) k⟩
def cutD (ds : List D) (lo hi : Option Int) : List D := (ds.drop (HT.sIx ds.length 0 lo)).take (HT.sIx ds.length ds.length hi - HT.sIx ds.length 0 lo)
theorem cut_rep {K : PySem.W.Frag} {B : Hp} {vs : List V} {ds : List D} (lo hi : Option Int) (r : Reps K B vs ds) : Reps K B (cutV vs lo hi) (cutD ds lo hi) := by
  unfold cutV cutD
  rw [r.len]
  exact (r.drop _).take _
theorem sl_l {ds : List D} {lo hi : Option Int} (h : Rdr ρ r (.lst ds)) (k : ∀ p, P (.ow p (.lst (cutD ds lo hi))) ρ) : SL c r lo hi ρ P := fun β B H τ tv σ v Q S X q => by
  obtain ⟨a, ws, rfl, ha, ra⟩ := rd_lst (S.rd h) S.go.ext
  exact ⟨_, sl_list, a, ws, rfl, sq_l ha, fun p hp => q _ _ _ _ _ (S.pop.new (d := .lst (cutD ds lo hi)) hp ⟨S.go.ext.none hp, _, upd_same, cut_rep lo hi ra⟩) (k p)⟩
/-! ### join -/
theorem reps_strs {K : PySem.W.Frag} {B : Hp} : ∀ {vs : List V} {zs : List Str}, Reps K B vs (zs.map D.str) → vs = zs.map V.str
  | _, [], .nil => rfl
  | _, z :: zs, .cons r rs => by
    cases r
    rw [reps_strs rs]
    rfl
theorem m_join {zs : List Str} (h : Rdr ρ r (.lst (zs.map D.str))) (hz : (zs.map (·.length)).sum + zs.length * x.length ≤ 16777216) (k : P (.sh (.str (Txt.join x zs))) ρ) : MP c "str" "str.join" (.sh (.str x)) [r] ρ P := fun β B H τ tv σ u xs Q l S X q => by
  match xs, l with
  | [v], _ =>
    have S1 : SR c.X.K c.W β (r :: .sh (.str x) :: τ) ρ B H (v :: u :: tv) σ := S
    obtain ⟨a, ws, rfl, ha, ra⟩ := rd_lst (S1.rd h) S1.go.ext
    have e := reps_strs ra
    subst e
    have rx := S1.pop.rep
    cases rx
    exact ⟨_, mt_join, x, a, zs, rfl, rfl, .inl (sq_l ha), hz, q _ _ _ _ _ (S1.pop.pop.push (.str _)) k⟩
theorem xe_join {o e : Expr} {apos cpos : Pos} (h : XE c o ρ fun r ρ1 => ∃ z, r = .sh (.str z) ∧ XA c [e] ρ1 fun rs ρ2 => MP c "str" "str.join" r rs ρ2 P)
    (hbase : attributeBase o "join" c.X.env (eval o c.X.env) = eval o c.X.env := by rfl)
    (hfew : ((backTo cpos (starEach [e] c.X.env)).all (fun x => !x.1) && (backToKw cpos (keywordEach [] c.X.env)).all (fun x => x.1.isSome)
      && decide ([e].length + ([] : List Keyword).length + (if ([] : List Keyword).isEmpty then 0 else 1) < 30)) = true := by rfl)
    (hline : (apos.endLine == cpos.line) = true := by rfl) (hs : starEach [e] c.X.env = (false, eval e c.X.env) :: starEach [] c.X.env := by rfl) (hplain : (backTo cpos (starEach [] c.X.env)).any (·.1) = false := by rfl) :
    XE c (.Call (.Attribute o "join" apos) [e] [] cpos) ρ P :=
  xe_bm PySem.F.plainAttrs_str PySem.F.slot_str_join PySem.F.type_str_join (h.imp fun r ρ1 ⟨z, e, k⟩ => ⟨fun β B H τ tv σ v S => by
    subst e
    have rv := S.rep
    cases rv
    rfl, k⟩) hbase hfew hline hs hplain
end
end Dl

/-! ## the draws: their record is handed from def to def -/
namespace Dl
open PySem PySem.Spec PyProof.Rows L2
theorem Reps.slots {K : PySem.W.Frag} {W : Wd} {H0 B H : Hp} {σ : L2.St} : ∀ {vs : List V} {ds : List D}, Reps K B vs ds → All2 (SlotOk K W H0 B H σ) (ds.map E.sh) (vs.map some)
  | _, _, .nil => trivial
  | _, _, .cons r rs => ⟨⟨_, rfl, r⟩, Reps.slots rs⟩
/-- a heap without the record -/
def Hm (H : Hp) (A w cc : Addr) : Hp := fun a => if a = A ∨ a = w ∨ a = cc then none else H a
theorem Hm_ne {H : Hp} {A w cc a : Addr} (h : ¬ (a = A ∨ a = w ∨ a = cc)) : Hm H A w cc a = H a := if_neg h
theorem Hm_in {H : Hp} {A w cc a : Addr} (h : a = A ∨ a = w ∨ a = cc) : Hm H A w cc a = none := if_pos h
theorem Hm_some {H : Hp} {A w cc a : Addr} {o : HO} (h : Hm H A w cc a = some o) : ¬ (a = A ∨ a = w ∨ a = cc) ∧ H a = some o := by
  by_cases z : a = A ∨ a = w ∨ a = cc
  · rw [Hm_in z] at h; cases h
  · exact ⟨z, (Hm_ne z).symm.trans h⟩
section
variable {K : PySem.W.Frag} {β : Bs} {B H B' H' : Hp} {τ ρ : List E} {tv : List V} {σ : L2.St} {A w cc : Addr} {m m' i : Nat} {r : E} {v : V}
theorem dr_ads : (E.dr A w cc m).ads = [A, w, cc] := rfl
theorem in3 {a : Addr} : a ∈ (E.dr A w cc m).ads ↔ a = A ∨ a = w ∨ a = cc := by simp [E.ads]
/-- what stands beside the record in a state -/
theorem SR.apart (S : SR K W0 β τ ρ B H tv σ) (hi : ρ[i]? = some (.dr A w cc m)) : ∀ e ∈ τ ++ ρ.set i .no, ∀ a ∈ e.ads, ¬ (a = A ∨ a = w ∨ a = cc) := by
  have n : ((.dr A w cc m :: (τ ++ ρ.set i .no)).flatMap E.ads).Nodup := by
    have h := S.nd
    rw [List.nodup_iff_count] at h ⊢
    intro a
    have h1 := h a
    have h2 := cnt_out a hi
    rw [List.flatMap_append, List.count_append] at h1
    show ((E.dr A w cc m).ads ++ (τ ++ ρ.set i .no).flatMap E.ads).count a ≤ 1
    rw [List.count_append, List.flatMap_append, List.count_append]
    omega
  intro e he a ha h3
  have n2 := (List.nodup_append.mp (show ((E.dr A w cc m).ads ++ (τ ++ ρ.set i .no).flatMap E.ads).Nodup from n)).2.2
  exact n2 a (in3.mpr h3) a (List.mem_flatMap.mpr ⟨e, he, ha⟩) rfl
/-- a step that keeps all but the record -/
theorem SR.stepD (S : SR K W0 β τ ρ B H tv σ) (hi : ρ[i]? = some (.dr A w cc m)) (g : Go W0 B (Hm H A w cc) B' H') (o : DrOk B' H' A w cc m') : SR K W0 β τ (ρ.set i (.dr A w cc m')) B' H' tv σ := by
  obtain ⟨u, hu, e, ok, z⟩ := S.sl.at hi
  have ap := S.apart hi
  have e1 : Ex B B' := fun a o h => by
    have n : ¬ (a = A ∨ a = w ∨ a = cc) := fun y => by
      obtain ⟨b1, b2, b3, _⟩ := ok
      rcases y with y | y | y
      · rw [y, b1] at h; cases h
      · rw [y, b2] at h; cases h
      · rw [y, b3] at h; cases h
    rw [g.bk a (by rw [Hm_ne n, S.go.ext a o h]; exact fun y => by cases y)]
    exact h
  have hh : ∀ a, ¬ (a = A ∨ a = w ∨ a = cc) → H a ≠ none → H' a = H a := fun a n h => by
    cases q : H a with
    | none => exact absurd q h
    | some o => exact g.keep a o ((Hm_ne n).trans q) fun f => f
  have hb : ∀ a, ¬ (a = A ∨ a = w ∨ a = cc) → H a ≠ none → B' a = B a := fun a n h => g.bk a (by rw [Hm_ne n]; exact h)
  have up : ∀ {x : E} {u : Option V}, (∀ a ∈ x.ads, ¬ (a = A ∨ a = w ∨ a = cc)) → SlotOk K W0 β.H0 B H σ x u → SlotOk K W0 β.H0 B' H' σ x u := fun {x u} n q => by
    have hs := fun {p : Addr} (m : p ∈ x.ads) => q.has m
    cases x with
    | no => trivial
    | sh d => obtain ⟨v, a, b⟩ := q; exact ⟨v, a, b.mono e1⟩
    | vr i => exact q
    | ow p d =>
      obtain ⟨a, b, c⟩ := q
      have np := n p (List.mem_cons_self ..)
      exact ⟨a, b.go ((hb p np b.hs).trans b.bn) (hh p np b.hs) e1, c⟩
    | ro p d =>
      obtain ⟨a, b, c⟩ := q
      have np : ¬ (p = A ∨ p = w ∨ p = cc) := fun y => c.1 (z p y)
      exact ⟨a, b.go ((hb p np b.hs).trans b.bn) (hh p np b.hs) e1, c⟩
    | dr A2 w2 cc2 m2 =>
      obtain ⟨a, b, c⟩ := q
      exact ⟨a, b.go (fun x e => hb x (n x (in3.mpr e)) (hs (in3.mpr e)).1) (fun x e => hh x (n x (in3.mpr e)) (hs (in3.mpr e)).1), c⟩
  have S1 : SlotOk K W0 β.H0 B' H' σ (.dr A w cc m') u := ⟨e, o, z⟩
  have sl1 : All2 (SlotOk K W0 β.H0 B H σ) (ρ.set i .no) σ := S.sl.set1 i fun _ _ => trivial
  have sl2 : All2 (SlotOk K W0 β.H0 B' H' σ) (ρ.set i .no) σ := sl1.imp fun x mx u q => up (ap x (List.mem_append_right _ mx)) q
  refine ⟨⟨fun a o h _ => ?_, fun a h => ?_, g.ext, trivial, trivial, fun _ f => f.elim⟩, S.b0, S.kb.trans e1, S.tm.imp fun x mx u q => up (ap x (List.mem_append_left _ mx)) q, ?_, ?_, here_set (e := .dr A w cc m') S.hr trivial i⟩
  · have n : ¬ (a = A ∨ a = w ∨ a = cc) := fun y => by rw [z a y] at h; cases h
    have h1 := S.go.keep a o h fun f => f
    rw [hh a n (by rw [h1]; exact fun y => by cases y), h1]
  · have n : ¬ (a = A ∨ a = w ∨ a = cc) := fun y => h (z a y)
    rw [hb a n (S.go.there h), S.go.bk a h]
  · have q := sl2.set1 (a := E.dr A w cc m') i fun b hb => by
      rw [hu] at hb
      cases hb
      exact S1
    rw [List.set_set] at q
    exact q
  · have n := S.nd
    rw [List.nodup_iff_count] at n ⊢
    intro a
    have h1 := n a
    have h2 := cnt_out a hi
    have h3 := cnt_set a (.dr A w cc m') (ρ.set i .no) i
    rw [List.set_set] at h3
    have h4 : (E.dr A w cc m').ads = (E.dr A w cc m).ads := rfl
    rw [List.flatMap_append, List.count_append] at h1 ⊢
    rw [h4] at h3
    omega
/-- the items that a step from here as from an entry may hold -/
def E.pur : E → Prop
  | .no => True
  | .sh _ => True
  | .ro _ _ => True
  | _ => False
theorem E.pur.ads {e : E} (h : e.pur) : e.ads = [] := by
  cases e with
  | ow _ _ => exact h.elim
  | dr _ _ _ _ => exact h.elim
  | _ => rfl
theorem nd_dr (S : SR K W0 β τ ρ B H tv σ) (hi : ρ[i]? = some (.dr A w cc m)) : [A, w, cc].Nodup := by
  have n := nodup_out hi (S.pops).nd
  exact (List.nodup_append.mp (show ((E.dr A w cc m).ads ++ (ρ.set i .no).flatMap E.ads).Nodup from n)).1
/-- from here as from an entry, the record being one's own -/
theorem SR.entD {ρ2 : List E} (S : SR K W0 β τ ρ B H tv σ) (hi : ρ[i]? = some (.dr A w cc m)) (hp : ∀ e ∈ ρ2, e.pur) (sl : All2 (SlotOk K W0 (Hm H A w cc) B H σ) ρ2 σ) : SR K W0 ⟨B, Hm H A w cc, B⟩ [] (ρ2.set i (.dr A w cc m)) B H [] σ := by
  obtain ⟨u, hu, e, ok, z⟩ := S.sl.at hi
  have nB : ∀ a, (a = A ∨ a = w ∨ a = cc) → B a = none := fun a y => by
    obtain ⟨b1, b2, b3, _⟩ := ok
    rcases y with y | y | y
    · rw [y]; exact b1
    · rw [y]; exact b2
    · rw [y]; exact b3
  refine ⟨⟨fun a o h _ => (Hm_some h).2, fun _ _ => rfl, S.go.ext, trivial, trivial, fun _ f => f.elim⟩, fun a o h => ?_, .refl B, trivial, sl.set1 i fun b hb => ?_, ?_, fun x mx => ?_⟩
  · have h : B a = some o := h
    show Hm H A w cc a = some o
    rw [Hm_ne (fun y => by rw [nB a y] at h; cases h)]
    exact S.go.ext a o h
  · rw [hu] at hb
    cases hb
    exact ⟨e, ok, fun a y => Hm_in y⟩
  · refine nodup_set (l := ρ2) ?_ i
    have z2 : ρ2.flatMap E.ads = [] := List.flatMap_eq_nil_iff.mpr fun x mx => (hp x mx).ads
    show ((E.dr A w cc m).ads ++ ρ2.flatMap E.ads).Nodup
    rw [z2, List.append_nil]
    exact nd_dr S hi
  · rcases List.mem_or_eq_of_mem_set mx with y | y
    · have q := hp x y
      cases x with
      | vr i => exact q.elim
      | _ => trivial
    · rw [y]; trivial
end
/-- a def whose first parameter is the draws' record: F ds n R: called with the data ds behind n turns at most, it gives an r behind n' turns at most, R r n' -/
abbrev FR := List D → Nat → (E → Nat → Prop) → Prop
def spR (K : PySem.W.Frag) (n : Nat) (F : FR) : Sp := fun vs H Q Ex => ∃ (A w cc : Addr) (m : Nat) (ws : List V) (ds : List D) (B H0 : Hp) (R : E → Nat → Prop), vs = .ref A :: ws ∧ ws.length = n ∧ ds.length = n ∧
  SR K W0 ⟨B, H0, B⟩ [] (.dr A w cc m :: ds.map E.sh) B H [] (vs.map some) ∧ F ds m R ∧ ∀ r v m' B' H', SR K W0 ⟨B, H0, B⟩ [r, .dr A w cc m'] [] B' H' [v, .ref A] [] → r.ret → R r m' → Q v H'
structure FnR (P : Program) (w : World) (K : PySem.W.Frag) (mg : Str → Option Value) (base : Heap) (x : Str) (k : Nat) (n : Nat) (F : FR) : Prop where
  ex : ∃ (f : Addr) (fd : FuncData) (ps : List Str), FnOk P w K mg base (L2.CX P w) k f fd ps (spR K n F) ∧ mg x = some (.ref f) ∧ PySem.W.keepIn K (.ref f) = true ∧ Binds K fd ps []
section
variable {P : Program} {w : World} {K : PySem.W.Frag} {mg : Str → Option Value} {base : Heap} {x qual : Str} {params : Arguments} {body : List Stmt} {scope : Scope} {dvs : List V} {kws : List (Str × V)} {f : Addr} {fd : FuncData}
/-- THE RULE for such a def -/
theorem dfnR {N ps : List Str} {k n : Nat} {Fs : FR} (F : FunD K x qual params body scope dvs kws f fd) (S : FnScope N ps scope) (hn : ps.length = n + 1)
    (h : ∀ (cdv : Value) (Ar : Around) (outer : List Env) (s : Shared) (H : Hp) (Ex : XK) (A w2 cc : Addr) (m : Nat) (ds : List D) (R : E → Nat → Prop), Room k (Ar.deeper (envOfC qual scope s.heap.objs.size f cdv)) → ds.length = n → Fs ds m R →
      XB (mkC P w K mg base N qual scope f cdv Ar outer s H Ex W0 fun _ _ => False) body (.dr A w2 cc m :: (ds.map E.sh ++ List.replicate (N.length - (n + 1)) .no))
        ⟨fun ρ => ∃ m', ρ[0]? = some (.dr A w2 cc m') ∧ R (.sh .non) m', fun r ρ => r.ret ∧ ∃ m', ρ[0]? = some (.dr A w2 cc m') ∧ R r m', fun _ => False, fun _ => False⟩) :
    FnOk P w K mg base (L2.CX P w) (k + 1) f fd ps (spR K n Fs) := by
  refine F.ok S (fun vs H Q E h => ?_) (fun cdv Ar outer s H vs Q Ex hr hsp => ?_)
  · obtain ⟨A, w, cc, m, ws, ds, B, H0, R, rfl, l, _⟩ := h
    rw [List.length_cons, l, hn]
  obtain ⟨A, w2, cc, m, ws, ds, B, H0, R, rfl, l1, l2, S0, hF, hQ⟩ := hsp
  have hx := h cdv Ar outer s H Ex A w2 cc m ds R hr l2 hF
  refine ⟨_, pb_w, ?_⟩
  have S1 : SR K W0 ⟨B, H0, B⟩ [] (.dr A w2 cc m :: (ds.map E.sh ++ List.replicate (N.length - (n + 1)) .no)) B H [] (L2.start N (.ref A :: ws)) := by
    unfold L2.start
    rw [List.length_cons, l1]
    have z : ∀ (σ' : L2.St) (j : Nat), All2 (SlotOk K W0 H0 B H σ') (List.replicate j E.no) (List.replicate j (none : Option V)) := by
      intro σ' j
      induction j with
      | zero => trivial
      | succ j ih => exact ⟨trivial, ih⟩
    refine ⟨S0.go, S0.b0, S0.kb, trivial, ?_, ?_, fun e me => ?_⟩
    · have q := (S0.sl.imp fun e me o q => q.resig (σ' := (V.ref A :: ws).map some ++ List.replicate (N.length - (n + 1)) none) (S0.hr e me)).app (z _ (N.length - (n + 1)))
      exact q
    · have z2 : ∀ j : Nat, (List.replicate j E.no).flatMap E.ads = [] := by
        intro j
        induction j with
        | zero => rfl
        | succ j ih => exact ih
      have n0 := S0.nd
      show ((E.dr A w2 cc m :: ds.map E.sh ++ List.replicate _ E.no).flatMap E.ads).Nodup
      rw [List.flatMap_append, z2, List.append_nil]
      exact n0
    · rcases List.mem_append.mp (show e ∈ (E.dr A w2 cc m :: ds.map E.sh) ++ List.replicate _ E.no from me) with q | q
      · exact S0.hr e q
      · rw [(List.mem_replicate.mp q).2]; trivial
  have fin : ∀ {r : E} {v : V} {ρ : List E} {B' H' : Hp} {σ : L2.St} {m' : Nat}, SR K W0 ⟨B, H0, B⟩ [r] ρ B' H' [v] σ → r.ret → ρ[0]? = some (.dr A w2 cc m') → SR K W0 ⟨B, H0, B⟩ [r, .dr A w2 cc m'] [] B' H' [v, .ref A] [] := fun {r v ρ B' H' σ m'} S' hr h0 => by
    obtain ⟨u, hu, e, ok, z⟩ := S'.sl.at h0
    refine ⟨S'.go, S'.b0, S'.kb, ⟨?_, ⟨rfl, ok, z⟩, trivial⟩, trivial, ?_, fun e m => (List.not_mem_nil m).elim⟩
    · have t := S'.tm.1
      cases r with
      | sh d => exact t
      | ow p d => exact t
      | _ => exact hr.elim
    · have n0 := S'.nd
      rw [List.nodup_iff_count] at n0 ⊢
      intro a
      have h1 : (r.ads ++ ρ.flatMap E.ads).count a ≤ 1 := n0 a
      have h2 := cnt_out a h0
      rw [List.count_append] at h1
      show (r.ads ++ ((E.dr A w2 cc m').ads ++ [])).count a ≤ 1
      rw [List.count_append, List.append_nil]
      omega
  exact hx ⟨B, H0, B⟩ B H (L2.start N (.ref A :: ws)) { nx := fun _ H' => Q .non H', rt := Q } S1 (fun σ ρ B' H' cls dx pd S' e q => q.elim)
    ⟨fun ρ B' H' σ S' ⟨m', h0, q⟩ => hQ _ _ m' B' H' (fin (S'.push .non) trivial h0) trivial q, fun r v ρ B' H' σ S' ⟨k1, m', h0, q⟩ => hQ r v m' B' H' (fin S' k1 h0) k1 q, fun _ _ _ _ _ q => q.elim, fun _ _ _ _ _ q => q.elim⟩
end
section
variable {c : DC} {e a b : Expr} {es : List Expr} {ρ : List E} {P : E → List E → Prop} {x : Str} {k n : Nat} {Fs : FR} {pos p : Pos}
theorem xe_nmd (i : Nat) {A w cc : Addr} {m : Nat} (h : ρ[i]? = some (.dr A w cc m)) (k : P (.vr i) ρ) (hN : c.X.N[i]? = some x := by rfl) (hv : Vis c.X.env.scope x := by first | exact Or.inl rfl | exact Or.inr (Or.inl rfl) | exact Or.inr (Or.inr rfl))
    (hd : (x == ("__debug__" : Str)) = false := by decide) (hcd : (x == ("__classdict__" : Str)) = false := by decide) : XE c (.Name x pos) ρ P := by
  intro β B H τ tv σ Q S _ q
  obtain ⟨o, ho, hv', _⟩ := S.sl.at h
  have z : σ[i]? = some (some (V.ref A)) := by rw [ho, hv']
  exact PEw (pe_var hN hv hd hcd) ⟨_, z, q _ _ _ _ _ (S.pushV z) k⟩
/-- f(state, e, ..) -/
theorem xe_callR (f : FnR c.X.prog c.X.w c.X.K c.X.mg c.X.base x k n Fs) (hr : Room k c.X.A) (h : XA c (e :: es) ρ fun rs ρ' => ∃ i rest ds A w cc m, rs = .vr i :: rest ∧ rest.mapM E.dat = some ds ∧ ds.length = n ∧ ρ'[i]? = some (.dr A w cc m) ∧ Fs ds m fun r m' => P r (ρ'.set i (.dr A w cc m')))
    (hW : c.W = W0 := by rfl) (hg : Gl c.X x := by rfl) (hdb : (x == ("__debug__" : Str)) = false := by decide) (he : starEach (e :: es) c.X.env = (false, eval e c.X.env) :: starEach es c.X.env := by exact star_cons rfl) (hpl : (backTo pos (starEach es c.X.env)).any (·.1) = false := by exact star_no rfl) :
    XE c (.Call (.Name x p) (e :: es) [] pos) ρ P := fun β B H τ tv σ Q S X q => by
  obtain ⟨fa, fd, ps, F, hm, hk, hb⟩ := f.ex
  refine PEw (pe_callSD F hr hg hm hk hb .nil (fun σ => passAt c.tk σ) pa_w hdb he hpl) (h β B H τ tv σ _ S X fun rs vs ρ' B' H' l S' ⟨i, rest, ds, A, w, cc, m, ers, hds, hn, hi, hF⟩ => ?_)
  subst ers
  rw [hW] at S'
  match vs, l with
  | v0 :: vs, l =>
    have l' : rest.length = vs.length := Nat.succ.inj l
    obtain ⟨B1, S1⟩ := SR.shareAll (rs := rest) (vs := vs) (τ := .vr i :: τ) (tv := v0 :: tv) l' hds (SR.unrot (rs := rest) (vs := vs) (τ := τ) (tv := tv) l' S')
    have l2 : (ds.map E.sh).length = vs.length := by rw [List.length_map, ← l']; exact (SR.shareAll.mapM_len hds).symm
    have S2 : SR c.X.K W0 β (.vr i :: τ) ρ' B1 H' (v0 :: tv) σ := SR.popAll l2 S1
    have S3 := S2.pop
    obtain ⟨u, hu, eu, ok, z⟩ := S3.sl.at hi
    have ev : v0 = .ref A := by
      obtain ⟨v, e1, e2⟩ := S2.tm.1
      cases e1
      rw [hu, eu] at e2
      exact (Option.some.inj (Option.some.inj e2)).symm
    subst ev
    have reps := reps_of l2 S1
    refine ⟨A, w, cc, m, vs, ds, B1, Hm H' A w cc, fun r m' => P r (ρ'.set i (.dr A w cc m')), by rw [List.append_nil], by rw [← l2, List.length_map]; exact hn, hn, ?_, hF, fun r v m' B2 H2 R hr kk => ?_⟩
    · have nB : ∀ a, (a = A ∨ a = w ∨ a = cc) → B1 a = none := fun a y => by
        obtain ⟨b1, b2, b3, _⟩ := ok
        rcases y with y | y | y
        · rw [y]; exact b1
        · rw [y]; exact b2
        · rw [y]; exact b3
      refine ⟨⟨fun a o h _ => (Hm_some h).2, fun _ _ => rfl, S3.go.ext, trivial, trivial, fun _ f => f.elim⟩, fun a o h => ?_, .refl B1, trivial, ⟨⟨rfl, ok, fun a y => Hm_in y⟩, ?_⟩, ?_, fun x mx => ?_⟩
      · have h : B1 a = some o := h
        show Hm H' A w cc a = some o
        rw [Hm_ne (fun y => by rw [nB a y] at h; cases h)]
        exact S3.go.ext a o h
      · have e : vs ++ [] = vs := List.append_nil vs
        show All2 _ (ds.map E.sh) ((vs ++ []).map some)
        rw [e]
        exact reps.slots
      · have z2 : (ds.map E.sh).flatMap E.ads = [] := List.flatMap_eq_nil_iff.mpr fun x mx => by
          obtain ⟨d, _, rfl⟩ := List.mem_map.mp mx
          rfl
        show ((E.dr A w cc m).ads ++ (ds.map E.sh).flatMap E.ads).Nodup
        rw [z2, List.append_nil]
        exact nd_dr S3 hi
      · rcases List.mem_cons.mp mx with y | y
        · rw [y]; trivial
        · obtain ⟨d, _, rfl⟩ := List.mem_map.mp y; trivial
    · have S4 := S3.stepD hi R.go R.tm.2.1.2.1
      have S5 : SR c.X.K W0 β (r :: τ) (ρ'.set i (.dr A w cc m')) B2 H2 (v :: tv) σ := by
        have t := R.tm.1
        cases r with
        | sh d => exact ⟨S4.go, S4.b0, S4.kb, ⟨t, S4.tm⟩, S4.sl, S4.nd, S4.hr⟩
        | ow p d =>
          obtain ⟨t1, t2, t3⟩ := t
          have np : ¬ (p = A ∨ p = w ∨ p = cc) := fun y => by
            have n := R.nd
            have n2 := (List.nodup_cons.mp (show (p :: ((E.dr A w cc m').ads ++ [])).Nodup from n)).1
            exact n2 (List.mem_append_left _ (in3.mpr y))
          have h1 : H' p = none := (Hm_ne np).symm.trans t3
          have h0 : β.H0 p = none := by
            cases y : β.H0 p with
            | none => rfl
            | some u => exact absurd h1 (S3.go.there (by rw [y]; exact fun y => by cases y))
          refine ⟨S4.go, S4.b0, S4.kb, ⟨⟨t1, t2, h0⟩, S4.tm⟩, S4.sl, ?_, S4.hr⟩
          refine List.nodup_cons.mpr ⟨fun mm => ?_, S4.nd⟩
          obtain ⟨x, mx, hx⟩ := List.mem_flatMap.mp mm
          have old : ∀ x ∈ τ ++ ρ', p ∈ x.ads → False := fun x mx hx => (S3.owned (List.mem_flatMap.mpr ⟨x, mx, hx⟩)).1 h1
          rcases List.mem_append.mp mx with y | y
          · exact old x (List.mem_append_left _ y) hx
          · rcases List.mem_or_eq_of_mem_set y with y | y
            · exact old x (List.mem_append_right _ y) hx
            · rw [y] at hx
              exact np (in3.mp hx)
        | _ => exact hr.elim
      exact q r v _ B2 H2 (by rw [hW]; exact S5) kk
end
/-! ### comprehensions that draw -/
section
variable {K : PySem.W.Frag} {β : Bs} {B H B' H' : Hp} {τ ρ : List E} {tv : List V} {σ : L2.St} {A w cc : Addr} {m m' i : Nat} {r : E} {v : V}
/-- what the items are, the record apart, to be read alone -/
def frD (ρ : List E) (vs : List Nat) : List E := wipeE (ρ.map E.fz) vs
theorem pur_set {l : List E} (h : ∀ e ∈ l, e.pur) {e : E} (he : e.pur) (i : Nat) : ∀ x ∈ l.set i e, x.pur := fun x m => by
  rcases List.mem_or_eq_of_mem_set m with y | y
  · exact h x y
  · rw [y]; exact he
theorem frD_pur (hr : ∀ e ∈ ρ, e.here) : ∀ vs : List Nat, ∀ e ∈ frD ρ vs, e.pur
  | [], e, m => by
    obtain ⟨x, mx, rfl⟩ := List.mem_map.mp (show e ∈ ρ.map E.fz from m)
    have q := hr x mx
    cases x with
    | vr i => exact q.elim
    | _ => trivial
  | v :: vs, e, m => pur_set (frD_pur hr vs) (e := .no) trivial v e m
theorem wipe_get {σ : L2.St} {i : Nat} : ∀ {vs : List Nat}, i ∉ vs → (L2.wipe σ vs)[i]? = σ[i]?
  | [], _ => rfl
  | v :: vs, h => by
    show ((L2.wipe σ vs).set v none)[i]? = σ[i]?
    rw [List.getElem?_set_ne (fun e => h (by rw [← e]; exact List.mem_cons_self ..)), wipe_get fun m => h (List.mem_cons_of_mem _ m)]
theorem frD_slots (S : SR K W0 β τ ρ B H tv σ) (hi : ρ[i]? = some (.dr A w cc m)) : ∀ vs : List Nat, All2 (SlotOk K W0 (Hm H A w cc) B H (L2.wipe σ vs)) (frD ρ vs) (L2.wipe σ vs)
  | [] => by
    obtain ⟨u, hu, e, ok, z⟩ := S.sl.at hi
    have key : ∀ {l : List E} {us : List (Option V)}, (∀ e ∈ l, e.here) → (∀ p d, E.ow p d ∈ l → ¬ (p = A ∨ p = w ∨ p = cc)) → All2 (SlotOk K W0 β.H0 B H σ) l us → All2 (SlotOk K W0 (Hm H A w cc) B H σ) (l.map E.fz) us := by
      intro l
      induction l with
      | nil =>
        intro us _ _ h
        cases us with
        | nil => trivial
        | cons _ _ => exact h.elim
      | cons e l ih =>
        intro us hh hd h
        cases us with
        | nil => exact h.elim
        | cons v us =>
          refine ⟨?_, ih (fun x m => hh x (List.mem_cons_of_mem _ m)) (fun p d m => hd p d (List.mem_cons_of_mem _ m)) h.2⟩
          have h1 := h.1
          cases e with
          | no => trivial
          | sh d => exact h1
          | vr i => exact (hh _ (List.mem_cons_self ..)).elim
          | ow p d =>
            obtain ⟨a, b, c⟩ := h1
            have np := hd p d (List.mem_cons_self ..)
            exact ⟨a, b, by rw [Hm_ne np]; exact b.hs, fun f => f⟩
          | ro p d =>
            obtain ⟨a, b, c, _⟩ := h1
            have np : ¬ (p = A ∨ p = w ∨ p = cc) := fun y => c (z p y)
            exact ⟨a, b, by rw [Hm_ne np]; exact b.hs, fun f => f⟩
          | dr A2 w2 c2 n => trivial
    refine key S.hr (fun p d me => ?_) S.sl
    obtain ⟨j, hj⟩ := List.getElem?_of_mem me
    have ji : i ≠ j := fun y => by
      rw [← y, hi] at hj
      cases hj
    exact S.apart hi (.ow p d) (List.mem_append_right _ (List.mem_of_getElem? (i := j) (by rw [List.getElem?_set_ne ji]; exact hj))) p (List.mem_cons_self ..)
  | v :: vs => by
    have q := frD_slots S hi vs
    have q2 : All2 (SlotOk K W0 (Hm H A w cc) B H ((L2.wipe σ vs).set v none)) (frD ρ vs) (L2.wipe σ vs) := q.imp fun e me o h => h.resig (by
      have p := frD_pur S.hr vs e me
      cases e with
      | vr i => exact p.elim
      | _ => trivial)
    exact q2.set v trivial
end
section
variable {c : DC} {tg it elt : Expr} {ifs : List Expr} {scope : Scope} {ρ : List E} {P : E → List E → Prop} {pos p : Pos} {T : Tg} {own : List (Str × Nat)}
/-- what such a comprehension asks: J tells of the turn, of the list so far and of the draws' turns; i: the record's slot -/
def XLd (c : DC) (i : Nat) (tg it elt : Expr) (ifs : List Expr) (scope : Scope) (vs : List Nat) (ρ : List E) (P : E → List E → Prop) : Prop :=
  XI c tg it ρ fun ds ρ1 => ∃ A w cc m, ρ1[i]? = some (.dr A w cc m) ∧ ∃ J : Nat → List D → Nat → Prop, J 0 [] m ∧ (∀ t d acc m, ds[t]? = some d → J t acc m → acc.length < sizeLine ∧ ∀ s H0 C cl fp, XG (c.blk s H0 scope C cl fp) vs tg d ((frD ρ1 vs).set i (.dr A w cc m)) fun ρ2 =>
    ∀ s H0 C cl fp, XTs (c.blk s H0 scope C cl fp) ifs ρ2 fun b ρ3 => (b = true → ∀ s H0 C cl fp, XE (c.blk s H0 scope C cl fp) elt ρ3 fun r ρ4 => ∃ m', ρ4[i]? = some (.dr A w cc m') ∧ AsD r fun d' => J (t + 1) (acc ++ [d']) m') ∧
      (b = false → ∃ m', ρ3[i]? = some (.dr A w cc m') ∧ J (t + 1) acc m')) ∧
    ∀ acc q m', J ds.length acc m' → P (.ow q (.lst acc)) (ρ1.set i (.dr A w cc m'))
theorem lcD_ok {i : Nat} {vs : List Nat} {β : Bs} {B H : Hp} {τ : List E} {tv : List V} {σ : L2.St} {Q : VK} (h : XLd c i tg it elt ifs scope vs ρ P) (hv : i ∉ vs) (hW : c.W = W0) (S : SR c.X.K c.W β τ ρ B H tv σ) (X : XOk c β σ)
    (q : ∀ r v ρ' B' H', SR c.X.K c.W β (r :: τ) ρ' B' H' (v :: tv) σ → P r ρ' → Q v H') : ∃ wi, PI c.X tg it wi ∧ tLc wi (gBl c.X scope tg) (tBl c.X scope ifs) (eBl c.X scope elt) vs σ H Q := by
  obtain ⟨wi, pi, w⟩ := h β B H τ tv σ (fun J H1 => ∀ Dl, H1 Dl = none → ∃ W : Nat → Nat → Hp → Prop, (∃ m, W 0 m (upd H1 Dl (.lst []))) ∧ ∀ i m H, W i m H →
      (J.stop i H ∧ Q (.ref Dl) H) ∨ (J.go i H ∧ ∃ Nx : Hp → Prop, (∀ H', Nx H' → ∃ m', m' < m ∧ W (i + 1) m' H') ∧ ∀ x H', J.yld i H x H' → gBl c.X scope tg x (L2.wipe σ vs) H' fun σ2 H2 => L2.wipe σ2 vs = L2.wipe σ vs ∧ tBl c.X scope ifs σ2 H2 fun b H3 =>
        if b = true then eBl c.X scope elt σ2 H3 fun y H4 => ∃ acc, H4 Dl = some (.lst acc) ∧ acc.length < sizeLine ∧ Nx (upd H4 Dl (.lst (acc ++ [y]))) else Nx H3)) S X
    fun J n G Y ds ρ' B' H' S' wk hn hG hY ⟨A, w, cc, m, hi, Jd, j0, turn, done⟩ => by
      subst hn
      rw [hW] at S'
      intro Dl hD
      have hlen : i < (frD ρ' vs).length := by
        have e : ∀ vs : List Nat, (frD ρ' vs).length = ρ'.length := by
          intro vs
          induction vs with
          | nil => exact List.length_map ..
          | cons v vs ih =>
            show ((frD ρ' vs).set v .no).length = _
            rw [List.length_set, ih]
        rw [e]
        exact (List.getElem?_eq_some_iff.mp hi).1
      have hri : ∀ m, ((frD ρ' vs).set i (.dr A w cc m))[i]? = some (.dr A w cc m) := fun m => List.getElem?_set_self hlen
      have hpur := frD_pur (ρ := ρ') S'.hr vs
      -- the slots as they stand within
      obtain ⟨u, hu, eu, ok, z⟩ := S'.sl.at hi
      have hσ : (L2.wipe σ vs)[i]? = some (some (V.ref A)) := by rw [wipe_get hv, hu, eu]
      have Sw : SR c.X.K W0 ⟨B', Hm H' A w cc, B'⟩ [] ((frD ρ' vs).set i (.dr A w cc m)) B' H' [] (L2.wipe σ vs) := by
        have f := frD_slots S' hi vs
        have nB : ∀ a, (a = A ∨ a = w ∨ a = cc) → B' a = none := fun a y => (S'.owned (List.mem_flatMap.mpr ⟨_, List.mem_append_right _ (List.mem_of_getElem? hi), in3.mpr y⟩)).2.1
        refine ⟨⟨fun a o h _ => (Hm_some h).2, fun _ _ => rfl, S'.go.ext, trivial, trivial, fun _ f => f.elim⟩, fun a o h => ?_, .refl B', trivial, f.set1 i fun b hb => ?_, ?_, fun x mx => ?_⟩
        · have h : B' a = some o := h
          show Hm H' A w cc a = some o
          rw [Hm_ne (fun y => by rw [nB a y] at h; cases h)]
          exact S'.go.ext a o h
        · rw [hσ] at hb
          cases hb
          exact ⟨rfl, ok, fun a y => Hm_in y⟩
        · refine nodup_set (l := frD ρ' vs) ?_ i
          have z2 : (frD ρ' vs).flatMap E.ads = [] := List.flatMap_eq_nil_iff.mpr fun x mx => (hpur x mx).ads
          show ((E.dr A w cc m).ads ++ (frD ρ' vs).flatMap E.ads).Nodup
          rw [z2, List.append_nil]
          exact nd_dr S' hi
        · rcases List.mem_or_eq_of_mem_set mx with y | y
          · have q := hpur x y
            cases x with
            | vr i => exact q.elim
            | _ => trivial
          · rw [y]; trivial
      have S0 : SR c.X.K W0 ⟨B', Hm H' A w cc, B'⟩ [.ow Dl (.lst [])] ((frD ρ' vs).set i (.dr A w cc m)) B' (upd H' Dl (.lst [])) [.ref Dl] (L2.wipe σ vs) := Sw.new hD ⟨Sw.go.ext.none hD, [], upd_same, .nil⟩
      refine lc_it wk (fun t H2 => ∃ B2 acc m2, SR c.X.K W0 ⟨B', Hm H' A w cc, B'⟩ [.ow Dl (.lst acc)] ((frD ρ' vs).set i (.dr A w cc m2)) B2 H2 [.ref Dl] (L2.wipe σ vs) ∧ Jd t acc m2) ⟨B', [], m, S0, j0⟩ (fun t H2 _ ⟨B2, acc, m2, S2, _⟩ => hG B2 H2 S2.kb S2.go.ext) (fun t x H2 H3 ht ⟨B2, acc, m2, S2, w2⟩ y => ?_) (fun H2 ⟨B2, acc, m2, S2, w2⟩ => ?_)
      · obtain ⟨d, hd⟩ : ∃ d, ds[t]? = some d := ⟨ds[t], List.getElem?_eq_getElem ht⟩
        obtain ⟨B3, e3, S3⟩ := S2.turn hY S2.kb hd y
        have rx := S3.rep
        have S4 := S3.pop
        have Sb : SR c.X.K W0 ⟨B3, Hm H3 A w cc, B3⟩ [] ((frD ρ' vs).set i (.dr A w cc m2)) B3 H3 [] (L2.wipe σ vs) := by
          have f : All2 (SlotOk c.X.K W0 (Hm H3 A w cc) B3 H3 (L2.wipe σ vs)) ((frD ρ' vs).set i .no) (L2.wipe σ vs) := by
            have q := S4.sl.set1 (a := E.no) i fun _ _ => trivial
            rw [List.set_set] at q
            refine q.imp fun e me o h => ?_
            have p := pur_set hpur (e := .no) trivial i e me
            cases e with
            | no => trivial
            | sh d => exact h
            | ro p2 d =>
              obtain ⟨a, b, c2, _⟩ := h
              have c2 : Hm H' A w cc p2 ≠ none := c2
              have np : ¬ (p2 = A ∨ p2 = w ∨ p2 = cc) := fun y => c2 (Hm_in y)
              exact ⟨a, b, by rw [Hm_ne np]; exact b.hs, fun f => f⟩
            | _ => exact p.elim
          have g := S4.entD (hri m2) (pur_set hpur (e := .no) trivial i) f
          rw [List.set_set] at g
          exact g
        obtain ⟨hl, ht2⟩ := turn t d acc m2 hd w2
        have no : ∀ (Y : DC) σ, (Y.ex = fun _ _ _ => False) → XOk Y ⟨B3, Hm H3 A w cc, B3⟩ σ := fun Y σ e ρ B H cls dx pd _ _ z => by
          rw [e] at z
          exact z.elim
        have back : ∀ {τ2 ρ2 : List E} {B5 H5 : Hp} {tv2 : List V} {σ2 : L2.St} {m3 : Nat}, SR c.X.K W0 ⟨B3, Hm H3 A w cc, B3⟩ τ2 ρ2 B5 H5 tv2 σ2 → ρ2[i]? = some (.dr A w cc m3) →
            SR c.X.K W0 ⟨B', Hm H' A w cc, B'⟩ [.ow Dl (.lst acc)] ((frD ρ' vs).set i (.dr A w cc m3)) B5 H5 [.ref Dl] (L2.wipe σ vs) := fun {τ2 ρ2 B5 H5 tv2 σ2 m3} S5 h5 => by
          obtain ⟨_, _, _, ok5, _⟩ := S5.sl.at h5
          have g := S4.stepD (hri m2) S5.go ok5
          rw [List.set_set] at g
          exact g
        intro s H0 C cl fp
        refine ht2 s H0 C cl fp ⟨B3, Hm H3 A w cc, B3⟩ B3 H3 (L2.wipe σ vs) x _ (by rw [show (c.blk s H0 scope C cl fp).W = W0 from hW]; exact Sb) rx fun ρ4 σ4 S4' hw n4 => ⟨hw.trans (wipe_wipe _ _), ?_⟩
        have fin : ∀ {ρ5 : List E} {B5 H5 : Hp}, SR c.X.K c.W ⟨B3, Hm H3 A w cc, B3⟩ [] ρ5 B5 H5 [] σ4 → (∀ s H0 C cl fp, XE (c.blk s H0 scope C cl fp) elt ρ5 fun r ρ4 => ∃ m', ρ4[i]? = some (.dr A w cc m') ∧ AsD r fun d' => Jd (t + 1) (acc ++ [d']) m') →
            eBl c.X scope elt σ4 H5 fun y H4 => ∃ acc, H4 Dl = some (.lst acc) ∧ acc.length < sizeLine ∧ ∃ B2 acc' m2, SR c.X.K W0 ⟨B', Hm H' A w cc, B'⟩ [.ow Dl (.lst acc')] ((frD ρ' vs).set i (.dr A w cc m2)) B2 (upd H4 Dl (.lst (acc ++ [y]))) [.ref Dl] (L2.wipe σ vs) ∧ Jd (t + 1) acc' m2 := fun {ρ5 B5 H5} S5 he s H0 C cl fp => by
          refine he s H0 C cl fp ⟨B3, Hm H3 A w cc, B3⟩ B5 H5 [] [] σ4 _ S5 (no _ _ rfl) fun r v ρ6 B6 H6 S6 ⟨m6, h6, k⟩ => ?_
          obtain ⟨d', B7, hj, S7⟩ := k.go S6
          have S7 : SR c.X.K c.W ⟨B3, Hm H3 A w cc, B3⟩ [.sh d'] ρ6 B7 H6 [v] σ4 := S7
          rw [hW] at S7
          have So := back S7 h6
          obtain ⟨⟨_, ⟨hb, xs, hx, rxs⟩, h0⟩, _⟩ := So.tm
          refine ⟨xs, hx, by rw [rxs.len]; exact hl, B7, acc ++ [d'], m6, ?_, hj⟩
          exact So.chg (d' := .lst (acc ++ [d'])) ⟨hb, xs ++ [v], upd_same, rxs.app (.one S7.rep)⟩
        match ifs, n4 with
        | [], n4 =>
          dsimp only [tBl, tYes]
          rw [if_pos rfl]
          exact fin S4' ((n4 s H0 C cl fp).1 rfl)
        | [t2], n4 =>
          intro s H0 C cl fp
          have n5 : XT (c.blk s H0 scope C cl fp) t2 ρ4 _ := n4 s H0 C cl fp
          refine n5 ⟨B3, Hm H3 A w cc, B3⟩ B3 H3 [] [] σ4 _ S4' (no _ _ rfl) fun b ρ5 B5 H5 S5 k => ?_
          cases b with
          | true =>
            rw [if_pos rfl]
            exact fin S5 (k.1 rfl)
          | false =>
            rw [if_neg Bool.false_ne_true]
            obtain ⟨m5, h5, j5⟩ := k.2 rfl
            have S5 : SR c.X.K c.W ⟨B3, Hm H3 A w cc, B3⟩ [] ρ5 B5 H5 [] σ4 := S5
            rw [hW] at S5
            exact ⟨B5, acc, m5, back S5 h5, j5⟩
        | _ :: _ :: _, n4 => exact (n4 s H0 C cl fp).elim
      · obtain ⟨⟨_, wo, h0⟩, _⟩ := S2.tm
        obtain ⟨_, _, _, ok2, _⟩ := S2.sl.at (hri m2)
        have So := S'.stepD hi S2.go ok2
        have h0 : Hm H' A w cc Dl = none := h0
        have h00 : β.H0 Dl = none := by
          cases z : β.H0 Dl with
          | none => rfl
          | some u => exact absurd hD (S'.go.there (by rw [z]; exact fun y => by cases y))
        have nD : ¬ (Dl = A ∨ Dl = w ∨ Dl = cc) := fun y => (S'.owned (List.mem_flatMap.mpr ⟨_, List.mem_append_right _ (List.mem_of_getElem? hi), in3.mpr y⟩)).1 hD
        refine q (.ow Dl (.lst acc)) (.ref Dl) _ B2 H2 ?_ (done acc Dl m2 w2)
        rw [hW]
        refine ⟨So.go, So.b0, So.kb, ⟨⟨rfl, wo, h00⟩, So.tm⟩, So.sl, ?_, So.hr⟩
        refine List.nodup_cons.mpr ⟨fun mm => ?_, So.nd⟩
        obtain ⟨x, mx, hx⟩ := List.mem_flatMap.mp mm
        have old : ∀ x ∈ τ ++ ρ', Dl ∈ x.ads → False := fun x mx hx => (S'.owned (List.mem_flatMap.mpr ⟨x, mx, hx⟩)).1 hD
        rcases List.mem_append.mp mx with y | y
        · exact old x (List.mem_append_left _ y) hx
        · rcases List.mem_or_eq_of_mem_set y with y | y
          · exact old x (List.mem_append_right _ y) hx
          · rw [y] at hx
            exact nD (in3.mp hx)
  exact ⟨wi, pi, w⟩
theorem xe_lcD (i : Nat) (vs : List Nat) (own : List (Str × Nat)) (hv : own.map (·.2) = vs) (hi : i ∉ vs) (h : XLd c i tg it elt ifs scope vs ρ P) (hN : c.X.N.Nodup) (ok : BlkOk c.X.N c.X.env.scope scope own) (hW : c.W = W0 := by rfl) (hc : c.X.calm = true := by rfl) (hs : ∀ x, foldedSetIterable it c.X.env x = pure x := by intro _; rfl) :
    XE c (.ListComp elt [⟨tg, it, ifs, 0⟩] scope pos) ρ P := fun β B H τ tv σ Q S X q => by
  subst hv
  obtain ⟨wi, pi, w⟩ := lcD_ok h hi hW S X q
  exact PEw (pe_lc hc hN pi ok (fun s H C cl fp => ⟨fun pins s2 σ2 H2 v u Q2 I r z => z s H C cl fp pins s2 u I r⟩) (fun s H C cl fp => pts_bl) (fun s H C cl fp => ⟨fun pins s2 σ2 H2 Q2 I z => z s H C cl fp pins s2 I⟩) hs) w
/-- y = [..] -/
theorem xs_setLcD {y : Str} {py spos : Pos} (j : Nat) (i : Nat) (vs : List Nat) (own : List (Str × Nat)) (hv : own.map (·.2) = vs) (hi : i ∉ vs) (h : XLd c i tg it elt ifs scope vs ρ fun r ρ' => r.here ∧ T.nx (ρ'.set j r)) (hN : c.X.N.Nodup) (ok : BlkOk c.X.N c.X.env.scope scope own)
    (hsw : swapsWith (.ListComp elt [⟨tg, it, ifs, 0⟩] scope pos) (some (.Name y py)) spos.line c.X.env = pure true) (hW : c.W = W0 := by rfl) (hy : c.X.N[j]? = some y := by rfl) (hyl : c.X.env.scope.names.lookup y = some .local := by rfl) (hc : c.X.calm = true := by rfl) (hs : ∀ x, foldedSetIterable it c.X.env x = pure x := by intro _; rfl) :
    XS c (.Assign [.Name y py] (.ListComp elt [⟨tg, it, ifs, 0⟩] scope pos) spos) ρ T := fun β B H σ D S X q => by
  subst hv
  obtain ⟨wi, pi, w⟩ := lcD_ok (Q := fun x H1 => gName j x σ H1 D.nx) h hi hW S (X σ) fun r v ρ' B' H' S' ⟨k1, k2⟩ => q.nx _ B' H' _ (S'.store k1 j) k2
  exact PSw (ps_setLc hc hN hy hyl hsw pi ok (fun s H C cl fp => ⟨fun pins s2 σ2 H2 v u Q2 I r z => z s H C cl fp pins s2 u I r⟩) (fun s H C cl fp => pts_bl) (fun s H C cl fp => ⟨fun pins s2 σ2 H2 Q2 I z => z s H C cl fp pins s2 I⟩) hs) w
end
end Dl

/-! ## keywords; name += e; a, b = e, e -/
namespace Dl
open PySem PySem.Spec PyProof.Rows L2
section
variable {c : DC} {e a b : Expr} {es : List Expr} {ρ : List E} {P : E → List E → Prop} {x y : Str} {k n : Nat} {dv : List V} {Fs : FS} {pos p : Pos} {T : Tg}
/-- name += e, whole numbers -/
theorem xs_addI {pos' : Pos} {m : Int} (i : Nat) (hi0 : ρ[i]? = some (.sh (.int m))) (h : XE c e ρ fun r ρ' => ∃ j : Int, r = .sh (.int j) ∧ ρ' = ρ ∧ T.nx (ρ.set i (.sh (.int (m + j))))) (hN : c.X.N.Nodup) (hi : c.X.N[i]? = some x := by rfl) (hx : Loc c.X.env.scope x := by first | exact .inl rfl | exact .inr rfl)
    (hf : c.X.fn x = true ∨ c.X.env.scope.names.lookup x = some .local := by first | exact .inl rfl | exact .inr rfl) : XS c (.AugAssign (.Name x pos') .Add e pos) ρ T := fun β B H σ D S X q => by
  obtain ⟨o, ho, v, rfl, rv⟩ := S.slot hi0
  cases rv
  refine PSw (ps_aug hN hi hx pe_w ip_add hf) ⟨_, ho, h β B H [] [] σ _ S (X σ) fun r v ρ' B' H' S' ⟨j, hj, hρ, k⟩ => ?_⟩
  subst hj; subst hρ
  have rr := S'.rep
  cases rr
  exact ⟨m, j, rfl, rfl, q.nx _ B' H' _ ((S'.pop.push (.int (m + j))).store trivial i) k⟩
/-- a, b = e, e (names of one's own) -/
theorem xs_par {px py pt pt2 : Pos} {kt k2 : Nat} (i j : Nat) (h : XA c [a, b] ρ fun rs ρ' => ∃ d1 d2, rs = [.sh d1, .sh d2] ∧ T.nx ((ρ'.set i (.sh d1)).set j (.sh d2))) (hN : c.X.N.Nodup) (hij : i ≠ j := by decide) (hi : c.X.N[i]? = some x := by rfl) (hj : c.X.N[j]? = some y := by rfl)
    (hx : c.X.env.scope.names.lookup x = some .local := by rfl) (hy : c.X.env.scope.names.lookup y = some .local := by rfl) (hc : c.X.calm = true := by rfl)
    (hw : swappedStores [.Tuple [.Name x px, .Name y py] kt pt] (.Tuple [a, b] k2 pt2) c.X.env = pure (some [x, y]) := by rfl)
    (hs : swapsWithSole [.Tuple [.Name x px, .Name y py] kt pt] (.Tuple [a, b] k2 pt2) pos.line c.X.env = pure false := by rfl) : XS c (.Assign [.Tuple [.Name x px, .Name y py] kt pt] (.Tuple [a, b] k2 pt2) pos) ρ T := fun β B H σ D S X q => by
  refine PSw (ps_par hc hN hi hj hij hx hy pa_w hw hs) (h β B H [] [] σ _ S (X σ) fun rs vs ρ' B' H' l S' ⟨d1, d2, hrs, k⟩ => ?_)
  subst hrs
  match vs, l, S' with
  | [v1, v2], _, S' =>
    obtain ⟨⟨u1, e1, r1⟩, ⟨u2, e2, r2⟩, _⟩ := S'.tm
    cases e1; cases e2
    refine ⟨v1, v2, rfl, q.nx _ B' H' _ ?_ k⟩
    have S2 : SR c.X.K c.W β [] ρ' B' H' [] σ := S'.pops
    have S3 := (S2.push r1).store trivial i
    exact (S3.push r2).store trivial j
end
end Dl

/-! ## entering a def at a given surrounding; the law's end there (stands beside the library's fn_of and law_call, which keep nothing of what is being shown) -/
namespace Dl
open PySem PySem.Spec PyProof.Rows L2
section
variable {P : Program} {w : World} {K : PySem.W.Frag} {mg : Str → Option Value} {base : Heap} {x qual : Str} {params : Arguments} {body : List Stmt} {scope : Scope} {dvs : List V} {kws : List (Str × V)} {f : Addr} {fd : FuncData}
/-- one entry: what the body makes of it -/
theorem enter {CT : CXT} {N ps : List Str} {Ar : Around} {out : List Env} {s : Shared} {H : Hp} {args : Args} {us : List Value} {ws : List V} {Q : VK} {Ex : XK} (F : FunD K x qual params body scope dvs kws f fd) (S : FnScope N ps scope)
    (en : Env0 P w K mg base Ar out s H) (free : Ar.handled = none) (deep : Ar.depth < recursionLimit) (bd : BindsTo s fd args (ps.zip us)) (rv : Vals ws us) (len : ws.length = ps.length)
    (go : ∀ cdv, wB (cxOf CT P w K mg base N qual scope f cdv Ar out s H Ex) body { nx := fun _ H' => Q .non H', rt := Q } (L2.start N ws) H) :
    codeAny (model P w) Ar (.call (.ref f) args) (CR CT out P w H s Q Ex) s := by
  obtain ⟨_, _, _, _, _, _, _, cdv, _, _, rfl, at_f, code, _, _⟩ := F.ex
  have inK : K.In s.heap := en.mod.kin.keeps fun _ _ q => (en.bs _ _ q).1
  apply codeAny_call_function deep (inK _ _ at_f) rfl S.co S.gen rfl (PySem.W.codeRec_of inK code)
  apply bd
  apply wpAny_newFunctionEnv_cells S.kind
  · rintro ⟨y, v⟩ hy
    exact (S.par y (List.of_mem_zip hy).1).imp_right fun q => ⟨q, PySem.W.cellsFrom_some _ _ _ (.inl q)⟩
  · rintro env rfl s1 laid
    refine ⟨(en.mod.nolimit.keeps fun _ _ q => (en.bs _ _ q).1).keeps laid.toInCall.keep, codeAny_func ?_⟩
    refine wpAny_mono (go cdv [] s1 (inv_start S free en len rv laid)) ?_ fun _ _ z => z
    rintro (_ | _ | _ | u) s2 hs
    · obtain ⟨_, H2, J, q⟩ := hs
      exact ⟨V.non, H2, J.os, J.bare, J.base, J.hok, rfl, q⟩
    all_goals first
      | exact (hs.choose_spec.choose_spec.2 : False).elim
      | (obtain ⟨v, _, H2, J, rr, q⟩ := hs; exact ⟨v, H2, J.os, J.bare, J.base, J.hok, rr, q⟩)
end

section
variable {P : Program} {w : World} {K : PySem.W.Frag} {mg mb : Str → Option Value} {s : Shared} {a : Addr} {scr : Obj} {vals : List Value} {ns : List Int}
theorem int_vals : ∀ {vals : List Value} {ns : List Int}, IntsAre vals ns → Vals (ns.map V.int) vals
  | [], _, .nil => .nil
  | _ :: _, _, .cons _ t more => .cons ⟨t, rfl⟩ (int_vals more)
open Classical in
/-- what one tracks at the law's beginning: the script, if it is none of the module's own objects -/
noncomputable def scriptHp (K : PySem.W.Frag) (a : Addr) (scr : Obj) (ns : List Int) : Hp := fun z => if z = a ∧ K.lookup a = none then some (.frz scr (.lst (ns.map V.int))) else none
theorem scriptHp_some {z : Addr} {u : HO} (q : scriptHp K a scr ns z = some u) : z = a ∧ K.lookup a = none ∧ u = .frz scr (.lst (ns.map V.int)) := by
  unfold scriptHp at q
  split at q
  · rename_i c
    exact ⟨c.1, c.2, (Option.some.inj q).symm⟩
  · cases q
theorem scriptHp_off {z : Addr} (q : z = a → K.lookup a ≠ none) : scriptHp K a scr ns z = none := if_neg fun c => q c.1 c.2
/-- the head's facts, as a def at the caller finds them -/
theorem begun (inK : K.In s.heap) (gl : s.heap.Ns mainGlobals mg) (bl : s.heap.Ns builtinsNs mb) (bb : ∀ y : Str, y ≠ "__name__" → mb y = bootBuiltins y) (nl : s.heap.NoLimit) (gens : s.gens = #[])
    (hsc : scr = { cls := .type "list", data := .seq vals.toArray }) (at_a : s.heap.get? a = some scr) (isn : IntsAre vals ns) (few : ns.length ≤ sizeLine) :
    Env0 P w K mg (hidT s.heap (scriptHp K a scr ns)) callerA [] s (scriptHp K a scr ns) ∧ SqL K (scriptHp K a scr ns) a (ns.map V.int) := by
  subst hsc
  generalize hH : scriptHp K a { cls := .type "list", data := .seq vals.toArray } ns = H
  have only : ∀ {z u}, H z = some u → z = a ∧ K.lookup a = none ∧ u = .frz { cls := .type "list", data := .seq vals.toArray } (.lst (ns.map V.int)) := fun q => scriptHp_some (by rw [hH]; exact q)
  have dicts : ∀ {z : Addr} {m : Str → Option Value}, s.heap.Ns z m → (hidT s.heap H).Ns z m := by
    rintro z m ⟨o, es, ep, e, d, r⟩
    refine ⟨o, es, ep, hidT_get e ?_, d, r⟩
    cases q : H z with
    | none => rfl
    | some u =>
      have za := (only q).1
      rw [za, at_a] at e
      cases e
      exact absurd d (by intro z; cases z)
  have kept : K.In (hidT s.heap H) := fun z o e => hidT_get (inK z o e) (by
    cases q : H z with
    | none => rfl
    | some u =>
      have k := only q
      rw [k.1, k.2.1] at e
      cases e)
  have size : (ns.map V.int).length ≤ sizeLine := by rw [List.length_map]; exact few
  obtain ⟨ml, l1, l2⟩ := nl
  refine ⟨⟨rfl, ⟨kept, dicts gl, ⟨mb, dicts bl, bb⟩, ⟨ml, dicts l1, l2⟩⟩, fun z o e => of_hidT e, Nat.le_of_eq (hidT_size s.heap H), trivial, fun z m => (List.not_mem_nil (show z ∈ ([] : List Addr) from m)).elim, fun z u q => ?_, .of_eq gens⟩, ?_⟩
  · obtain ⟨rfl, _, rfl⟩ := only q
    exact ⟨at_a, size, vals, _, int_vals isn, at_a⟩
  · cases q : K.lookup a with
    | none => exact .inl (.inr ⟨_, by rw [← hH]; exact if_pos ⟨rfl, q⟩⟩)
    | some o =>
      have e := (inK a o q).symm.trans at_a
      cases e
      refine .inr ⟨_, vals.toArray, _, q, rfl, rfl, rfl, ?_, ?_⟩
      · rw [List.size_toArray, isn.length]; exact few
      · exact int_vals isn
end
/-- THE LAW'S END: its body, at the caller -/
theorem law_end {l : PySem.W.OpenLaw} {n : Nat} {q : Program} {loose : List Str} {XP : (Str → Option Value) → Heap → Prop} {YP : World → Heap → Prop} {d : DefRec} {x nm qual : Str} {params : Arguments} {body : List Stmt} {scope : Scope} {N : List Str}
    (most : l.most = some n) (small : n ≤ sizeLine) (nodef : d.params.defaults = []) (S : FnScope N [x] scope)
    (F : ∀ (w : World) (mg : Str → Option Value) (fa : Addr) (h : Heap), YP w h → h.Ns mainGlobals mg → mg d.name = some (.ref fa) →
      ∃ (K : PySem.W.Frag) (fd : FuncData), K.In h ∧ FunD K nm qual params body scope [] [] fa fd ∧ (∀ (s : Shared) (u : Value), BindsTo s fd ⟨[u], []⟩ [(x, u)]) ∧
        ∀ (base : Heap) (cdv : Value) (s : Shared) (H : Hp) (Ex : XK) (ns : List Int), K.In base → base.Ns mainGlobals mg → ns.length ≤ n →
          XB (mkC l.prog w K mg base N qual scope fa cdv callerA [] s H Ex W0 fun _ _ => False) body (.sh (.frl ns) :: List.replicate (N.length - 1) .no) ⟨fun _ => False, fun r _ => r = .sh (.bl true), fun _ => False, fun _ => False⟩) :
    PySem.W.WalkO q loose XP YP l.row.toRowW d [] (fun g us => PySem.call g us) := by
  refine Att.attach_call most nodef fun w sa s mg mb fa o pm cd doc a vals ns G Y _ _ _ named at_a isn len gens => ?_
  obtain ⟨K, fd, inK, FD, binds, law⟩ := F w mg fa s.heap Y G.T.g named
  obtain ⟨en, sq⟩ := begun (P := l.prog) (w := w) inK G.T.g G.T.b G.T.builtins G.T.nolimit gens rfl at_a isn (Nat.le_trans len small)
  generalize hsc : ({ cls := .type "list", data := .seq vals.toArray } : Obj) = scr at *
  generalize hH : scriptHp K a scr ns = H at *
  refine codeAny_mono (enter (CT := L2.CX l.prog w) (us := [.ref a]) (ws := [.ref a]) (Q := fun v _ => v = .bl true) (Ex := fun _ _ _ => False) FD S en rfl (by decide) (binds s (.ref a)) (.cons rfl .nil) rfl fun cdv => ?_) fun r s' z => ?_
  · refine law _ cdv s H _ ns en.mod.kin en.mod.glob len ⟨H, H, H⟩ H H (L2.start N [.ref a]) { nx := fun _ H' => (V.non : V) = .bl true, rt := fun v _ => v = .bl true } ?_ (fun σ ρ B' H' cls dx pd _ _ no => no.elim) ⟨?_, ?_, ?_, ?_⟩
    · refine ⟨.refl (.refl H) trivial fun _ no => no.elim, .refl H, .refl H, trivial, ?_, ?_, ?_⟩
      · refine ⟨⟨_, rfl, .frl sq⟩, ?_⟩
        show All2 _ (List.replicate (N.length - 1) E.no) (List.replicate (N.length - 1) none)
        induction N.length - 1 with
        | zero => trivial
        | succ j ih => exact ⟨trivial, ih⟩
      · have z2 : ∀ j : Nat, (List.replicate j E.no).flatMap E.ads = [] := fun j => by
          induction j with
          | zero => rfl
          | succ j ih => exact ih
        show (List.flatMap E.ads (List.replicate (N.length - 1) E.no)).Nodup
        rw [z2]; exact List.nodup_nil
      · rintro e me
        rcases List.mem_cons.mp me with rfl | me
        · trivial
        · rw [(List.mem_replicate.mp me).2]; trivial
    · exact fun ρ B' H' σ S' no => no.elim
    · intro r v ρ B' H' σ S' hr
      subst hr
      have rp := S'.rep
      cases rp
      rfl
    · exact fun ρ B' H' σ S' no => no.elim
    · exact fun ρ B' H' σ S' no => no.elim
  · match r, z with
    | .ok (.ret u), z =>
      obtain ⟨v, H', os, bare, un, okH, rel, hv⟩ := z
      subst hv
      obtain rfl : u = Value.bool true := rel
      refine ⟨rfl, OldK.of_keep fun b o e => ?_, os, bare⟩
      cases hz : H b with
      | none => exact un.keep b o e hz (List.not_mem_nil (a := b)) List.not_mem_nil
      | some u =>
        subst hH
        obtain ⟨rfl, _, rfl⟩ := scriptHp_some hz
        rw [at_a] at e
        cases e
        exact (okH _ _ (un.frzs _ _ _ hz)).1
    | .error er, z =>
      have : L2.CX l.prog w [] H s (fun _ _ _ => False) er s' := z
      exact False.elim (by
        revert this
        simp [L2.CX])
    | .ok .next, z => exact False.elim z
    | .ok .brk, z => exact False.elim z
    | .ok .cont, z => exact False.elim z
end Dl

/-! ## d[k] of dicts by texts and whole numbers; calls by keywords alone -/
namespace Dl
open PySem PySem.Spec PyProof.Rows L2
/-- the value at k -/
def look (kds : List (Key × D)) (k : Key) : Option D := (kds.find? fun kd => decide (kd.1 = k)).map (·.2)
theorem look_rep {K : PySem.W.Frag} {B : Hp} {k : Key} {d : D} : ∀ {kvs : List (Key × V)} {kds : List (Key × D)}, kvs.map (·.1) = kds.map (·.1) → Reps K B (kvs.map (·.2)) (kds.map (·.2)) → look kds k = some d → ∃ v, valV kvs k = some v ∧ Rep K B v d
  | [], [], _, _, h => by cases h
  | _ :: _, [], e, _, _ => by cases e
  | [], _ :: _, e, _, _ => by cases e
  | (k1, v1) :: kvs, (k2, d2) :: kds, e, r, h => by
    rw [List.map_cons, List.map_cons, List.cons.injEq] at e
    obtain ⟨e1, e2⟩ := e
    have e1 : k1 = k2 := e1
    subst e1
    cases r with
    | cons r1 r2 =>
      by_cases q : k1 = k
      · refine ⟨v1, valV_pos q, ?_⟩
        have : look ((k1, d2) :: kds) k = some d2 := by simp [look, List.find?_cons, q]
        rw [this] at h
        cases h
        exact r1
      · have : look ((k1, d2) :: kds) k = look kds k := by simp [look, List.find?_cons, q]
        rw [this] at h
        obtain ⟨v, e3, r3⟩ := look_rep e2 r2 h
        exact ⟨v, (valV_neg q).trans e3, r3⟩
def kD : Key → D
  | .inl i => .int i
  | .inr z => .str z
section
variable {c : DC} {e a b : Expr} {es : List Expr} {ρ : List E} {P : E → List E → Prop} {x y : Str} {k n : Nat} {pos p : Pos} {T : Tg}
/-- d[e] -/
theorem xe_dget (hu : c.X.A.units + 1 < cLine) (h : XE c a ρ fun r1 ρ1 => XE c b ρ1 fun r2 ρ2 => ∃ kds k d, Rdr ρ2 r1 (.dK kds) ∧ r2 = .sh (kD k) ∧ look kds k = some d ∧ P (.sh d) ρ2) (hs : NoSl b := by exact fun _ _ => rfl) : XE c (.Subscript a b pos) ρ P := fun β B H τ tv σ Q S X q => by
  refine PEw (pe_dget hu pe_w pe_w hs) (h β B H τ tv σ _ S X fun r1 x1 ρ1 B1 H1 S1 h1 => ?_)
  refine h1 β B1 H1 (r1 :: τ) (x1 :: tv) σ _ S1 X fun r2 x2 ρ2 B2 H2 S2 h2 => ?_
  obtain ⟨kds, k, d, rd, rfl, lk, hP⟩ := h2
  have e2 := S2.rep
  have S3 := S2.pop
  obtain ⟨A, kvs, rfl, hA, ek, er⟩ := rd_dK (S3.rd rd) S3.go.ext
  obtain ⟨v, ev, rv⟩ := look_rep ek er lk
  refine ⟨A, v, rfl, ?_, q _ _ _ _ _ (S3.pop.push rv) hP⟩
  have ex : x2 = kV k := by
    cases k <;> (cases e2; rfl)
  rw [ex, ← ev]
  exact .inl ⟨kvs, k, hA, rfl, rfl⟩
end

/-! ### f(k = e, ..) -/
def pick {α : Type} (ix : List Nat) (l : List α) : List α := ix.filterMap (l[·]?)
theorem pick_cons {α : Type} {i : Nat} {ix : List Nat} {l : List α} {a : α} (h : l[i]? = some a) : pick (i :: ix) l = a :: pick ix l := List.filterMap_cons_some h
theorem pick_len {α : Type} {l : List α} : ∀ {ix : List Nat}, (∀ i ∈ ix, i < l.length) → (pick ix l).length = ix.length
  | [], _ => rfl
  | i :: ix, h => by
    rw [pick_cons (List.getElem?_eq_getElem (h i (List.mem_cons_self ..))), List.length_cons, List.length_cons, pick_len fun j hj => h j (List.mem_cons_of_mem _ hj)]
theorem vals_pick {vs : List V} {us : List Value} (r : Vals vs us) : ∀ {ix : List Nat}, (∀ i ∈ ix, i < vs.length) → Vals (pick ix vs) (pick ix us)
  | [], _ => .nil
  | i :: ix, h => by
    have l := h i (List.mem_cons_self ..)
    have e := List.getElem?_eq_getElem l
    obtain ⟨u, eu, ru⟩ := r.get e
    rw [pick_cons e, pick_cons eu]
    exact .cons ru (vals_pick r fun j hj => h j (List.mem_cons_of_mem _ hj))
theorem reps_pick {K : PySem.W.Frag} {B : Hp} {vs : List V} {ds : List D} (r : Reps K B vs ds) : ∀ {ix : List Nat}, (∀ i ∈ ix, i < vs.length) → Reps K B (pick ix vs) (pick ix ds)
  | [], _ => .nil
  | i :: ix, h => by
    have l := h i (List.mem_cons_self ..)
    have e := List.getElem?_eq_getElem l
    obtain ⟨d, ed, rd⟩ := r.at' e
    rw [pick_cons e, pick_cons ed]
    exact .cons rd (reps_pick r fun j hj => h j (List.mem_cons_of_mem _ hj))
theorem SR.pushAll {K : PySem.W.Frag} {W : Wd} {β : Bs} {B H : Hp} {τ ρ : List E} {tv : List V} {σ : L2.St} : ∀ {vs : List V} {ds : List D}, Reps K B vs ds → SR K W β τ ρ B H tv σ → SR K W β (ds.map E.sh ++ τ) ρ B H (vs ++ tv) σ
  | [], [], .nil, S => S
  | _ :: _, _ :: _, .cons r rs, S => SR.push (SR.pushAll rs S) r
/-- a def called by keywords alone: ks their names, in the call's order; ix: where each parameter stands there -/
structure Kn (P : Program) (w : World) (K : PySem.W.Frag) (mg : Str → Option Value) (base : Heap) (x : Str) (k : Nat) (n : Nat) (ks : List Str) (ix : List Nat) (F : FS) : Prop where
  ex : ∃ (f : Addr) (fd : FuncData) (ps : List Str), FnOk P w K mg base (L2.CX P w) k f fd ps (spD K W0 n F) ∧ mg x = some (.ref f) ∧ PySem.W.keepIn K (.ref f) = true ∧ ps.length = n ∧
    ∀ (s : Shared) (us : List Value), us.length = ks.length → BindsTo s fd ⟨[], ks.zip us⟩ (ps.zip (pick ix us))
/-- the keywords' values -/
def wK (X : Cx) (kws : List Keyword) : TA := fun σ H Q => ∀ (pos : Pos) (pins : List (Addr × Obj)) (s : Shared), Inv X pins σ H s → wpAny (model X.prog X.w) X.A (evalAll ((backToKw pos (keywordEach kws X.env)).map (·.2))) (AP X pins σ Q) X.xe s
theorem pk_w {X : Cx} {kws : List Keyword} : PK X kws (wK X kws) := ⟨fun pos pins s _ _ _ I h => h pos pins s I⟩
def XKs (c : DC) (kws : List Keyword) (ρ : List E) (P : List E → List E → Prop) : Prop := ∀ (β : Bs) (B H : Hp) (τ : List E) (tv : List V) (σ : L2.St) (Q : List V → Hp → Prop), SR c.X.K c.W β τ ρ B H tv σ → XOk c β σ →
  (∀ rs vs ρ' B' H', rs.length = vs.length → SR c.X.K c.W β (rs ++ τ) ρ' B' H' (vs ++ tv) σ → P rs ρ' → Q vs H') → wK c.X kws σ H Q
section
variable {c : DC} {e a b : Expr} {es : List Expr} {ρ : List E} {P : E → List E → Prop} {PL : List E → List E → Prop} {x y : Str} {k n : Nat} {pos p kp : Pos} {T : Tg} {nm : Option Str} {kws : List Keyword} {ks : List Str} {ix : List Nat} {Fs : FS}
theorem xk_nil (k : PL [] ρ) : XKs c [] ρ PL := fun β B H τ tv σ Q S X q pos pins s I => (pk_nil (X := c.X)).run pos pins s σ H Q I (q [] [] ρ B H rfl S k)
theorem xk_cons (h : XE c e ρ fun r ρ' => XKs c kws ρ' fun rs ρ'' => PL (r :: rs) ρ'') : XKs c (⟨nm, e, kp⟩ :: kws) ρ PL := fun β B H τ tv σ Q S X q pos pins s I =>
  (pk_cons pe_w pk_w).run pos pins s σ H Q I (h β B H τ tv σ _ S X fun r v ρ' B' H' S' p => p β B' H' (r :: τ) (v :: tv) σ _ S' X fun rs vs ρ'' B'' H'' l S'' p' =>
    q (r :: rs) (v :: vs) ρ'' B'' H'' (congrArg Nat.succ l) (S''.rot l) p')
/-- f(k = e, ..) -/
theorem xe_callK (f : Kn c.X.prog c.X.w c.X.K c.X.mg c.X.base x k n ks ix Fs) (hr : Room k c.X.A) (h : XKs c kws ρ fun rs ρ' => ∃ ds, rs.mapM E.dat = some ds ∧ ds.length = ks.length ∧ Fs ((pick ix ds).map E.sh) (fun r => P r ρ') (fun cls pd => c.ex cls pd ρ'))
    (hks : (backToKw pos (keywordEach kws c.X.env)).filterMap (·.1) = ks := by rfl) (hix : ∀ i ∈ ix, i < ks.length := by decide) (hin : ix.length = n := by rfl) (hall : (backToKw pos (keywordEach kws c.X.env)).all (·.1.isSome) = true := by rfl)
    (hg : Gl c.X x := by rfl) (hdb : (x == ("__debug__" : Str)) = false := by decide)
    (hpl : ((backTo pos (starEach [] c.X.env)).any (·.1) || (backToKw pos (keywordEach kws c.X.env)).any (·.1.isNone)) = false := by rfl) :
    XE c (.Call (.Name x p) [] kws pos) ρ P := fun β B H τ tv σ Q S X q => by
  obtain ⟨fa, fd, ps, F, hm, hk, hps, hb⟩ := f.ex
  intro pins s I
  refine wpAny_Call_Name_kw (ld_glob I hg hm ?_ hdb)
  refine PySem.W.callWith_KW0 (h₀ := c.X.base) I.ok.mod.kin hk hall ?_ hpl
  refine thn (h β B H τ tv σ (fun vs H1 => vs.length = ks.length ∧ spD c.X.K W0 n Fs (pick ix vs) H1 Q (fun cls d H' => c.Wx cls d σ H')) S X (fun rs vs ρ' B' H' l S' ⟨ds, hds, hdl, hF⟩ => ?_) pos pins s I) fun us s1 ⟨vs, H1, I1, rv, hvl, hq⟩ => ⟨I1.kIn, ?_⟩
  · obtain ⟨B1, S1⟩ := S'.shareAll l hds
    have l2 : (ds.map E.sh).length = vs.length := by rw [List.length_map, ← l]; exact (SR.shareAll.mapM_len hds).symm
    have S2 : SR c.X.K c.W β τ ρ' B1 H' tv σ := SR.popAll l2 S1
    have hvl : vs.length = ks.length := by rw [← l2, List.length_map, hdl]
    have rr := reps_of l2 S1
    have rp := reps_pick rr (ix := ix) fun i hi => by rw [hvl]; exact hix i hi
    have pl : (pick ix vs).length = n := (pick_len fun i hi => by rw [hvl]; exact hix i hi).trans hin
    have S3 := SR.pushAll rp S2
    have l3 : ((pick ix ds).map E.sh).length = (pick ix vs).length := by rw [List.length_map, rp.len]
    have S4 := S3.args (dv := []) l3 W0 (.refl S3.go.ext trivial fun _ f => f.elim)
    simp only [List.map_nil, List.append_nil] at S4
    refine ⟨hvl, pl, _, B1, H', _, _, S4, hF, fun r v B2 H2 R hr k => ?_, fun B2 H2 cls dx pd R e k => ?_⟩
    · have g := Go.lift c.W R.go S1.go.ok S1.go.nf
      have R2 : SR c.X.K c.W ⟨B1, H', B1⟩ [r] [] B2 H2 [v] [] := by
        refine ⟨g, R.b0, R.kb, ⟨?_, trivial⟩, trivial, R.nd, R.hr⟩
        have t := R.tm.1
        cases r with
        | sh d => exact t
        | ow p d => exact t
        | _ => exact hr.elim
      exact q r v ρ' B2 H2 (S2.back R2 hr) k
    · exact X ρ' B2 H2 cls dx pd (S2.step (Go.lift c.W R.go S1.go.ok S1.go.nf)).pops e k
  · rw [hks]
    have ul : us.length = ks.length := by rw [← rv.length]; exact hvl
    refine wpAny_call (codeAny_mono (F.run c.X.A c.X.stack s1 H1 ⟨[], ks.zip us⟩ (pick ix us) (pick ix vs) Q _ hr I1.env0 (hb s1 us ul) (vals_pick rv fun i hi => by rw [hvl]; exact hix i hi) hq) fun z s2 hz => ?_)
    match z, hz with
    | .error er, hz => exact passAt c.tk σ pins H1 s1 er s2 I1 hz
    | .ok (.ret u), hz => exact I1.after hz
    | .ok .next, hz => exact False.elim hz
    | .ok .brk, hz => exact False.elim hz
    | .ok .cont, hz => exact False.elim hz
end
end Dl

/-! ## isinstance, all, any, chains, dict displays, instances of own classes -/
namespace Dl
open PySem PySem.Spec PyProof.Rows L2
/-- what isinstance asks of an own class, besides Cls -/
structure ClsX (K : PySem.W.Frag) (C : Addr) : Prop where
  cls : Cls K C
  ca : PySem.W.findIn K (.ref C) "__class__" = some (some (.builtin "object.__class__"))
  cn : PySem.W.specialIn K (.builtin "object.__class__") "__get__" = some (some (.builtin "getset_descriptor.__get__"))
  ct : PySem.W.takesIn K (.builtin "object.__class__") = some true
  cm : PySem.W.mroIn K C (.type "object") = some true
def tyD : D → String
  | .non => "NoneType"
  | .bl _ => "bool"
  | .int _ => "int"
  | .str _ => "str"
  | .lst _ => "list"
  | .frl _ => "list"
  | .tup _ => "tuple"
  | _ => "dict"
def isTy : D → Bool
  | .adr _ => false
  | .ins _ _ => false
  | .dT _ => false
  | _ => true
inductive TyD (K : PySem.W.Frag) : D → Value → Prop
  | base {d : D} (h : isTy d = true) : TyD K d (.type (tyD d))
  | ins {C : Addr} {fs : List (Str × D)} (h : ClsX K C) : TyD K (.ins C fs) (.ref C)
theorem tyx {K : PySem.W.Frag} {B H : Hp} {v : V} {d : D} {t : Value} (e : Ex B H) (h : Rep K B v d ∨ ∃ p, v = .ref p ∧ Own K B H p d) (ty : TyD K d t) : TyX K H v t := by
  cases ty with
  | base hb =>
    rcases h with h | ⟨p, rfl, h⟩
    · cases h with
      | non => exact .base .non
      | bl b => exact .base (.bl b)
      | int i => exact .base (.int i)
      | str x => exact .base (.str x)
      | adr a => cases hb
      | lst q r => exact .base (.lst (e _ _ q))
      | frl q =>
        rcases e.sl q with q | ⟨o, its, n, k, c, _⟩
        · rcases q with q | ⟨o, q⟩
          · exact .base (.lst q)
          · exact .base (.frz q)
        · exact .kList k c
      | tup q r => exact .base (.tup (e _ _ q))
      | dK q k r =>
        rcases e.rd q with q | ⟨o, q⟩
        · exact .base (.dK q)
        · exact .fDict q
      | dT q k r => cases hb
      | ins q k r => cases hb
    · cases d with
      | lst ds => obtain ⟨_, vs, q, _⟩ := h; exact .base (.lst q)
      | dK ds => obtain ⟨_, vs, q, _⟩ := h; exact .base (.dK q)
      | dT ds => cases hb
      | ins C fs => cases hb
      | _ => exact h.elim
  | ins cx =>
    rcases h with h | ⟨p, rfl, h⟩
    · cases h with
      | ins q k r => exact .base (.ins (e _ _ q) cx.cls cx.ca cx.cn cx.ct cx.cm)
    · obtain ⟨_, dx, fs, q, _⟩ := h
      exact .base (.ins q cx.cls cx.ca cx.cn cx.ct cx.cm)
section
variable {c : DC} {e a b d : Expr} {es : List Expr} {ρ : List E} {P : E → List E → Prop} {PB : Bool → List E → Prop} {x y : Str} {k n : Nat} {pos p p2 apos : Pos} {T : Tg} {f : Str}
/-- isinstance(e, T), T a built-in type -/
theorem xe_isiB {T : String} (hm : c.X.mg "isinstance" = none) (hv : bootBuiltins "isinstance" = some (.builtin "isinstance")) (ht : c.X.mg x = none) (hvt : bootBuiltins x = some (.type T)) (h : XE c e ρ fun r ρ' => ∃ d t b, Rdr ρ' r d ∧ TyD c.X.K d t ∧ PySem.W.kitOne c.X.K t (.type T) = some b ∧ P (.sh (.bl b)) ρ')
    (hg : Gl c.X "isinstance" := by rfl) (hgx : Gl c.X x := by rfl) (hn : x ≠ "__name__" := by decide) (hd : (x == ("__debug__" : Str)) = false := by decide)
    (he : starEach [e, .Name x p2] c.X.env = (false, eval e c.X.env) :: starEach [.Name x p2] c.X.env := by exact star_cons rfl) (hpl : (backTo pos (starEach [.Name x p2] c.X.env)).any (·.1) = false := by exact star_no rfl) : XE c (.Call (.Name "isinstance" p) [e, .Name x p2] [] pos) ρ P := fun β B H τ tv σ Q S X q =>
  PEw (pe_callB call_isi hg hm hv (pa_cons pe_w (pa_cons (pe_bltn (v := .ty T) hgx ht hvt rfl hn hd) pa_nil) he) (by decide) (by decide) he hpl) (h β B H τ tv σ _ S X fun r v ρ' B' H' S' ⟨d, t, b, rd, ty, ki, hP⟩ =>
    ⟨v, .ty T, t, .type T, b, rfl, .ty T, tyx S'.go.ext (S'.rd rd) ty, ki, q _ _ _ _ _ (S'.pop.push (.bl b)) hP⟩)
/-- isinstance(e, C), C an own class -/
theorem xe_isiC {C : Addr} (hm : c.X.mg "isinstance" = none) (hv : bootBuiltins "isinstance" = some (.builtin "isinstance")) (ht : c.X.mg x = some (.ref C)) (h : XE c e ρ fun r ρ' => ∃ d t b, Rdr ρ' r d ∧ TyD c.X.K d t ∧ PySem.W.kitOne c.X.K t (.ref C) = some b ∧ P (.sh (.bl b)) ρ')
    (hg : Gl c.X "isinstance" := by rfl) (hgx : Gl c.X x := by rfl) (hd : (x == ("__debug__" : Str)) = false := by decide)
    (he : starEach [e, .Name x p2] c.X.env = (false, eval e c.X.env) :: starEach [.Name x p2] c.X.env := by exact star_cons rfl) (hpl : (backTo pos (starEach [.Name x p2] c.X.env)).any (·.1) = false := by exact star_no rfl) : XE c (.Call (.Name "isinstance" p) [e, .Name x p2] [] pos) ρ P := fun β B H τ tv σ Q S X q =>
  PEw (pe_callB call_isi hg hm hv (pa_cons pe_w (pa_cons (pe_glob (v := .ref C) hgx ht rfl hd) pa_nil) he) (by decide) (by decide) he hpl) (h β B H τ tv σ _ S X fun r v ρ' B' H' S' ⟨d, t, b, rd, ty, ki, hP⟩ =>
    ⟨v, .ref C, t, .ref C, b, rfl, .own C, tyx S'.go.ext (S'.rd rd) ty, ki, q _ _ _ _ _ (S'.pop.push (.bl b)) hP⟩)
theorem reps_bls {K : PySem.W.Frag} {B : Hp} : ∀ {vs : List V} {bs : List Bool}, Reps K B vs (bs.map D.bl) → vs = bs.map V.bl
  | _, [], .nil => rfl
  | _, _ :: _, .cons r rs => by cases r; rw [reps_bls rs]; rfl
theorem c_all {r : E} {bs : List Bool} (h : Rdr ρ r (.lst (bs.map D.bl))) (k : P (.sh (.bl (bs.all id))) ρ) (hc : c.X.calm = true := by rfl) : CP c (.builtin "all") [r] ρ P := fun β B H τ tv σ xs Q l S X q => by
  match xs, l with
  | [v], _ =>
    have S1 : SR c.X.K c.W β (r :: τ) ρ B H (v :: tv) σ := S
    obtain ⟨a, ws, rfl, ha, ra⟩ := rd_lst (S1.rd h) S1.go.ext
    have e := reps_bls ra
    subst e
    exact ⟨_, cr_all hc, a, bs, rfl, sq_l ha, q _ _ _ _ _ (S1.pop.push (.bl _)) k⟩
theorem c_any {r : E} {bs : List Bool} (h : Rdr ρ r (.lst (bs.map D.bl))) (k : P (.sh (.bl (bs.any id))) ρ) (hc : c.X.calm = true := by rfl) : CP c (.builtin "any") [r] ρ P := fun β B H τ tv σ xs Q l S X q => by
  match xs, l with
  | [v], _ =>
    have S1 : SR c.X.K c.W β (r :: τ) ρ B H (v :: tv) σ := S
    obtain ⟨a, ws, rfl, ha, ra⟩ := rd_lst (S1.rd h) S1.go.ext
    have e := reps_bls ra
    subst e
    exact ⟨_, cr_any hc, a, bs, rfl, sq_l ha, q _ _ _ _ _ (S1.pop.push (.bl _)) k⟩
/-! ### a op b op' d -/
theorem xe_chain {op op' : CmpOp} (h : XE c a ρ fun r1 ρ1 => XE c b ρ1 fun r2 ρ2 => ∃ d2, r2 = .sh d2 ∧ OP c (compareOp op) r1 r2 ρ2 fun r ρ3 => ∃ k, r = .sh (.bl k) ∧ (k = true → XE c d ρ3 fun r3 ρ4 => OP c (compareOp op') (.sh d2) r3 ρ4 P) ∧ (k = false → P (.sh (.bl false)) ρ3))
    (hm : lastMarks [op, op'] [b, d] = false := by with_unfolding_all rfl) : XE c (.Compare a [op, op'] [b, d] pos) ρ P := fun β B H τ tv σ Q S X q => by
  let R (o : CmpOp) : R2 := fun x y H Q => ∃ R : R2, OpR c.X (compareOp o) R ∧ R x y H Q
  have hR : ∀ o, OpR c.X (compareOp o) (R o) := fun o pins s σ H x y v u Q I rx ry ⟨R', o, h⟩ => o pins s σ H x y v u Q I rx ry h
  refine PEw (pe_chain (hR op) (hR op') pe_w pe_w pe_w hm) (h β B H τ tv σ _ S X fun r1 x ρ1 B1 H1 S1 h1 => ?_)
  refine h1 β B1 H1 (r1 :: τ) (x :: tv) σ _ S1 X fun r2 y ρ2 B2 H2 S2 ⟨d2, e2, h2⟩ => ?_
  subst e2
  have ry := S2.rep
  refine h2 (β.re B2) B2 H2 τ tv σ x y _ S2.re (X.re S2.kb) fun r z ρ3 B3 H3 S3 ⟨k, er, kt, kf⟩ => ?_
  subst er
  have rz := S3.rep
  cases rz
  have S4 := S3.un S2.kb
  refine ⟨k, rfl, ?_⟩
  cases k with
  | false => rw [if_neg Bool.false_ne_true]; exact q _ _ ρ3 B3 H3 S4 (kf rfl)
  | true =>
    rw [if_pos rfl]
    exact kt rfl β B3 H3 (.sh d2 :: τ) (y :: tv) σ _ (S4.pop.push (ry.mono S3.kb)) X fun r3 w' ρ4 B4 H4 S5 h4 => h4 β B4 H4 τ tv σ y w' Q S5 X q
theorem xt_chain {op op' : CmpOp} (h : XE c a ρ fun r1 ρ1 => XE c b ρ1 fun r2 ρ2 => ∃ d2, r2 = .sh d2 ∧ OP c (compareOp op) r1 r2 ρ2 fun r ρ3 => ∃ k, r = .sh (.bl k) ∧ (k = true → XE c d ρ3 fun r3 ρ4 => OP c (compareOp op') (.sh d2) r3 ρ4 fun r ρ5 => ∃ k, r = .sh (.bl k) ∧ PB k ρ5) ∧ (k = false → PB false ρ3))
    (hm : lastMarks [op, op'] [b, d] = false := by with_unfolding_all rfl) : XT c (.Compare a [op, op'] [b, d] pos) ρ PB := fun β B H τ tv σ Q S X q => by
  let R (o : CmpOp) : R2 := fun x y H Q => ∃ R : R2, OpR c.X (compareOp o) R ∧ R x y H Q
  have hR : ∀ o, OpR c.X (compareOp o) (R o) := fun o pins s σ H x y v u Q I rx ry ⟨R', o, h⟩ => o pins s σ H x y v u Q I rx ry h
  refine PTw (pt_chain (hR op) (hR op') pe_w pe_w pe_w hm) (h β B H τ tv σ _ S X fun r1 x ρ1 B1 H1 S1 h1 => ?_)
  refine h1 β B1 H1 (r1 :: τ) (x :: tv) σ _ S1 X fun r2 y ρ2 B2 H2 S2 ⟨d2, e2, h2⟩ => ?_
  subst e2
  have ry := S2.rep
  refine h2 (β.re B2) B2 H2 τ tv σ x y _ S2.re (X.re S2.kb) fun r z ρ3 B3 H3 S3 ⟨k, er, kt, kf⟩ => ?_
  subst er
  have rz := S3.rep
  cases rz
  have S4 := S3.un S2.kb
  refine ⟨k, rfl, ?_⟩
  cases k with
  | false => rw [if_neg Bool.false_ne_true]; exact ⟨false, rfl, q false ρ3 B3 H3 S4.pop (kf rfl)⟩
  | true =>
    rw [if_pos rfl]
    refine kt rfl β B3 H3 (.sh d2 :: τ) (y :: tv) σ _ (S4.pop.push (ry.mono S3.kb)) X fun r3 w' ρ4 B4 H4 S5 h4 => h4 β B4 H4 τ tv σ y w' _ S5 X fun r v ρ5 B5 H5 S6 ⟨k2, e6, p6⟩ => ?_
    subst e6
    have r6 := S6.rep
    cases r6
    exact ⟨k2, rfl, q k2 ρ5 B5 H5 S6.pop p6⟩
/-! ### {}, {k: e} -/
theorem xe_dict0 (k : ∀ p, P (.ow p (.dK [])) ρ) : XE c (.Dict [] [] pos) ρ P := fun β B H τ tv σ Q S X q =>
  PEw pe_dnewK fun p hp => q _ _ _ _ _ (S.new (d := .dK []) hp ⟨S.go.ext.none hp, [], upd_same, rfl, .nil⟩) (k p)
theorem xe_dict1 (h : XE c a ρ fun r1 ρ1 => ∃ k, r1 = .sh (kD k) ∧ XE c b ρ1 fun r2 ρ2 => ∃ d, r2.dat = some d ∧ ∀ p, P (.ow p (.dK [(k, d)])) ρ2) : XE c (.Dict [some a] [b] pos) ρ P := fun β B H τ tv σ Q S X q => by
  refine PEw (pe_disp (pps_cons pe_w pe_w pps_nil) rfl rfl (by simp) (by show 1 ≤ 15; decide)) fun p hp => ?_
  have S0 := S.new (d := .dK []) (o := .dK []) hp ⟨S.go.ext.none hp, [], upd_same, rfl, .nil⟩
  refine h β B _ (.ow p (.dK []) :: τ) (.ref p :: tv) σ _ S0 X fun r1 x ρ1 B1 H1 S1 ⟨k, e1, h1⟩ => ?_
  subst e1
  have rx : x = kV k := by
    have r := S1.rep
    cases k <;> (cases r; rfl)
  refine h1 β B1 H1 _ _ σ _ S1 X fun r2 y ρ2 B2 H2 S2 ⟨d, e2, h2⟩ => ?_
  obtain ⟨B3, S3⟩ := SR.shareAll (rs := [r2]) (vs := [y]) (ds := [d]) rfl (by rw [List.mapM_cons, e2]; rfl) S2
  have ry := (show SR c.X.K c.W β (.sh d :: .sh (kD k) :: .ow p (.dK []) :: τ) ρ2 B3 H2 (y :: x :: .ref p :: tv) σ from S3).rep
  have S4 : SR c.X.K c.W β (.ow p (.dK []) :: τ) ρ2 B3 H2 (.ref p :: tv) σ := S3.pop.pop
  obtain ⟨_, ⟨bp, kvs, hk, ke, _⟩, _⟩ := S4.tm.1
  have : kvs = [] := by
    cases kvs with
    | nil => rfl
    | cons _ _ => cases ke
  subst this
  refine ⟨hk, [(k, y)], by rw [rx]; rfl, by show 1 ≤ 15; decide, ?_⟩
  have em : mergeK [] [(k, y)] = [(k, y)] := rfl
  rw [em]
  exact q _ _ ρ2 B3 _ (S4.chg (d' := .dK [(k, d)]) ⟨bp, [(k, y)], upd_same, rfl, .cons ry .nil⟩) (h2 p)
end
end Dl

/-! ## instances of own classes: made, asked, changed by their __init__ -/
namespace Dl
open PySem PySem.Spec PyProof.Rows L2
section
variable {K : PySem.W.Frag} {W : Wd} {β : Bs} {H0 B H B' H' : Hp} {τ ρ ρ' : List E} {tv : List V} {σ : L2.St} {r : E} {v : V} {d : D} {i : Nat} {p : Addr}
theorem rd_ins {C : Addr} {fs : List (Str × D)} (h : Rep K B v (.ins C fs) ∨ ∃ p, v = .ref p ∧ Own K B H p (.ins C fs)) (e : Ex B H) : ∃ a dx vs, v = .ref a ∧ H a = some (.ins C dx vs) ∧ vs.map (·.1) = fs.map (·.1) ∧ Reps K B (vs.map (·.2)) (fs.map (·.2)) := by
  rcases h with h | ⟨p, rfl, _, dx, vs, q, k, r⟩
  · cases h with
    | ins q k r => exact ⟨_, _, _, rfl, e _ _ q, k, r⟩
  · exact ⟨p, dx, vs, rfl, q, k, r⟩
theorem fld_rep {f : Str} : ∀ {vs : List (Str × V)} {fs : List (Str × D)}, vs.map (·.1) = fs.map (·.1) → Reps K B (vs.map (·.2)) (fs.map (·.2)) → fs.lookup f = some d → ∃ v, vs.lookup f = some v ∧ Rep K B v d
  | [], [], _, _, h => by cases h
  | _ :: _, [], e, _, _ => by cases e
  | [], _ :: _, e, _, _ => by cases e
  | (k1, v1) :: vs, (k2, d2) :: fs, e, r, h => by
    rw [List.map_cons, List.map_cons, List.cons.injEq] at e
    obtain ⟨e1, e2⟩ := e
    have e1 : k1 = k2 := e1
    subst e1
    cases r with
    | cons r1 r2 =>
      rw [List.lookup_cons] at h
      cases q : (f == k1) with
      | true =>
        rw [q] at h
        cases h
        exact ⟨v1, by rw [List.lookup_cons, q], r1⟩
      | false =>
        rw [q] at h
        obtain ⟨v, e3, r3⟩ := fld_rep e2 r2 h
        exact ⟨v, by rw [List.lookup_cons, q]; exact e3, r3⟩
/-- a field set -/
def putFD (f : Str) (d : D) : List (Str × D) → List (Str × D)
  | [] => [(f, d)]
  | (g, x) :: r => if g = f then (g, d) :: r else (g, x) :: putFD f d r
theorem put_rep {f : Str} (rv : Rep K B v d) : ∀ {vs : List (Str × V)} {fs : List (Str × D)}, vs.map (·.1) = fs.map (·.1) → Reps K B (vs.map (·.2)) (fs.map (·.2)) →
    (putF f v vs).map (·.1) = (putFD f d fs).map (·.1) ∧ Reps K B ((putF f v vs).map (·.2)) ((putFD f d fs).map (·.2))
  | [], [], _, _ => ⟨rfl, .cons rv .nil⟩
  | _ :: _, [], e, _ => by cases e
  | [], _ :: _, e, _ => by cases e
  | (k1, v1) :: vs, (k2, d2) :: fs, e, r => by
    rw [List.map_cons, List.map_cons, List.cons.injEq] at e
    obtain ⟨e1, e2⟩ := e
    have e1 : k1 = k2 := e1
    subst e1
    cases r with
    | cons r1 r2 =>
      unfold putF putFD
      by_cases q : k1 = f
      · rw [if_pos q, if_pos q]
        exact ⟨by rw [List.map_cons, List.map_cons, e2], .cons rv r2⟩
      · rw [if_neg q, if_neg q]
        obtain ⟨h1, h2⟩ := put_rep rv e2 r2
        exact ⟨by rw [List.map_cons, List.map_cons, h1], .cons r1 h2⟩
theorem putF_len (f : Str) (v : V) : ∀ l : List (Str × V), (putF f v l).length ≤ l.length + 1
  | [] => Nat.le_refl _
  | (g, x) :: l => by
    unfold putF
    split
    · exact Nat.le_succ _
    · exact Nat.succ_le_succ (putF_len f v l)
/-- a slot's own object, for a moment ahead -/
theorem SR.out (S : SR K W β [] ρ B H [] σ) (h : ρ[i]? = some (.ow p d)) : SR K W β [.ow p d] (ρ.set i .no) B H [.ref p] σ := by
  obtain ⟨o, eo, e1, w, z⟩ := S.slot h
  subst e1
  refine ⟨S.go, S.b0, S.kb, ⟨⟨rfl, w, z⟩, trivial⟩, ?_, nodup_out h S.nd, here_set (e := .no) S.hr trivial i⟩
  exact S.sl.set1 i fun _ _ => trivial
theorem SR.chgSlot {d' : D} {o : HO} (S : SR K W β [] ρ B H [] σ) (h : ρ[i]? = some (.ow p d)) (w : Own K B (upd H p o) p d') : SR K W β [] (ρ.set i (.ow p d')) B (upd H p o) [] σ := by
  obtain ⟨o', eo, e1, _, _⟩ := S.slot h
  subst e1
  have S1 := ((S.out h).chg w).store trivial i
  rw [List.set_set] at S1
  have : σ.set i (some (V.ref p)) = σ := by
    refine List.ext_getElem? fun j => ?_
    rw [List.getElem?_set]
    split
    · rename_i ij
      subst ij
      have l := (List.getElem?_eq_some_iff.mp eo).1
      rw [if_pos l, eo]
    · rfl
  rw [this] at S1
  exact S1
end
section
variable {c : DC} {e a b d : Expr} {es : List Expr} {ρ : List E} {P : E → List E → Prop} {PB : Bool → List E → Prop} {x y : Str} {k n : Nat} {pos p p2 apos : Pos} {T : Tg} {f g : Str}
/-- e.f -/
theorem xe_fld (h : XE c e ρ fun r ρ' => ∃ C fs d, Rdr ρ' r (.ins C fs) ∧ Cls c.X.K C ∧ NoAttr c.X.K C f ∧ fs.lookup f = some d ∧ P (.sh d) ρ') (hb : attributeBase e f c.X.env (eval e c.X.env) = eval e c.X.env := by rfl) : XE c (.Attribute e f pos) ρ P := fun β B H τ tv σ Q S X q =>
  PEw (pe_fld pe_w hb) (h β B H τ tv σ _ S X fun r v ρ' B' H' S' ⟨C, fs, d, rd, cl, na, lk, hP⟩ => by
    obtain ⟨a, dx, vs, rfl, ha, ke, re⟩ := rd_ins (S'.rd rd) S'.go.ext
    obtain ⟨v, ev, rv⟩ := fld_rep ke re lk
    exact ⟨a, C, dx, vs, v, rfl, ha, cl, na, ev, q _ _ _ _ _ (S'.pop.push rv) hP⟩)
def gFld (K : PySem.W.Frag) (i : Nat) (f : Str) : TG := fun v σ H Q => ∃ a C dx fs, σ[i]? = some (some (.ref a)) ∧ H a = some (.ins C dx fs) ∧ Cls K C ∧ NoAttr K C f ∧ fs.length < 1000 ∧ Q σ (upd H a (.ins C dx (putF f v fs)))
theorem pg_fld {X : Cx} (i : Nat) (hN : X.N[i]? = some x) (hv : Vis X.env.scope x) (hd : (x == ("__debug__" : Str)) = false) (hcd : (x == ("__classdict__" : Str)) = false) : PG X (.Attribute (.Name x p) f pos) (gFld X.K i f) :=
  ⟨fun pins s σ H v u Q I r ⟨a, C, dx, fs, hs, ha, cl, na, hl, q⟩ => PySem.W.kas_attr (thn ((pe_var hN hv hd hcd).run pins s σ H (fun y H' => y = .ref a ∧ H' = H) I ⟨_, hs, rfl, rfl⟩) fun ov s2 ⟨y, H', I', ry, ey, eh⟩ => by
    subst ey; subst eh
    obtain rfl : ov = Value.ref a := ry
    exact setattr_ok I' ha cl na hl r fun s3 I3 => ⟨σ, _, I3, q⟩)⟩
/-- self.f, self.g = e (of an own new instance in slot i) -/
theorem xs_fld2 {o : Addr} {C : Addr} {fs : List (Str × D)} {q1 q2 q3 q4 pt : Pos} {kt : Nat} (i : Nat) (h : XE c e ρ fun r ρ' => ∃ d1 d2, r = .sh (.tup [d1, d2]) ∧ ρ'[i]? = some (.ow o (.ins C fs)) ∧ fs.length < 998 ∧ T.nx (ρ'.set i (.ow o (.ins C (putFD g d2 (putFD f d1 fs)))))) (cl : Cls c.X.K C) (nf : NoAttr c.X.K C f) (ng : NoAttr c.X.K C g)
    (hN : c.X.N[i]? = some x := by rfl) (hv : Vis c.X.env.scope x := by first | exact Or.inl rfl | exact Or.inr (Or.inl rfl) | exact Or.inr (Or.inr rfl))
    (hd : (x == ("__debug__" : Str)) = false := by decide) (hcd : (x == ("__classdict__" : Str)) = false := by decide) (hc : c.X.calm = true := by rfl)
    (hs : swapsWithSole [.Tuple [.Attribute (.Name x q1) f q2, .Attribute (.Name x q3) g q4] kt pt] e pos.line c.X.env = pure false := by rfl) (hw : swappedStores [.Tuple [.Attribute (.Name x q1) f q2, .Attribute (.Name x q3) g q4] kt pt] e c.X.env = pure none := by rfl)
    (h1 : (assignEach [.Tuple [.Attribute (.Name x q1) f q2, .Attribute (.Name x q3) g q4] kt pt] c.X.env).map (·.2) = [assign (.Tuple [.Attribute (.Name x q1) f q2, .Attribute (.Name x q3) g q4] kt pt) c.X.env] := by rfl)
    (hn : (assignEach [.Attribute (.Name x q1) f q2, .Attribute (.Name x q3) g q4] c.X.env).length = 2 := by rfl) (hst : (assignEach [.Attribute (.Name x q1) f q2, .Attribute (.Name x q3) g q4] c.X.env).findIdx? (·.1) = none := by rfl)
    (e1 : (assignEach [.Attribute (.Name x q1) f q2, .Attribute (.Name x q3) g q4] c.X.env).map (·.2) = assign (.Attribute (.Name x q1) f q2) c.X.env :: (assignEach [.Attribute (.Name x q3) g q4] c.X.env).map (·.2) := by rfl)
    (e2 : (assignEach [.Attribute (.Name x q3) g q4] c.X.env).map (·.2) = assign (.Attribute (.Name x q3) g q4) c.X.env :: (assignEach [] c.X.env).map (·.2) := by rfl) :
    XS c (.Assign [.Tuple [.Attribute (.Name x q1) f q2, .Attribute (.Name x q3) g q4] kt pt] e pos) ρ T := fun β B H σ D S X q => by
  refine PSw (ps_asg pe_w (pg_tup hc (pgs_cons (pg_fld i hN hv hd hcd) (pgs_cons (pg_fld i hN hv hd hcd) pgs_nil e2) e1) hn hst) hs hw h1) ?_
  refine h β B H [] [] σ _ S (X σ) fun r v ρ' B' H' S' ⟨d1, d2, er, hi, hl, hT⟩ => ?_
  subst er
  have rv := S'.rep
  cases rv with
  | tup et rt =>
    cases rt with
    | cons r1 rt =>
      cases rt with
      | cons r2 rt =>
        cases rt
        have S1 := S'.pop
        obtain ⟨ox, eo, e3, ⟨bo, dx, vs, ho, ke, re⟩, z0⟩ := S1.slot hi
        subst e3
        obtain ⟨ka, ra⟩ := put_rep (f := f) r1 ke re
        obtain ⟨kb, rb⟩ := put_rep (f := g) r2 ka ra
        have lv : vs.length = fs.length := by simpa using congrArg List.length ke
        have S2 := S1.chgSlot (o := .ins C dx (putF f _ vs)) (d' := .ins C (putFD f d1 fs)) hi ⟨bo, dx, _, upd_same, ka, ra⟩
        have hi2 : (ρ'.set i (.ow o (.ins C (putFD f d1 fs))))[i]? = some (.ow o (.ins C (putFD f d1 fs))) := by
          rw [List.getElem?_set_self ((List.getElem?_eq_some_iff.mp hi).1)]
        have S3 := S2.chgSlot (o := .ins C dx (putF g _ (putF f _ vs))) (d' := .ins C (putFD g d2 (putFD f d1 fs))) hi2 ⟨bo, dx, _, upd_same, kb, rb⟩
        rw [List.set_set] at S3
        refine ⟨_, _, rfl, sq_t (S'.go.ext _ _ et), rfl, ⟨_, _, rfl, o, C, dx, vs, eo, ho, cl, nf, by omega, _, _, rfl, o, C, dx, _, eo, upd_same, cl, ng, ?_, rfl, q.nx _ _ _ _ S3 hT⟩⟩
        exact Nat.lt_of_le_of_lt (putF_len _ _ _) (by omega)
end
end Dl

/-! ## own classes: __init__, C(e, ..) -/
namespace Dl
open PySem PySem.Spec PyProof.Rows L2
abbrev FI := List E → (List (Str × D) → Prop) → (Value → Option (Str × D) → Prop) → Prop
def spI (K : PySem.W.Frag) (n : Nat) (C : Addr) (F : FI) : Sp := fun vs H Q Ex => vs.length = n + 1 ∧ ∃ (o : Addr) (rs : List E) (B H0 : Hp) (R : List (Str × D) → Prop) (X : Value → Option (Str × D) → Prop),
  SR K W0 ⟨B, H0, B⟩ [] (.ow o (.ins C []) :: rs) B H [] (vs.map some) ∧ F rs R X ∧ (∀ fs B' H', SR K W0 ⟨B, H0, B⟩ [.ow o (.ins C fs)] [] B' H' [.ref o] [] → R fs → Q .non H') ∧
  ∀ B' H' cls dx pd, SR K W0 ⟨B, H0, B⟩ [] [] B' H' [] [] → ExcRep K B' H' dx pd → X cls pd → Ex cls dx H'
section
variable {P : Program} {w : World} {K : PySem.W.Frag} {mg : Str → Option Value} {base : Heap} {x qual : Str} {params : Arguments} {body : List Stmt} {scope : Scope} {dvs : List V} {kws : List (Str × V)} {f : Addr} {fd : FuncData}
theorem nos (K : PySem.W.Frag) (W : Wd) (H0 B H : Hp) (σ : L2.St) : ∀ m : Nat, All2 (SlotOk K W H0 B H σ) (List.replicate m E.no) (List.replicate m (none : Option V))
  | 0 => trivial
  | m + 1 => ⟨trivial, nos K W H0 B H σ m⟩
theorem nos_ads : ∀ m : Nat, (List.replicate m E.no).flatMap E.ads = []
  | 0 => rfl
  | m + 1 => nos_ads m
/-- an __init__ -/
theorem dfnI {N ps : List Str} {k n : Nat} {C : Addr} {Fs : FI} (F : FunD K x qual params body scope dvs kws f fd) (S : FnScope N ps scope) (hn : ps.length = n + 1)
    (h : ∀ (cdv : Value) (A : Around) (outer : List Env) (s : Shared) (H : Hp) (Ex : XK) (o : Addr) (rs : List E) (R : List (Str × D) → Prop) (X : Value → Option (Str × D) → Prop), Room k (A.deeper (envOfC qual scope s.heap.objs.size f cdv)) → rs.length = n → Fs rs R X →
      XB (mkC P w K mg base N qual scope f cdv A outer s H Ex W0 X) body (.ow o (.ins C []) :: (rs ++ List.replicate (N.length - (n + 1)) .no)) ⟨fun ρ => ∃ fs, ρ[0]? = some (.ow o (.ins C fs)) ∧ R fs, fun r ρ => r = .sh .non ∧ ∃ fs, ρ[0]? = some (.ow o (.ins C fs)) ∧ R fs, fun _ => False, fun _ => False⟩) :
    FnOk P w K mg base (L2.CX P w) (k + 1) f fd ps (spI K n C Fs) := by
  refine F.ok S (fun vs H Q E h => h.1.trans hn.symm) (fun cdv A outer s H vs Q Ex hr hsp => ?_)
  obtain ⟨hl, o, rs, B, H0, R, X, S0, hF, hQ, hX⟩ := hsp
  have hrl : rs.length = n := by
    have := S0.sl.len
    rw [List.length_map, List.length_cons] at this
    omega
  have hx := h cdv A outer s H Ex o rs R X hr hrl hF
  refine ⟨_, pb_w, ?_⟩
  have S1 : SR K W0 ⟨B, H0, B⟩ [] (.ow o (.ins C []) :: (rs ++ List.replicate (N.length - (n + 1)) .no)) B H [] (L2.start N vs) := by
    unfold L2.start
    rw [hl]
    refine ⟨S0.go, S0.b0, S0.kb, trivial, ?_, ?_, fun e m => ?_⟩
    · exact (S0.sl.imp (G := SlotOk K W0 H0 B H (vs.map some ++ List.replicate (N.length - (n + 1)) none)) fun e m o q => q.resig (S0.hr e m)).app (nos K W0 H0 B H _ _)
    · show (((E.ow o (.ins C []) :: rs) ++ List.replicate _ E.no).flatMap E.ads).Nodup
      rw [List.flatMap_append, nos_ads, List.append_nil]
      exact S0.nd
    · rcases List.mem_append.mp (show e ∈ (E.ow o (.ins C []) :: rs) ++ List.replicate _ E.no from m) with m | m
      · exact S0.hr e m
      · rw [(List.mem_replicate.mp m).2]; trivial
  have fin : ∀ {ρ B' H' σ}, SR K W0 ⟨B, H0, B⟩ [] ρ B' H' [] σ → (∃ fs, ρ[0]? = some (.ow o (.ins C fs)) ∧ R fs) → Q .non H' := fun {ρ B' H' σ} S' ⟨fs, h0, hR⟩ => hQ fs B' H' ((S'.out h0).drop trivial) hR
  exact hx ⟨B, H0, B⟩ B H (L2.start N vs) { nx := fun _ H' => Q .non H', rt := Q } S1 (fun σ ρ B' H' cls dx pd S' e q => hX B' H' cls dx pd S'.bare e q)
    ⟨fun ρ B' H' σ S' q => fin S' q, fun r v ρ B' H' σ S' ⟨e, q⟩ => by
      subst e
      have rv := S'.rep
      cases rv
      exact fin S'.pop q, fun _ _ _ _ _ q => q.elim, fun _ _ _ _ _ q => q.elim⟩
end
theorem passAll {X : Cx} {W : WX} (tk : Takes X W) : Passes (L2.CX X.prog X.w) X (fun cls d H => ∀ σ, W cls d σ H) := fun pins σ H s e s' I ⟨a, B, H', cls, d, h1, h2, h3, h4, h5, h6, h7, h8⟩ =>
  passAt tk σ pins H s e s' I ⟨a, B, H', cls, d, h1, h2, h3, h4, h5, h6, h7, h8 σ⟩
/-- an own class that is called: C, its __init__'s promise, defaults dv -/
structure Mkr (P : Program) (w : World) (K : PySem.W.Frag) (mg : Str → Option Value) (base : Heap) (x : Str) (k : Nat) (n : Nat) (dv : List V) (C : Addr) (F : FI) : Prop where
  ex : ∃ (f : Addr) (fd : FuncData) (ps : List Str) (ds : List Value), Mk K C f ∧ FnOk P w K mg base (L2.CX P w) k f fd ps (spI K n C F) ∧ mg x = some (.ref C) ∧ Binds K fd ps ds ∧ Vals dv ds
section
variable {c : DC} {e a b d : Expr} {es : List Expr} {ρ : List E} {P : E → List E → Prop} {x y : Str} {k n : Nat} {pos p : Pos} {dv : List V} {C : Addr} {Fs : FI}
/-- C(e, ..) -/
theorem xe_make (f : Mkr c.X.prog c.X.w c.X.K c.X.mg c.X.base x k n dv C Fs) (hr : Room (k + 1) c.X.A) (h : XA c (e :: es) ρ fun rs ρ' => ∃ ds, rs.mapM E.dat = some ds ∧ ds.length + dv.length = n ∧ Fs (ds.map E.sh ++ dv.map vE) (fun fs => ∀ o, P (.ow o (.ins C fs)) ρ') (fun cls pd => c.ex cls pd ρ'))
    (hW : ∀ cls dx σ σ' H, c.Wx cls dx σ H → c.Wx cls dx σ' H := by intro _ _ _ _ _ h; exact h)
    (hg : Gl c.X x := by rfl) (hdb : (x == ("__debug__" : Str)) = false := by decide) (he : starEach (e :: es) c.X.env = (false, eval e c.X.env) :: starEach es c.X.env := by exact star_cons rfl) (hpl : (backTo pos (starEach es c.X.env)).any (·.1) = false := by exact star_no rfl) :
    XE c (.Call (.Name x p) (e :: es) [] pos) ρ P := fun β B H τ tv σ Q S X q => by
  obtain ⟨fa, fd, ps, ds0, M, F, hm, hb, hd⟩ := f.ex
  refine PEw (pe_make M F hr hg hm hb hd (passAll c.tk) pa_w hdb he hpl) (h β B H τ tv σ _ S X fun rs vs ρ' B' H' l S' ⟨ds, hds, hn, hF⟩ => ?_)
  intro o dx no nd ne
  obtain ⟨B1, S1⟩ := S'.shareAll l hds
  have l2 : (ds.map E.sh).length = vs.length := by rw [List.length_map, ← l]; exact (SR.shareAll.mapM_len hds).symm
  have S2 : SR c.X.K c.W β τ ρ' B1 H' tv σ := SR.popAll l2 S1
  have SA := S1.args (dv := dv) l2 W0 (.refl S1.go.ext trivial fun _ no => no.elim)
  have n1 : upd H' dx (.own o) o = none := by rw [upd_ne ne.symm]; exact no
  have ex1 : Dl.Ex H' (upd H' dx (.own o)) := .up nd
  have SB := SA.step (B' := B1) (H' := upd H' dx (.own o)) ⟨fun a u q _ => ex1 a u q, fun _ _ => rfl, S1.go.ext.trans ex1, trivial, trivial, fun _ no => no.elim⟩
  have SC := SB.new (p := o) (o := .ins C dx []) (d := .ins C []) n1 ⟨S1.go.ext.none no, dx, [], upd_same, rfl, .nil⟩
  have SD : SR c.X.K W0 ⟨B1, H', B1⟩ [] (.ow o (.ins C []) :: (ds.map E.sh ++ dv.map vE)) B1 (upd (upd H' dx (.own o)) o (.ins C dx [])) [] ((V.ref o :: (vs ++ dv)).map some) := by
    refine ⟨SC.go, SC.b0, SC.kb, trivial, ⟨SC.tm.1.resig (n := trivial), SC.sl.imp fun e m u q => q.resig (SC.hr e m)⟩, SC.nd, fun e m => ?_⟩
    rcases List.mem_cons.mp m with rfl | m
    · trivial
    · exact SC.hr e m
  refine ⟨by rw [List.length_cons, List.length_append, ← l2, List.length_map, hn], o, _, B1, H', _, _, SD, hF, fun fs B2 H2 R hR => ⟨rfl, ?_⟩, fun B2 H2 cls dx pd R e k σ' => ?_⟩
  · have g := Go.lift c.W R.go S1.go.ok S1.go.nf
    have R2 : SR c.X.K c.W ⟨B1, H', B1⟩ [.ow o (.ins C fs)] [] B2 H2 [.ref o] [] := ⟨g, R.b0, R.kb, ⟨R.tm.1, trivial⟩, trivial, R.nd, R.hr⟩
    exact q _ _ ρ' B2 H2 (S2.back R2 trivial) (hR o)
  · exact hW _ _ σ σ' _ (X ρ' B2 H2 cls dx pd (S2.step (Go.lift c.W R.go S1.go.ok S1.go.nf)).pops e k)
end
end Dl

/-! ## a, b, c = e, e, e; built-ins' names -/
namespace Dl
open PySem PySem.Spec PyProof.Rows L2
theorem b_isinstance : bootBuiltins "isinstance" = some (.builtin "isinstance") := by decide +kernel
theorem b_all : bootBuiltins "all" = some (.builtin "all") := by decide +kernel
theorem b_any : bootBuiltins "any" = some (.builtin "any") := by decide +kernel
theorem b_str : bootBuiltins "str" = some (.type "str") := by decide +kernel
theorem b_bool : bootBuiltins "bool" = some (.type "bool") := by decide +kernel
theorem b_int : bootBuiltins "int" = some (.type "int") := by decide +kernel
theorem b_list : bootBuiltins "list" = some (.type "list") := by decide +kernel
theorem b_tuple : bootBuiltins "tuple" = some (.type "tuple") := by decide +kernel
theorem b_dict : bootBuiltins "dict" = some (.type "dict") := by decide +kernel
section
variable {c : DC} {e a b d : Expr} {ρ : List E} {x y z : Str} {pos : Pos} {T : Tg}
theorem xs_par3 {px py pz pt pt2 : Pos} {kt k2 : Nat} (i j l : Nat) (h : XA c [a, b, d] ρ fun rs ρ' => ∃ d1 d2 d3, rs = [.sh d1, .sh d2, .sh d3] ∧ T.nx (((ρ'.set i (.sh d1)).set j (.sh d2)).set l (.sh d3))) (hN : c.X.N.Nodup) (hij : i ≠ j := by decide) (hil : i ≠ l := by decide) (hjl : j ≠ l := by decide)
    (hi : c.X.N[i]? = some x := by rfl) (hj : c.X.N[j]? = some y := by rfl) (hl : c.X.N[l]? = some z := by rfl)
    (hx : c.X.env.scope.names.lookup x = some .local := by rfl) (hy : c.X.env.scope.names.lookup y = some .local := by rfl) (hz : c.X.env.scope.names.lookup z = some .local := by rfl) (hc : c.X.calm = true := by rfl)
    (hw : swappedStores [.Tuple [.Name x px, .Name y py, .Name z pz] kt pt] (.Tuple [a, b, d] k2 pt2) c.X.env = pure (some [x, y, z]) := by rfl)
    (hs : swapsWithSole [.Tuple [.Name x px, .Name y py, .Name z pz] kt pt] (.Tuple [a, b, d] k2 pt2) pos.line c.X.env = pure false := by rfl) : XS c (.Assign [.Tuple [.Name x px, .Name y py, .Name z pz] kt pt] (.Tuple [a, b, d] k2 pt2) pos) ρ T := fun β B H σ D S X q => by
  refine PSw (ps_par3 hc hN hi hj hl hij hil hjl hx hy hz pa_w hw hs) (h β B H [] [] σ _ S (X σ) fun rs vs ρ' B' H' ln S' ⟨d1, d2, d3, hrs, k⟩ => ?_)
  subst hrs
  match vs, ln, S' with
  | [v1, v2, v3], _, S' =>
    obtain ⟨⟨u1, e1, r1⟩, ⟨u2, e2, r2⟩, ⟨u3, e3, r3⟩, _⟩ := S'.tm
    cases e1; cases e2; cases e3
    refine ⟨v1, v2, v3, rfl, q.nx _ B' H' _ ?_ k⟩
    have S2 : SR c.X.K c.W β [] ρ' B' H' [] σ := S'.pops
    have S3 := (S2.push r1).store trivial i
    have S4 := (S3.push r2).store trivial j
    exact (S4.push r3).store trivial l
end
end Dl

namespace K02
open PySem PySem.Spec PyProof.Rows L2 Dl
def top (i : Nat) : Stmt := PySem.Challenge.pw_anyarrival_k02_names_and_texts.main.body.getD i (.Pass ⟨0, 0, 0, 0⟩)
abbrev FnP (K : PySem.W.Frag) (x : Str) (i : Nat) (f : Addr) (fd : FuncData) : Prop := FunD K x x (defArgs (top i)) (defBody (top i)) (defScope (top i)) [] [] f fd
theorem atN {α : Type} {xs : List α} {j : Nat} (h : j < xs.length) : atI xs (j : Int) = some xs[j] := L2.atI_nat (List.getElem?_eq_getElem h)
theorem str_len (x : Str) : x.length = x.cps.toList.length := by
  exact Array.length_toList.symm
theorem one_inj {a b : Nat} : ((⟨#[a]⟩ : Str) = ⟨#[b]⟩) ↔ a = b := by
  constructor
  · intro h
    cases h
    rfl
  · rintro rfl; rfl
theorem app_len (x y : Str) : (x ++ y).length = x.length + y.length := by
  show (x.cps ++ y.cps).size = x.cps.size + y.cps.size
  exact Array.size_append
/-! ### the record of the draws -/
def recK (w cc : Addr) (r t : Int) : List (Key × V) := [(.inr "wide", .ref w), (.inr "cells", .ref cc), (.inr "rest", .int r), (.inr "turn", .int t)]
theorem ne1 : ¬ (Sum.inr "wide" : Key) = .inr "cells" := by decide
theorem ne2 : ¬ (Sum.inr "wide" : Key) = .inr "rest" := by decide
theorem ne3 : ¬ (Sum.inr "wide" : Key) = .inr "turn" := by decide
theorem ne4 : ¬ (Sum.inr "cells" : Key) = .inr "rest" := by decide
theorem ne5 : ¬ (Sum.inr "cells" : Key) = .inr "turn" := by decide
theorem ne6 : ¬ (Sum.inr "rest" : Key) = .inr "turn" := by decide
theorem v_wide {w cc : Addr} {r t : Int} : valV (recK w cc r t) (.inr "wide") = some (.ref w) := valV_pos rfl
theorem v_cells {w cc : Addr} {r t : Int} : valV (recK w cc r t) (.inr "cells") = some (.ref cc) := (valV_neg ne1).trans (valV_pos rfl)
theorem v_rest {w cc : Addr} {r t : Int} : valV (recK w cc r t) (.inr "rest") = some (.int r) := (valV_neg ne2).trans ((valV_neg ne4).trans (valV_pos rfl))
theorem v_turn {w cc : Addr} {r t : Int} : valV (recK w cc r t) (.inr "turn") = some (.int t) := (valV_neg ne3).trans ((valV_neg ne5).trans ((valV_neg ne6).trans (valV_pos rfl)))
theorem p_turn {w cc : Addr} {r t u : Int} : putK (recK w cc r t) (.inr "turn") (.int u) = recK w cc r u := by
  unfold putK recK
  simp only [List.any_cons, List.map_cons, List.map_nil, ne3, ne5, ne6, decide_false, decide_true, Bool.false_or, Bool.true_or, if_true, if_false]
theorem p_rest {w cc : Addr} {r t u : Int} : putK (recK w cc r t) (.inr "rest") (.int u) = recK w cc u t := by
  have n6 : ¬ (Sum.inr "turn" : Key) = .inr "rest" := fun e => ne6 e.symm
  unfold putK recK
  simp only [List.any_cons, List.map_cons, List.map_nil, ne2, ne4, n6, decide_false, decide_true, Bool.false_or, Bool.true_or, if_true, if_false]
section
variable {H : Hp} {A w cc : Addr} {r t : Int}
theorem g_wide (h : H A = some (.dK (recK w cc r t))) : DGet H A (.str "wide") (some (.ref w)) := v_wide ▸ DGet.k (k := .inr "wide") h
theorem g_cells (h : H A = some (.dK (recK w cc r t))) : DGet H A (.str "cells") (some (.ref cc)) := v_cells ▸ DGet.k (k := .inr "cells") h
theorem g_rest (h : H A = some (.dK (recK w cc r t))) : DGet H A (.str "rest") (some (.int r)) := v_rest ▸ DGet.k (k := .inr "rest") h
theorem g_turn (h : H A = some (.dK (recK w cc r t))) : DGet H A (.str "turn") (some (.int t)) := v_turn ▸ DGet.k (k := .inr "turn") h
theorem d_turn {u : Int} (h : H A = some (.dK (recK w cc r t))) : DPut H A (.str "turn") (.int u) (upd H A (.dK (recK w cc r u))) := p_turn (r := r) (t := t) ▸ DPut.k (k := .inr "turn") (v := .int u) h (by show 4 < sizeLine; decide)
theorem d_rest {u : Int} (h : H A = some (.dK (recK w cc r t))) : DPut H A (.str "rest") (.int u) (upd H A (.dK (recK w cc u t))) := p_rest (r := r) (t := t) ▸ DPut.k (k := .inr "rest") (v := .int u) h (by show 4 < sizeLine; decide)
end
section
variable {P : Program} {w : World} {K : PySem.W.Frag} {mg : Str → Option Value} {base : Heap} {f : Addr} {fd : FuncData}
/-! ### _law_blend -/
def spBl : Sp := fun vs H Q _ => ∃ (A w cc : Addr) (cs : List Int) (r t : Int), vs = [.ref A] ∧ H A = some (.dK (recK w cc r t)) ∧ H cc = some (.lst (cs.map V.int)) ∧ 0 ≤ t ∧ t < 2 ^ 41 ∧
  ∀ z H', 0 ≤ z → (∀ a o, a ≠ A → H a = some o → H' a = some o) → H' A = some (.dK (recK w cc r (t + 1))) → Q (.int z) H'
def recD (w : Addr) (cs : List Int) (r t : Int) : List (Key × D) := [(.inr "wide", .adr w), (.inr "cells", .lst (cs.map D.int)), (.inr "rest", .int r), (.inr "turn", .int t)]
theorem l_cells {w : Addr} {cs : List Int} {r t : Int} : look (recD w cs r t) (.inr "cells") = some (.lst (cs.map D.int)) := by
  simp only [look, recD, List.find?_cons, ne1, decide_false, decide_true, Option.map_some]
theorem l_turn {w : Addr} {cs : List Int} {r t : Int} : look (recD w cs r t) (.inr "turn") = some (.int t) := by
  simp only [look, recD, List.find?_cons, ne3, ne5, ne6, decide_false, decide_true, Option.map_some]
abbrev Nbl : List Str := ["_law_draw", "_law_found", "_law_prime", "_law_blend_here", "_law_cell"]
theorem scBl : FnScope Nbl ["_law_draw"] (defScope (top 17)) := ⟨rfl, rfl, rfl, by decide +kernel, rfl, by decide +kernel, by decide +kernel⟩
theorem ok_bl (F : FnP K "_law_blend" 17 f fd) (gI : mg "int" = none) : FnOk P w K mg base (L2.CX P w) 1 f fd ["_law_draw"] spBl := by
  refine F.ok scBl (fun vs H Q E h => ?_) (fun cdv Ar outer s H vs Q Ex hr hsp => ⟨_, pb_w, ?_⟩)
  · obtain ⟨_, _, _, _, _, _, rfl, _⟩ := h
    rfl
  obtain ⟨A, w2, cc, cs, r, t, rfl, hA, hC, ht0, ht1, hQ⟩ := hsp
  have hu : (Ar.deeper (envOfC "_law_blend" (defScope (top 17)) s.heap.objs.size f cdv)).units + 1 < cLine := by have := hr.un; omega
  refine PBw (pss_cons (ps_dput hu (pe_var (i := 0) rfl (.inl rfl)) pe_str (pe_op op_add (pe_dget hu (pe_var (i := 0) rfl (.inl rfl)) pe_str (fun _ _ => rfl)) pe_int) rfl) pb_w) ?_
  refine ⟨_, rfl, A, _, rfl, g_turn hA, _, _, rfl, rfl, _, rfl, A, _, rfl, d_turn hA, ?_⟩
  have nC : cc ≠ A := fun e => by rw [e, hA] at hC; cases hC
  generalize hH : upd H A (.dK (recK w2 cc r (t + 1))) = H1
  have h1 : H1 A = some (.dK (recK w2 cc r (t + 1))) := by rw [← hH]; exact upd_same
  have h2 : H1 cc = some (.lst (cs.map V.int)) := by rw [← hH, upd_ne nC]; exact hC
  have hK : ∀ a o, a ≠ A → H a = some o → H1 a = some o := fun a o n e => by rw [← hH, upd_ne n]; exact e
  have key : XB (mkC P w K mg base Nbl "_law_blend" (defScope (top 17)) f cdv Ar outer s H Ex W0 fun _ _ => False) ((defBody (top 17)).drop 1) [.sh (.dK (recD w2 cs r (t + 1))), .no, .no, .no, .no] ⟨fun _ => False, fun r _ => ∃ z, r = .sh (.int z) ∧ 0 ≤ z, fun _ => False, fun _ => False⟩ := by
    refine xb_cons (xs_set 1 (xe_int ⟨trivial, ?_⟩) scBl.nd)
    refine xb_cons (xs_for [2] (xi_lst (xe_lst ?_)))
    refine xa_cons (xe_int (xa_cons (xe_int (xa_cons (xe_int (xa_cons (xe_int (xa_cons (xe_int (xa_cons (xe_int (xa_nil ⟨[.int 2147483629, .int 2147483587, .int 2147483579, .int 2147483563, .int 2147483549, .int 2147483543], rfl, ?_, fun q => ⟨_, rfl, ?_⟩⟩))))))))))))
    · show 6 ≤ sizeLine
      decide
    refine ⟨fun _ ρ => ∃ (z : Int) (e2 e3 e4 : E), ρ = [.sh (.dK (recD w2 cs r (t + 1))), .sh (.int z), e2, e3, e4] ∧ 0 ≤ z, ⟨0, _, _, _, rfl, Int.le_refl _⟩, ?_, ?_⟩
    · rintro i d _ hd ⟨z, e2, e3, e4, rfl, hz⟩
      obtain ⟨p, rfl, p1, p2⟩ : ∃ p : Int, d = .int p ∧ 2147483543 ≤ p ∧ p ≤ 2147483629 := by
        have m := List.mem_of_getElem? hd
        simp only [List.mem_cons, List.not_mem_nil, or_false] at m
        rcases m with rfl | rfl | rfl | rfl | rfl | rfl <;> exact ⟨_, rfl, by decide, by decide⟩
      refine xg_nm 2 ?_ scBl.nd
      refine xb_cons (xs_set 3 (xe_bin (xe_bin (xe_int (xe_dget hu (xe_nm 0 _ rfl (xe_str ⟨_, .inr "turn", _, rfl, rfl, l_turn, o_muli ?_ ?_⟩)))))) scBl.nd)
      · exact .inl ⟨by decide, by decide⟩
      refine xe_bin (xe_nm 2 _ rfl (xe_int (o_fdivi ⟨by decide, by decide⟩ (o_addi ⟨trivial, ?_⟩))))
      have q1 : 0 ≤ p / 17 := by omega
      have q2 : p / 17 < 2 ^ 31 := by omega
      generalize p / 17 = p17 at q1 q2 ⊢
      have b1 : 0 ≤ 84631 * (t + 1) + p17 := by omega
      have b2 : 84631 * (t + 1) + p17 < 2 ^ 61 := by omega
      generalize 84631 * (t + 1) + p17 = h0 at b1 b2 ⊢
      refine xb_cons (xs_for [4] (xi_lst (xe_dget hu (xe_nm 0 _ rfl (xe_str ⟨_, .inr "cells", _, rfl, rfl, l_cells, _, rfl, ?_⟩)))))
      refine ⟨fun _ ρ => ∃ (h : Int) (e4 : E), ρ = [.sh (.dK (recD w2 cs r (t + 1))), .sh (.int z), .sh (.int p), .sh (.int h), e4] ∧ 0 ≤ h ∧ h < 2 ^ 61, ⟨h0, _, rfl, b1, b2⟩, ?_, ?_⟩
      · rintro j d _ hd ⟨h, e4, rfl, h1, h2⟩
        obtain ⟨x, rfl⟩ : ∃ x : Int, d = .int x := by
          obtain ⟨x, _, e⟩ := List.mem_map.mp (List.mem_of_getElem? hd)
          exact ⟨x, e.symm⟩
        refine xg_nm 4 ?_ scBl.nd
        refine xb_cons (xs_set 3 ?_ scBl.nd)
        refine xe_bin (xe_ty gI boot_int (xa_cons (xe_bin (xe_bin (xe_nm 3 _ rfl (xe_int (o_muli (.inr ⟨by decide, by decide⟩) ?_)))))))
        refine xe_nm 4 _ rfl (o_addi (xa_nil (c_inti (xe_nm 2 _ rfl (o_modi (by omega) ⟨trivial, ?_⟩)))))
        refine xb_nil ⟨_, _, rfl, Int.emod_nonneg _ (by omega), ?_⟩
        have := Int.emod_lt_of_pos (h * 69621 + x) (show 0 < p by omega)
        omega
      · rintro _ ⟨h, e4, rfl, h1, h2⟩
        refine xb_cons (xs_set 1 ?_ scBl.nd)
        refine xe_bin (xe_bin (xe_nm 1 _ rfl (xe_int (o_muli (.inr ⟨by decide, by decide⟩) ?_))))
        refine xe_bin (xe_ty gI boot_int (xa_cons (xe_bin (xe_nm 3 _ rfl (xe_int (o_powi ⟨by decide, by decide, by omega⟩ ?_))))))
        refine xa_nil (c_inti (xe_nm 2 _ rfl (o_modi (by omega) (o_addi ⟨trivial, ?_⟩))))
        refine xb_nil ⟨_, _, _, _, rfl, ?_⟩
        have := Int.emod_nonneg (h ^ (5 : Int).toNat) (show p ≠ 0 by omega)
        have := Int.mul_nonneg hz (show (0 : Int) ≤ 2147483647 by decide)
        omega
    · rintro _ ⟨z, e2, e3, e4, rfl, hz⟩
      exact xb_cons (xs_ret (xe_nm 1 _ rfl ⟨_, rfl, hz⟩))
  refine key ⟨H1, H1, H1⟩ H1 H1 _ _ ⟨.refl (.refl _) trivial fun _ no => no.elim, .refl _, .refl _, trivial, ?_, ?_, ?_⟩ (fun σ ρ B' H' cls dx pd _ _ no => no.elim) ⟨fun _ _ _ _ _ no => no.elim, ?_, fun _ _ _ _ _ no => no.elim, fun _ _ _ _ _ no => no.elim⟩
  · refine ⟨⟨.ref A, rfl, .dK (.inl h1) rfl ?_⟩, trivial, trivial, trivial, trivial, trivial⟩
    exact .cons (.adr w2) (.cons (.lst h2 (reps_ints cs)) (.cons (.int r) (.cons (.int (t + 1)) .nil)))
  · exact List.nodup_nil
  · intro e me
    simp only [List.mem_cons, List.not_mem_nil, or_false] at me
    rcases me with rfl | rfl | rfl | rfl | rfl <;> trivial
  · rintro _ v ρ B' H' σ S' ⟨z, rfl, hz⟩
    have rp := S'.rep
    cases rp
    exact hQ z H' hz (fun a o n e => S'.go.keep a o (hK a o n e) fun no => no.elim) (S'.go.keep A _ h1 fun no => no.elim)
end
section
variable {P : Program} {w : World} {K : PySem.W.Frag} {mg : Str → Option Value} {base : Heap} {f fB : Addr} {fd fdB : FuncData}
/-! ### _law_take -/
def Ftake : FR := fun ds m R => ∃ n : Int, ds = [.int n] ∧ 0 < n ∧ n < 2 ^ 30 ∧ m < 2 ^ 40 ∧ ∀ i : Int, 0 ≤ i → i < n → R (.sh (.int i)) (m + 1)
abbrev Nta : List Str := ["_law_draw", "_law_size", "_law_found"]
theorem scTa : FnScope Nta ["_law_draw", "_law_size"] (defScope (top 18)) := ⟨rfl, rfl, rfl, by decide +kernel, rfl, by decide +kernel, by decide +kernel⟩
theorem dp_ints {H : Hp} : ∀ ns : List Int, DpAll K H (ns.map V.int) (ns.map PyData.int)
  | [] => .nil
  | n :: ns => .cons (.int n) (dp_ints ns)
theorem ok_ta (F : FnP K "_law_take" 18 f fd) (FB : FnP K "_law_blend" 17 fB fdB) (gB : mg "_law_blend" = some (.ref fB)) (gI : mg "int" = none) : FnOk P w K mg base (L2.CX P w) 2 f fd ["_law_draw", "_law_size"] (spR K 1 Ftake) := by
  have GB : FnOk P w K mg base (L2.CX P w) 1 fB fdB ["_law_draw"] spBl := ok_bl FB gI
  have bB : Binds K fdB ["_law_draw"] [] := FB.bindsN fun _ _ _ _ _ _ us hl => match us, hl with | [_], _ => rfl
  refine F.ok scTa (fun vs H Q E h => ?_) (fun cdv Ar outer s H vs Q Ex hr hsp => ⟨_, pb_w, ?_⟩)
  · obtain ⟨_, _, _, _, ws, _, _, _, _, rfl, l, _⟩ := h
    rw [List.length_cons, l]; rfl
  obtain ⟨A, w2, cc, m, ws, ds, B, H0, R, rfl, l1, l2, S0, ⟨n, rfl, n0, n1, m1, hR⟩, hQ⟩ := hsp
  obtain ⟨v, rfl⟩ : ∃ v, ws = [v] := by
    match ws, l1 with
    | [v], _ => exact ⟨v, rfl⟩
  obtain ⟨⟨_, dr, fr⟩, ⟨_, e1, rv⟩, _⟩ := id S0.sl
  cases e1
  cases rv
  obtain ⟨b1, b2, b3, wd, cs, r, t, hA, hW, hC, wd0, r0, t0, tm⟩ := id dr
  have hu : (Ar.deeper (envOfC "_law_take" (defScope (top 18)) s.heap.objs.size f cdv)).units + 1 < cLine := by have := hr.un; omega
  generalize hc : mkC P w K mg base Nta "_law_take" (defScope (top 18)) f cdv Ar outer s H Ex W0 (fun _ _ => False) = c
  have hcX : c.X = cxOf (L2.CX P w) P w K mg base Nta "_law_take" (defScope (top 18)) f cdv Ar outer s H Ex := by rw [← hc]; rfl
  have rest : ∀ (wd1 : List Int) (r1 t1 : Int) (H1 : Hp), H1 A = some (.dK (recK w2 cc r1 t1)) → H1 w2 = some (.lst (wd1.map V.int)) → H1 cc = some (.lst (cs.map V.int)) → (∀ x ∈ wd1, 0 ≤ x) → 0 ≤ r1 → 0 ≤ t1 → t1 ≤ m + 1 → (∀ a o, a ≠ A → a ≠ w2 → H a = some o → H1 a = some o) →
      wB (cxOf (L2.CX P w) P w K mg base Nta "_law_take" (defScope (top 18)) f cdv Ar outer s H Ex) ((defBody (top 18)).drop 1) { nx := fun _ H' => Q .non H', rt := Q } [some (.ref A), some (.int n), none] H1 := by
    intro wd1 r1 t1 H1 a1 a2 a3 x1 x2 x3 x4 x5
    refine PBw (pss_cons (ps_set (i := 2) scTa.nd rfl (.inl rfl) (pe_op op_mod (pe_callTy call_int1 rfl gI boot_int (pa_cons (pe_dget hu (pe_var (i := 0) rfl (.inl rfl)) pe_str (fun _ _ => rfl)) pa_nil)) (pe_var (i := 1) rfl (.inl rfl)))) pb_w) ?_
    refine ⟨_, rfl, A, _, rfl, g_rest a1, .inl ⟨_, rfl, _, rfl, _, _, rfl, rfl, n0, ?_⟩⟩
    refine PBw (pss_cons (ps_dput hu (pe_var (i := 0) rfl (.inl rfl)) pe_str (pe_op op_fdivW (pe_dget hu (pe_var (i := 0) rfl (.inl rfl)) pe_str (fun _ _ => rfl)) (pe_var (i := 1) rfl (.inl rfl))) rfl) pb_w) ?_
    refine ⟨_, rfl, A, _, rfl, g_rest a1, _, rfl, _, _, rfl, rfl, ⟨n0, ?_⟩, _, rfl, A, _, rfl, d_rest a1, ?_⟩
    · have : n.natAbs.log2 < 30 := by
        rw [Nat.log2_lt (by omega)]
        omega
      omega
    refine PBw (pss_one (ps_ret (pe_var (i := 2) rfl (.inl rfl)))) ⟨_, rfl, ?_⟩
    have nW : w2 ≠ A := fun e => by rw [e, a1] at a2; cases a2
    have nC : cc ≠ A := fun e => by rw [e, a1] at a3; cases a3
    refine hQ (.sh (.int (r1 % n))) _ (m + 1) B _ ?_ trivial (hR _ (Int.emod_nonneg _ (by omega)) (Int.emod_lt_of_pos _ n0))
    have off : ∀ a o, ¬ (a = A ∨ a = w2 ∨ a = cc) → H a = some o → upd H1 A (.dK (recK w2 cc (r1 / n) t1)) a = some o := fun a o q e => by
      rw [upd_ne fun z => q (.inl z)]
      exact x5 a o (fun z => q (.inl z)) (fun z => q (.inr (.inl z))) e
    have old : ∀ a o, H0 a = some o → ¬ (a = A ∨ a = w2 ∨ a = cc) := fun a o e q => by
      have e2 := (show H0 a = none from fr a q).symm.trans e
      cases e2
    have kn : ∀ a o, B a = some o → ¬ (a = A ∨ a = w2 ∨ a = cc) := fun a o e q => by
      rcases q with rfl | rfl | rfl
      · rw [b1] at e; cases e
      · rw [b2] at e; cases e
      · rw [b3] at e; cases e
    refine ⟨⟨fun a o e _ => off a o (old a o e) (S0.go.keep a o e fun no => no.elim), S0.go.bk, fun a o e => off a o (kn a o e) (S0.go.ext a o e), trivial, trivial, fun _ no => no.elim⟩, S0.b0, S0.kb, ?_, trivial, ?_, fun e m => (List.not_mem_nil m).elim⟩
    · refine ⟨⟨_, rfl, .int _⟩, ⟨rfl, ⟨b1, b2, b3, wd1, cs, r1 / n, t1, upd_same, ?_, ?_, x1, Int.ediv_nonneg x2 (by omega), x3, ?_⟩, fr⟩, trivial⟩
      · rw [upd_ne nW]; exact a2
      · rw [upd_ne nC]; exact a3
      · omega
    · have nd : ((E.dr A w2 cc m).ads ++ ((E.sh (.int n)).ads ++ [])).Nodup := S0.nd
      simpa [E.ads] using nd
  have tk : Takes (cxOf (L2.CX P w) P w K mg base Nta "_law_take" (defScope (top 18)) f cdv Ar outer s H Ex) fun cls d _ H => Ex cls d H := takes_of rfl rfl rfl rfl
  have hu64 : (Ar.deeper (envOfC "_law_take" (defScope (top 18)) s.heap.objs.size f cdv)).units + 64 < cLine := by have := hr.un; omega
  refine PBw (pss_cons (ps_if (pt_cmpR op_eq (pe_dget hu (pe_var (i := 0) rfl (.inl rfl)) pe_str (fun _ _ => rfl)) pe_int (nomark _)) pb_w pb_w) pb_w) ?_
  refine ⟨_, rfl, A, _, rfl, g_rest hA, rfl, _, rfl, ?_⟩
  by_cases hr0 : r = 0
  · subst hr0
    dsimp only
    rw [if_pos (by simp)]
    refine PBw (pss_one (ps_dput hu (pe_var (i := 0) rfl (.inl rfl)) pe_str (pe_ifExp (pt_cmpR (op_neD hu64) (pe_dget hu (pe_var (i := 0) rfl (.inl rfl)) pe_str (fun _ _ => rfl)) (pe_lst pa_nil) (nomark _))
      (pe_bm PySem.F.plainAttrs_list PySem.F.slot_list_pop PySem.F.type_list_pop mt_popAt (pe_dget hu (pe_var (i := 0) rfl (.inl rfl)) pe_str (fun _ _ => rfl)) (pa_cons pe_int pa_nil))
      (pe_callSD GB hr rfl gB FB.kp bB .nil (fun σ => passAt tk σ) (pa_cons (pe_var (i := 0) rfl (.inl rfl)) pa_nil))) rfl)) ?_
    refine ⟨_, rfl, A, _, rfl, g_wide hA, Nat.zero_le _, fun q hq => ?_⟩
    have qA : A ≠ q := fun e => by rw [e, hq] at hA; cases hA
    have qW : w2 ≠ q := fun e => by rw [e, hq] at hW; cases hW
    have qC : cc ≠ q := fun e => by rw [e, hq] at hC; cases hC
    have hA1 : upd H q (.lst []) A = some (.dK (recK w2 cc 0 t)) := by rw [upd_ne qA]; exact hA
    have hW1 : upd H q (.lst []) w2 = some (.lst (wd.map V.int)) := by rw [upd_ne qW]; exact hW
    have hC1 : upd H q (.lst []) cc = some (.lst (cs.map V.int)) := by rw [upd_ne qC]; exact hC
    have hK1 : ∀ a o, H a = some o → upd H q (.lst []) a = some o := fun a o e => by
      rw [upd_ne fun z => by rw [z, hq] at e; cases e]
      exact e
    have hQ1 : upd H q (.lst []) q = some (.lst []) := upd_same
    generalize upd H q (.lst []) = H1 at hA1 hW1 hC1 hK1 hQ1 ⊢
    have nW : w2 ≠ A := fun e => by rw [e, hA1] at hW1; cases hW1
    have nC : cc ≠ A := fun e => by rw [e, hA1] at hC1; cases hC1
    refine ⟨.list (wd.map PyData.int), .list [], .lst (sq_l hW1) (dp_ints wd), .lst (sq_l hQ1) .nil, PySem.W.ke_shaped_ints wd, PySem.W.ke_shaped_ints [], _, rfl, ?_⟩
    dsimp only
    match wd, hW1, wd0 with
    | [], hW1, wd0 =>
      rw [if_neg (by decide)]
      refine ⟨_, rfl, A, w2, cc, cs, 0, t, rfl, hA1, hC1, t0, by omega, fun z H2 hz k2 a2 => ⟨_, rfl, A, _, rfl, d_rest a2, ?_⟩⟩
      refine rest [] z (t + 1) _ upd_same ?_ ?_ wd0 hz (by omega) (by omega) fun a o n1 n2 e => ?_
      · rw [upd_ne nW]; exact k2 _ _ nW hW1
      · rw [upd_ne nC]; exact k2 _ _ nC hC1
      · rw [upd_ne n1]; exact k2 _ _ n1 (hK1 _ _ e)
    | x :: xs, hW1, wd0 =>
      rw [if_pos (show (!(PyData.list (List.map PyData.int (x :: xs))).eqv (PyData.list [])) = true from rfl)]
      have nWC : cc ≠ w2 := fun e => by
        have nd : ((E.dr A w2 cc m).ads ++ ((E.sh (.int n)).ads ++ [])).Nodup := S0.nd
        rw [e] at nd
        simp [E.ads] at nd
      refine ⟨_, rfl, A, _, rfl, g_wide hA1, .inl ⟨rfl, _, sq_l hW1⟩, w2, _, 0, 0, _, rfl, rfl, hW1, by decide, by decide, ?_, rfl, ?_⟩
      · simp [seqIndex?]
      · have a2 : upd H1 w2 (.lst (((x :: xs).map V.int).eraseIdx 0)) A = some (.dK (recK w2 cc 0 t)) := by rw [upd_ne nW.symm]; exact hA1
        refine ⟨_, rfl, A, _, rfl, d_rest a2, ?_⟩
        refine rest xs x t _ upd_same ?_ ?_ (fun y m => wd0 y (List.mem_cons_of_mem _ m)) (wd0 x (List.mem_cons_self ..)) t0 (by omega) fun a o n1 n2 e => ?_
        · rw [upd_ne nW]; exact upd_same
        · rw [upd_ne nC, upd_ne nWC]; exact hC1
        · rw [upd_ne n1, upd_ne n2]; exact hK1 _ _ e
  · dsimp only
    rw [if_neg (by simpa using hr0)]
    exact PBw pss_nil (rest wd r t H hA hW hC wd0 r0 t0 (by omega) fun _ _ _ _ e => e)
end
section
variable {P : Program} {w : World} {K : PySem.W.Frag} {mg : Str → Option Value} {base : Heap} {f : Addr} {fd : FuncData}
/-! ### _law_pick -/
def Fpick : FR := fun ds m R => (∃ es, ds = [.lst es] ∧ 0 < es.length ∧ es.length < 2 ^ 30 ∧ m < 2 ^ 40 ∧ ∀ d ∈ es, R (.sh d) (m + 1)) ∨
  ∃ z : Str, ds = [.str z] ∧ 0 < z.length ∧ z.length ≤ sizeLine ∧ z.length < 2 ^ 30 ∧ m < 2 ^ 40 ∧ ∀ a ∈ z.cps.toList, R (.sh (.str ⟨#[a]⟩)) (m + 1)
abbrev Npi : List Str := ["_law_draw", "_law_some"]
theorem scPi : FnScope Npi ["_law_draw", "_law_some"] (defScope (top 19)) := ⟨rfl, rfl, rfl, by decide +kernel, rfl, by decide +kernel, by decide +kernel⟩
theorem at_int {α : Type} {xs : List α} {i : Int} (h0 : 0 ≤ i) (h1 : i < xs.length) : ∃ x, atI xs i = some x ∧ x ∈ xs := by
  obtain ⟨j, rfl⟩ := Int.eq_ofNat_of_zero_le h0
  have l : j < xs.length := by omega
  exact ⟨xs[j], atN l, List.getElem_mem l⟩
theorem ok_pi (F : FnP K "_law_pick" 19 f fd) (T : FnR P w K mg base "_law_take" 2 1 Ftake) (gL : mg "len" = none) : FnOk P w K mg base (L2.CX P w) 3 f fd ["_law_draw", "_law_some"] (spR K 1 Fpick) := by
  refine dfnR F scPi rfl fun cdv Ar outer s H Ex A w2 cc m ds R hr hl hF => ?_
  rcases hF with ⟨es, rfl, e0, e1, m1, hR⟩ | ⟨z, rfl, z0, z1, z2, m1, hR⟩
  · refine xb_cons (xs_ret (xe_ix (xe_nm 1 _ rfl (xe_callR T hr (xa_cons (xe_nmd 0 rfl (xa_cons (xe_bi gL boot_len ?_))))))))
    refine xa_cons (xe_nm 1 _ rfl (xa_nil (c_lenl rfl (xa_nil ⟨0, _, _, A, w2, cc, m, rfl, rfl, rfl, rfl, _, rfl, by omega, by omega, m1, fun i i0 i1 => ?_⟩))))
    obtain ⟨d, hd, hm⟩ := at_int i0 i1
    exact s_lst rfl hd ⟨trivial, m + 1, rfl, hR d hm⟩
  · refine xb_cons (xs_ret (xe_ix (xe_nm 1 _ rfl (xe_callR T hr (xa_cons (xe_nmd 0 rfl (xa_cons (xe_bi gL boot_len ?_))))))))
    refine xa_cons (xe_nm 1 _ rfl (xa_nil (c_lens z1 (xa_nil ⟨0, _, _, A, w2, cc, m, rfl, rfl, rfl, rfl, _, rfl, by omega, by omega, m1, fun i i0 i1 => ?_⟩))))
    obtain ⟨a, ha, hm⟩ := at_int (xs := z.cps.toList) i0 (by rw [← str_len]; exact i1)
    exact s_str z1 ha ⟨trivial, m + 1, rfl, hR a hm⟩
end
theorem joinL_nil : ∀ ps : List (List Nat), TL.joinL [] ps = ps.flatten
  | [] => rfl
  | [p] => by simp [TL.joinL]
  | p :: q :: r => by
    have e := joinL_nil (q :: r)
    show p ++ ([] ++ TL.joinL [] (q :: r)) = _
    rw [e]
    simp
theorem join0 (as : List Nat) : (Txt.join "" (as.map fun a => (⟨#[a]⟩ : Str))).cps.toList = as := by
  have e : TL.tl (Txt.join "" (as.map fun a => (⟨#[a]⟩ : Str))) = TL.joinL [] ((as.map fun a => (⟨#[a]⟩ : Str)).map TL.tl) := (congrArg TL.tl (TL.join_eq "" _)).trans (TL.tl_join "" _)
  refine e.trans ?_
  rw [joinL_nil]
  induction as with
  | nil => rfl
  | cons a as ih =>
    rw [List.map_cons, List.map_cons, List.flatten_cons]
    show [a] ++ _ = _
    rw [ih ((congrArg TL.tl (TL.join_eq "" _)).trans (TL.tl_join "" _))]
    rfl
theorem sum_one : ∀ as : List Nat, (((as.map fun a => (⟨#[a]⟩ : Str))).map (·.length)).sum = as.length
  | [] => rfl
  | a :: as => by
    rw [List.map_cons, List.map_cons, List.sum_cons, sum_one as]
    show 1 + _ = _
    rw [List.length_cons, Nat.add_comm]
section
variable {P : Program} {w : World} {K : PySem.W.Frag} {mg : Str → Option Value} {base : Heap} {f : Addr} {fd : FuncData}
/-! ### _law_begun -/
def spBg (K : PySem.W.Frag) : Sp := fun vs H Q _ => ∃ (a : Addr) (ns : List Int), vs = [.ref a] ∧ SqL K H a (ns.map V.int) ∧ ns.length ≤ 63 ∧
  ∀ (A w2 cc : Addr) (ws : List Int) (H' : Hp), H A = none → H w2 = none → H cc = none → [A, w2, cc].Nodup → (∀ x ∈ ws, 0 ≤ x) → (∀ a o, H a = some o → H' a = some o) → H' A = some (.dK (recK w2 cc 0 0)) → H' w2 = some (.lst (ws.map V.int)) → H' cc = some (.lst (ns.map V.int)) → Q (.ref A) H'
abbrev Nbg : List Str := ["_law_script", "_law_wide", "_law_cell"]
theorem scBg : FnScope Nbg ["_law_script"] (defScope (top 16)) := ⟨rfl, rfl, rfl, by decide +kernel, rfl, by decide +kernel, by decide +kernel⟩
theorem blBg : BlkOk Nbg (defScope (top 16)) { kind := .function, names := [(".0", .local), ("_law_cell", .local)], isGenerator := false, isCoroutine := false } [("_law_cell", 2)] :=
  ⟨rfl, by decide +kernel, by decide +kernel, by decide +kernel, by decide +kernel⟩
theorem m_rec {w2 cc : Addr} {r t : Int} : mergeK [] (recK w2 cc r t) = recK w2 cc r t := by
  have n1 : ¬ (Sum.inr "cells" : Key) = .inr "wide" := fun e => ne1 e.symm
  unfold mergeK recK
  simp only [List.foldl_cons, List.foldl_nil, putK, List.any_nil, List.any_cons, List.map_cons, List.map_nil, ne1, ne2, ne3, ne4, ne5, ne6, decide_false, Bool.or_false, Bool.false_eq_true, if_false, List.nil_append, List.cons_append]
theorem reps_int {B : Hp} : ∀ {vs : List V} {ws : List Int}, Reps K B vs (ws.map D.int) → vs = ws.map V.int
  | _, [], .nil => rfl
  | _, _ :: _, .cons r rs => by
    cases r
    rw [reps_int rs]
    rfl
theorem ok_bg (F : FnP K "_law_begun" 16 f fd) (gL : mg "list" = none) : FnOk P w K mg base (L2.CX P w) 1 f fd ["_law_script"] (spBg K) := by
  refine F.ok scBg (fun vs H Q E h => ?_) (fun cdv Ar outer s H vs Q Ex hr hsp => ⟨_, pb_w, ?_⟩)
  · obtain ⟨_, _, rfl, _⟩ := h
    rfl
  obtain ⟨a, ns, rfl, hS, few, hQ⟩ := hsp
  refine PBw (pss_cons ps_w pb_w) ?_
  have key : ∀ T : Tg, (∀ (q : Addr) (ws : List Int), (∀ x ∈ ws, 0 ≤ x) → T.nx [.sh (.frl ns), .ow q (.lst (ws.map D.int)), .no]) → XS (mkC P w K mg base Nbg "_law_begun" (defScope (top 16)) f cdv Ar outer s H Ex W0 fun _ _ => False) ((defBody (top 16)).headD (.Pass ⟨0, 0, 0, 0⟩)) [.sh (.frl ns), .no, .no] T := fun T hT => by
    refine xs_setLc 1 [2] [("_law_cell", 2)] rfl ?_ scBg.nd blBg rfl
    refine xi_frl (xe_nm 0 _ rfl ⟨ns, rfl, ?_⟩)
    refine ⟨fun i acc => i ≤ ns.length ∧ acc.length ≤ i ∧ ∃ ws : List Int, acc = ws.map D.int ∧ ∀ x ∈ ws, 0 ≤ x, ⟨Nat.zero_le _, Nat.le_refl _, [], rfl, fun x m => (List.not_mem_nil m).elim⟩, ?_, ?_⟩
    · rintro i d _ hd ⟨li, la, ws, rfl, h0⟩
      have hi : i < ns.length := by
        have := (List.getElem?_eq_some_iff.mp hd).1
        rwa [List.length_map] at this
      obtain ⟨x, rfl⟩ : ∃ x : Int, d = .int x := by
        obtain ⟨x, _, e⟩ := List.mem_map.mp (List.mem_of_getElem? hd)
        exact ⟨x, e.symm⟩
      have h63 : 63 < sizeLine := by decide
      refine ⟨by omega, fun s0 H0 C cl fp => ?_⟩
      refine xg_nm 2 ?_ scBg.nd
      intro s1 H1 C1 cl1 fp1
      refine xt_cmp (xe_nm 2 _ rfl (xe_bin (xe_int (xe_int (o_powi ⟨by decide, by decide, by decide⟩ (o_gei ⟨_, rfl, fun hb => ?_, fun _ => ⟨hi, by omega, ws, rfl, h0⟩⟩))))))
      intro s2 H2 C2 cl2 fp2
      refine xe_bin (xe_nm 2 _ rfl (xe_bin (xe_int (xe_int (o_powi ⟨by decide, by decide, by decide⟩ (o_subi ?_))))))
      refine ⟨hi, by rw [List.length_append]; exact Nat.succ_le_succ la, ws ++ [x - 10 ^ (18 : Int).toNat], by rw [List.map_append]; rfl, fun y m => ?_⟩
      rcases List.mem_append.mp m with m | m
      · exact h0 y m
      · rw [List.mem_singleton.mp m]
        have := of_decide_eq_true hb
        omega
    · rintro acc q ⟨_, _, ws, rfl, h0⟩
      exact ⟨trivial, hT q ws h0⟩
  refine key ⟨fun ρ => ∃ (q : Addr) (ws : List Int), ρ = [.sh (.frl ns), .ow q (.lst (ws.map D.int)), .no] ∧ ∀ x ∈ ws, 0 ≤ x, fun _ _ => False, fun _ => False, fun _ => False⟩ (fun q ws h => ⟨q, ws, rfl, h⟩) ⟨H, H, H⟩ H H _ _ ⟨.refl (.refl _) trivial fun _ no => no.elim, .refl _, .refl _, trivial, ⟨⟨.ref a, rfl, .frl hS⟩, trivial, trivial, trivial⟩, List.nodup_nil, ?_⟩
    (fun σ ρ B' H' cls dx pd _ _ no => no.elim) ⟨?_, fun _ _ _ _ _ _ _ no => no.elim, fun _ _ _ _ _ no => no.elim, fun _ _ _ _ _ no => no.elim⟩
  · intro e me
    simp only [List.mem_cons, List.not_mem_nil, or_false] at me
    rcases me with rfl | rfl | rfl <;> trivial
  rintro _ B' H1 σ S' ⟨q, ws, rfl, h0⟩
  obtain ⟨o0, eo0, v0, rfl, r0⟩ := S'.slot (i := 0) rfl
  obtain ⟨o1, eo1, rfl, ⟨bq, vs1, hq, rq⟩, fq⟩ := S'.slot (i := 1) rfl
  have ev := reps_int rq
  subst ev
  cases r0 with
  | frl sq0 =>
    have kp : ∀ z o, H z = some o → H1 z = some o := fun z o e => S'.go.keep z o e fun no => no.elim
    have sq1 := S'.go.ext.sl sq0
    refine PBw (pss_one (ps_ret (pe_disp (pps_cons pe_str (pe_var (i := 1) rfl (.inl rfl)) (pps_cons pe_str (pe_callTy call_list_of rfl gL boot_list (pa_cons (pe_var (i := 0) rfl (.inl rfl)) pa_nil)) (pps_cons pe_str pe_int (pps_cons pe_str pe_int pps_nil)))) rfl rfl (by simp) (by decide)))) ?_
    intro p hp
    have np : ∀ z o, H1 z = some o → upd H1 p (.dK []) z = some o := fun z o e => by
      rw [upd_ne fun x => by rw [x, hp] at e; cases e]
      exact e
    refine ⟨_, eo1, _, eo0, _, _, rfl, .inl (Dl.Ex.sl np sq1), fun cc hcc => ?_⟩
    have c1 : p ≠ cc := fun e => by rw [← e, upd_same] at hcc; cases hcc
    have c2 : q ≠ cc := fun e => by rw [← e, np q _ hq] at hcc; cases hcc
    have c3 : q ≠ p := fun e => by rw [e, hp] at hq; cases hq
    refine ⟨by rw [upd_ne c1]; exact upd_same, recK q cc 0 0, rfl, by show 4 ≤ 15; decide, ?_⟩
    rw [m_rec]
    have hc0 : H1 cc = none := by rw [upd_ne c1.symm] at hcc; exact hcc
    have non : ∀ {z}, H1 z = none → H z = none := fun {z} e => by
      cases y : H z with
      | none => rfl
      | some o => rw [kp z o y] at e; cases e
    refine hQ p q cc ws _ (non hp) fq (non hc0) ?_ h0 (fun z o e => ?_) upd_same ?_ ?_
    · simp only [List.nodup_cons, List.mem_cons, List.not_mem_nil, or_false, not_or, not_false_eq_true, List.nodup_nil, and_true]
      exact ⟨⟨c3.symm, c1⟩, c2⟩
    · have e1 := kp z o e
      have z1 : z ≠ p := fun x => by rw [x, hp] at e1; cases e1
      have z2 : z ≠ cc := fun x => by rw [x, hc0] at e1; cases e1
      rw [upd_ne z1, upd_ne z2, upd_ne z1]
      exact e1
    · rw [upd_ne c3, upd_ne c2, upd_ne c3]; exact hq
    · rw [upd_ne c1.symm]; exact upd_same
end
structure FnB (P : Program) (w : World) (K : PySem.W.Frag) (mg : Str → Option Value) (base : Heap) (x : Str) (k : Nat) : Prop where
  ex : ∃ (f : Addr) (fd : FuncData), FnOk P w K mg base (L2.CX P w) k f fd ["_law_script"] (spBg K) ∧ mg x = some (.ref f) ∧ PySem.W.keepIn K (.ref f) = true ∧ Binds K fd ["_law_script"] []
section
variable {c : DC} {ρ : List E} {T : Tg} {x y z : Str} {k : Nat} {p py pz pos spos : Pos} {ns : List Int}
theorem xs_begun (i j : Nat) (f : FnB c.X.prog c.X.w c.X.K c.X.mg c.X.base x k) (hr : Room k c.X.A) (h0 : ρ[j]? = some (.sh (.frl ns))) (few : ns.length ≤ 63) (h : ∀ A w2 cc, T.nx (ρ.set i (.dr A w2 cc 0))) (hN : c.X.N.Nodup) (hW : c.W = W0 := by rfl)
    (hi : c.X.N[i]? = some y := by rfl) (hj : c.X.N[j]? = some z := by rfl) (hy : Loc c.X.env.scope y := by first | exact .inl rfl | exact .inr rfl) (hz : Vis c.X.env.scope z := by first | exact Or.inl rfl | exact Or.inr (Or.inl rfl) | exact Or.inr (Or.inr rfl))
    (hd : (z == ("__debug__" : Str)) = false := by decide) (hcd : (z == ("__classdict__" : Str)) = false := by decide) (hg : Gl c.X x := by rfl) (hdb : (x == ("__debug__" : Str)) = false := by decide)
    (hs : swapsWith (.Call (.Name x p) [.Name z pz] [] pos) (some (.Name y py)) spos.line c.X.env = pure false := by rfl) (hf : c.X.fn y = true ∨ c.X.env.scope.names.lookup y = some .local := by first | exact .inl rfl | exact .inr rfl) :
    XS c (.Assign [.Name y py] (.Call (.Name x p) [.Name z pz] [] pos) spos) ρ T := fun β B H σ D S X q => by
  obtain ⟨fa, fd, F, hm, hk, hb⟩ := f.ex
  refine PSw (ps_set hN hi hy (pe_callSD F hr hg hm hk hb .nil (fun σ => passAt c.tk σ) (pa_cons (pe_var hj hz hd hcd) pa_nil) hdb rfl rfl) hs hf) ?_
  obtain ⟨o, eo, v, rfl, rv⟩ := S.slot h0
  cases rv with
  | frl sq =>
    refine ⟨_, eo, _, ns, rfl, S.go.ext.sl sq, few, fun A w2 cc ws H' nA nw nc nd h0 kp hA hw hc => ?_⟩
    refine q.nx _ B H' _ ?_ (h A w2 cc)
    rw [hW] at S ⊢
    have g : Go W0 B H B H' := ⟨fun a o e _ => kp a o e, fun _ _ => rfl, fun a o e => kp a o (S.go.ext a o e), trivial, trivial, fun _ no => no.elim⟩
    have S1 := S.step g
    have hH0 : ∀ a, H a = none → β.H0 a = none := fun a e => by
      cases u : β.H0 a with
      | none => rfl
      | some o => rw [S.go.keep a o u fun no => no.elim] at e; cases e
    refine SR.store (r := .dr A w2 cc 0) ⟨S1.go, S1.b0, S1.kb, ⟨⟨rfl, ⟨S.go.ext.none nA, S.go.ext.none nw, S.go.ext.none nc, ws, ns, 0, 0, hA, hw, hc, h0, Int.le_refl _, Int.le_refl _, Int.le_refl _⟩, ?_⟩, trivial⟩, S1.sl, ?_, S1.hr⟩ trivial i
    · rintro a (rfl | rfl | rfl)
      · exact hH0 _ nA
      · exact hH0 _ nw
      · exact hH0 _ nc
    · show ([A, w2, cc] ++ ρ.flatMap E.ads).Nodup
      refine List.nodup_append.mpr ⟨nd, S1.nd, fun a m b mb e => ?_⟩
      subst e
      have o := (S.owned mb).1
      simp only [List.mem_cons, List.not_mem_nil, or_false] at m
      rcases m with rfl | rfl | rfl
      · exact o nA
      · exact o nw
      · exact o nc
end
end K02

namespace K02
open PySem PySem.Spec PyProof.Rows L2 Dl
def abc : Str := "abcdefghijklmnopqrstuvwxyz"
def low (n : Nat) : Bool := decide (n ∈ abc.cps.toList)
def isText (z : Str) : Bool := z.cps.toList.all low
section
variable {P : Program} {w : World} {K : PySem.W.Frag} {mg : Str → Option Value} {base : Heap} {f : Addr} {fd : FuncData}
/-- is_text, of any value whose type is told -/
def Ftxt (K : PySem.W.Frag) : FS := fun rs R _ => ∃ d t, rs = [.sh d] ∧ TyD K d t ∧ ((∃ z : Str, d = .str z ∧ z.length < sizeLine ∧ R (.sh (.bl (isText z)))) ∨ (PySem.W.kitOne K t (.type "str") = some false ∧ R (.sh (.bl false))))
abbrev Ntx : List Str := ["thing", "letter"]
theorem scTx : FnScope Ntx ["thing"] (defScope (top 8)) := ⟨rfl, rfl, rfl, by decide +kernel, rfl, by decide +kernel, by decide +kernel⟩
theorem blTx : BlkOk Ntx (defScope (top 8)) { kind := .function, names := [(".0", .local), ("letter", .local), ("LETTERS", .globalImplicit)], isGenerator := false, isCoroutine := false } [("letter", 1)] :=
  ⟨rfl, by decide +kernel, by decide +kernel, by decide +kernel, by decide +kernel⟩
theorem ok_tx (F : FnP K "is_text" 8 f fd) (gI : mg "isinstance" = none) (gS : mg "str" = none) (gA : mg "all" = none) (gL : ∃ t, mg "LETTERS" = some (.str abc t)) : FnOk P w K mg base (L2.CX P w) 1 f fd ["thing"] (spD K W0 1 (Ftxt K)) := by
  refine dfn W0 F scTx rfl fun cdv A outer s H Ex rs R X hr hl hF => ?_
  obtain ⟨d, t, rfl, ty, hF⟩ := hF
  obtain ⟨tl, gL⟩ := gL
  rcases hF with ⟨z, rfl, lz, hR⟩ | ⟨ki, hR⟩
  · cases ty
    refine xb_cons (xs_ret (xe_and (xe_isiB gI b_isinstance gS b_str (xe_nm 0 _ rfl ⟨_, _, true, rfl, .base rfl, kit_ty (show kitB "str" "str" = some true by decide +kernel), true, rfl, fun _ => ?_, nofun⟩))))
    refine xe_bool1 (xe_bi gA b_all (xa_cons (xe_lc [1] [("letter", 1)] rfl ?_ scTx.nd blTx)))
    refine xi_str (xe_nm 0 _ rfl ⟨z, rfl, ?_⟩)
    refine ⟨fun i acc => acc = (((z.cps.toList.take i).map low).map D.bl) ∧ i ≤ z.cps.toList.length, ⟨rfl, Nat.zero_le _⟩, ?_, ?_⟩
    · rintro i d acc hd ⟨rfl, li⟩
      obtain ⟨n, hn, rfl⟩ : ∃ n, z.cps.toList[i]? = some n ∧ d = .str ⟨#[n]⟩ := by
        unfold Dl.signs at hd
        rw [List.getElem?_map] at hd
        cases q : z.cps.toList[i]? with
        | none => rw [q] at hd; cases hd
        | some n => rw [q] at hd; exact ⟨n, rfl, (Option.some.inj hd).symm⟩
      have li2 := (List.getElem?_eq_some_iff.mp hn).1
      have lz2 : z.cps.toList.length < sizeLine := by rw [← str_len]; exact lz
      refine ⟨?_, fun s0 H0 C cl fp => ?_⟩
      · rw [List.length_map, List.length_map, List.length_take]
        omega
      refine xg_nm 1 ?_ scTx.nd
      intro s1 H1 C1 cl1 fp1
      refine ⟨fun _ s2 H2 C2 cl2 fp2 => ?_, nofun⟩
      refine xe_cmp (xe_nm 1 _ rfl (xe_gs gL (o_ins ⟨?_, li2⟩)))
      rw [List.take_add_one, hn, List.map_append, List.map_append]
      rfl
    · rintro acc q ⟨rfl, _⟩
      have el : (Dl.signs z).length = z.cps.toList.length := by unfold Dl.signs; rw [List.length_map]
      rw [el, List.take_length]
      refine xa_nil (c_all rfl ⟨trivial, ?_⟩)
      have : (z.cps.toList.map low).all id = isText z := by rw [List.all_map]; rfl
      rw [this]
      exact hR
  · refine xb_cons (xs_ret (xe_and (xe_isiB gI b_isinstance gS b_str (xe_nm 0 _ rfl ⟨_, _, false, rfl, ty, ki, false, rfl, nofun, fun _ => ⟨trivial, hR⟩⟩))))
/-- is_name -/
def Fnm (K : PySem.W.Frag) : FS := fun rs R _ => ∃ d t, rs = [.sh d] ∧ TyD K d t ∧ ((∃ z : Str, d = .str z ∧ z.length < sizeLine ∧ R (.sh (.bl (isText z && (decide (1 ≤ z.length) && decide (z.length ≤ 8)))))) ∨ (PySem.W.kitOne K t (.type "str") = some false ∧ R (.sh (.bl false))))
theorem scNm : FnScope ["thing"] ["thing"] (defScope (top 9)) := ⟨rfl, rfl, rfl, by decide +kernel, rfl, by decide +kernel, by decide +kernel⟩
theorem ok_nm (F : FnP K "is_name" 9 f fd) (T : Fn P w K mg base "is_text" 1 W0 1 [] (Ftxt K)) (gL : mg "len" = none) (gN : ∃ t, mg "LONGEST_NAME" = some (.int 8 t)) : FnOk P w K mg base (L2.CX P w) 2 f fd ["thing"] (spD K W0 1 (Fnm K)) := by
  refine dfn W0 F scNm rfl fun cdv A outer s H Ex rs R X hr hl hF => ?_
  obtain ⟨d, t, rfl, ty, hF⟩ := hF
  obtain ⟨tl, gN⟩ := gN
  rcases hF with ⟨z, rfl, lz, hR⟩ | ⟨ki, hR⟩
  · refine xb_cons (xs_ret (xe_and (xe_call T hr (xa_cons (xe_nm 0 _ rfl (xa_nil ⟨_, rfl, rfl, _, t, rfl, ty, .inl ⟨z, rfl, lz, isText z, rfl, fun ht => ?_, fun hf => ?_⟩⟩))))))
    · refine xe_bool1 (xe_chain (xe_int (xe_bi gL boot_len (xa_cons (xe_nm 0 _ rfl (xa_nil (c_lens (Nat.le_of_lt lz) ⟨_, rfl, o_lei ⟨_, rfl, fun h1 => ?_, fun h1 => ?_⟩⟩)))))))
      · refine xe_gi gN (o_lei ⟨trivial, ?_⟩)
        have e : decide ((z.length : Int) ≤ 8) = (isText z && (decide (1 ≤ z.length) && decide (z.length ≤ 8))) := by
          have h1 := of_decide_eq_true h1
          rw [ht, decide_eq_true (show 1 ≤ z.length by omega), Bool.true_and, Bool.true_and]
          exact decide_eq_decide.mpr (by omega)
        rw [e]
        exact hR
      · refine ⟨trivial, ?_⟩
        have e : false = (isText z && (decide (1 ≤ z.length) && decide (z.length ≤ 8))) := by
          have h1 := of_decide_eq_false h1
          rw [decide_eq_false (show ¬ 1 ≤ z.length by omega), Bool.false_and, Bool.and_false]
        rw [e]
        exact hR
    · rw [hf] at hR
      exact ⟨trivial, hR⟩
  · refine xb_cons (xs_ret (xe_and (xe_call T hr (xa_cons (xe_nm 0 _ rfl (xa_nil ⟨_, rfl, rfl, _, t, rfl, ty, .inr ⟨ki, false, rfl, nofun, fun _ => ⟨trivial, hR⟩⟩⟩))))))
end
end K02

namespace K02
open PySem PySem.Spec PyProof.Rows L2 Dl
def clsB : Stmt → List Stmt
  | .ClassDef (body := b) .. => b
  | _ => []
abbrev mInit : Stmt := (clsB (top 14)).headD (.Pass ⟨0, 0, 0, 0⟩)
section
variable {P : Program} {w : World} {K : PySem.W.Frag} {mg : Str → Option Value} {base : Heap} {f : Addr} {fd : FuncData}
def Flr : FS := fun rs R _ => rs = [.sh (.str "")] ∧ R (.sh (.str ""))
theorem scLr : FnScope ["ring", "size"] ["ring"] (defScope (top 11)) := ⟨rfl, rfl, rfl, by decide +kernel, rfl, by decide +kernel, by decide +kernel⟩
theorem len0 : Str.length "" = 0 := by decide
theorem ok_lr (F : FnP K "least_ring" 11 f fd) (gR : mg "range" = none) (gL : mg "len" = none) : FnOk P w K mg base (L2.CX P w) 1 f fd ["ring"] (spD K W0 1 Flr) := by
  refine dfn W0 F scLr rfl fun cdv A outer s H Ex rs R X hr hl hF => ?_
  obtain ⟨rfl, hR⟩ := hF
  refine xb_cons (xs_for [1] (xi_range2 gR (xa_cons (xe_int (xa_cons (xe_bi gL boot_len ?_))))))
  refine xa_cons (xe_nm 0 _ rfl (xa_nil (c_lens (by decide) (xa_nil ⟨_, _, rfl, by rw [len0]; decide, ?_⟩))))
  refine ⟨fun i ρ => ρ = [.sh (.str ""), .no], rfl, fun i d ρ hd _ => ?_, ?_⟩
  · rw [len0] at hd
    have : (intsD 1 (((0 : Nat) : Int) - 1).toNat)[i]? = none := rfl
    rw [this] at hd
    cases hd
  · rintro _ rfl
    exact xb_cons (xs_ret (xe_nm 0 _ rfl ⟨trivial, hR⟩))
def Flf : FS := fun rs R _ => ∃ z : Str, rs = [.sh (.str z), .sh (.str "")] ∧ z.length ≤ sizeLine ∧ R (.sh (.tup [.str z, .str ""]))
abbrev Nlf : List Str := ["beginning", "ring", "again", "many", "turns", "first"]
theorem scLf : FnScope Nlf ["beginning", "ring"] (defScope (top 12)) := ⟨rfl, rfl, rfl, by decide +kernel, rfl, by decide +kernel, by decide +kernel⟩
theorem cut_all (z : Str) : cutS z none (some (z.length : Int)) = z := by
  cases z with
  | mk a =>
    unfold cutS
    rw [HT.sIx_nat, HT.sIx_none, Nat.min_eq_left (Nat.le_refl _)]
    have : (List.take ((⟨a⟩ : Str).length - 0) (List.drop 0 a.toList)).toArray = a := by
      rw [List.drop_zero, Nat.sub_zero, List.take_of_length_le (by show a.toList.length ≤ a.size; simp)]
    exact congrArg Str.mk this
theorem ok_lf (F : FnP K "least_form" 12 f fd) (L : Fn P w K mg base "least_ring" 1 W0 1 [] Flr) (gL : mg "len" = none) : FnOk P w K mg base (L2.CX P w) 2 f fd ["beginning", "ring"] (spD K W0 2 Flf) := by
  refine dfn W0 F scLf rfl fun cdv A outer s H Ex rs R X hr hl hF => ?_
  obtain ⟨z, rfl, lz, hR⟩ := hF
  refine xb_cons (xs_par3 2 3 4 (xa_cons (xe_call L hr (xa_cons (xe_nm 1 _ rfl (xa_nil ⟨_, rfl, rfl, rfl, ?_⟩))))) scLf.nd)
  refine xa_cons (xe_bi gL boot_len (xa_cons (xe_nm 0 _ rfl (xa_nil (c_lens lz (xa_cons (xe_int (xa_nil ⟨_, _, _, rfl, ?_⟩))))))))
  refine xb_cons (xs_while (fun m ρ => ρ = [.sh (.str z), .sh (.str ""), .sh (.str ""), .sh (.int z.length), .sh (.int 0), .no]) 0 rfl fun m ρ e => ?_)
  subst e
  refine xt_bool (xw_and (xt_cmp (xe_bi gL boot_len (xa_cons (xe_nm 2 _ rfl (xa_nil (c_lens (by decide) (xe_int (o_gti ⟨_, rfl, fun hb => ?_, fun _ => ⟨nofun, fun _ => ?_⟩⟩)))))))))
  · rw [len0] at hb
    exact absurd hb (by decide)
  refine xb_cons (xs_if (xt_cmp (xe_nm 4 _ rfl (xe_int (o_gti ⟨_, rfl, fun hb => absurd hb (by decide), fun _ => xb_nil ?_⟩)))))
  refine xb_cons (xs_ret (xe_tup (xa_cons (xe_sl (xe_nm 0 _ rfl (xo_none (xo_some (xe_nm 3 _ rfl ⟨_, rfl, sl_s lz ?_⟩))))))))
  refine xa_cons (xe_nm 2 _ rfl (xa_nil ⟨_, rfl, ?_, trivial, ?_⟩))
  · show 2 ≤ sizeLine
    decide
  rw [cut_all]
  exact hR
/-- Row.__init__, of a finite row -/
def Fin : FI := fun rs R _ => ∃ z : Str, rs = [.sh (.str z), .sh (.str "")] ∧ z.length < sizeLine ∧ isText z = true ∧ R [("own_beginning", .str z), ("own_ring", .str "")]
abbrev Nin : List Str := ["self", "beginning", "ring"]
theorem scIn : FnScope Nin ["self", "beginning", "ring"] (defScope mInit) := ⟨rfl, rfl, rfl, by decide +kernel, rfl, by decide +kernel, by decide +kernel⟩
theorem ok_in {C : Addr} (F : FunD K "__init__" "Row.__init__" (defArgs mInit) (defBody mInit) (defScope mInit) [.str "", .str ""] [] f fd) (T : Fn P w K mg base "is_text" 1 W0 1 [] (Ftxt K)) (L : Fn P w K mg base "least_form" 2 W0 2 [] Flf)
    (cl : Cls K C) (nb : NoAttr K C "own_beginning") (nr : NoAttr K C "own_ring") : FnOk P w K mg base (L2.CX P w) 3 f fd ["self", "beginning", "ring"] (spI K 2 C Fin) := by
  refine dfnI F scIn rfl fun cdv A outer s H Ex o rs R X hr hl hF => ?_
  obtain ⟨z, rfl, lz, tz, hR⟩ := hF
  have t0 : isText "" = true := by decide
  refine xb_cons (xs_if (xt_bool (xw_or (xt_not (xt_val (xe_call T (hr.mono (by decide)) (xa_cons (xe_nm 1 _ rfl (xa_nil ⟨_, rfl, rfl, _, _, rfl, .base rfl, .inl ⟨z, rfl, lz, _, rfl, fun _ => ?_, fun hb => absurd hb (by rw [tz]; decide)⟩⟩)))))))))
  refine xw_or1 (xt_not (xt_val (xe_call T (hr.mono (by decide)) (xa_cons (xe_nm 2 _ rfl (xa_nil ⟨_, rfl, rfl, _, _, rfl, .base rfl, .inl ⟨_, rfl, by decide, _, rfl, fun hb => absurd hb (by rw [t0]; decide), fun _ => ?_⟩⟩))))))
  refine xb_nil (xb_cons (xs_fld2 0 (xe_call L hr (xa_cons (xe_nm 1 _ rfl (xa_cons (xe_nm 2 _ rfl (xa_nil ⟨_, rfl, rfl, z, rfl, Nat.le_of_lt lz, _, _, rfl, rfl, by decide, ?_⟩)))))) cl nb nr))
  exact xb_nil ⟨_, rfl, hR⟩
end
end K02

namespace K02
open PySem PySem.Spec PyProof.Rows L2 Dl
/-! ### the plain part -/
def sgn : Str := " !\"#$&'()*+,-./0123456789:;<=>?@ABCDEFGHIJKLMNOPQRSTUVWXYZ[\\]^_`{|}~\n"
theorem sgn_odd : ∀ a ∈ sgn.cps.toList, low a = false := by decide +kernel
theorem abc_low : ∀ a ∈ abc.cps.toList, low a = true := by decide +kernel
theorem app_list (x y : Str) : (x ++ y).cps.toList = x.cps.toList ++ y.cps.toList := by
  show (x.cps ++ y.cps).toList = _
  exact Array.toList_append
theorem odd_mid (x y : Str) {a : Nat} (h : low a = false) : isText (x ++ ⟨#[a]⟩ ++ y) = false := by
  unfold isText
  rw [app_list, app_list, List.all_append, List.all_append]
  have : (⟨#[a]⟩ : Str).cps.toList.all low = false := by show (low a && true) = false; rw [h]; rfl
  rw [this, Bool.and_false, Bool.false_and]
theorem cut_len (x : Str) (lo hi : Option Int) : (cutS x lo hi).length ≤ x.length := by
  rw [str_len]
  unfold cutS
  show (List.take _ (List.drop _ _)).length ≤ _
  rw [List.length_take, List.length_drop, ← str_len]
  omega
def isName (z : Str) : Bool := isText z && (decide (1 ≤ z.length) && decide (z.length ≤ 8))
/-- what the package answers of d -/
def Ask (K : PySem.W.Frag) (d : D) (a b : Bool) : Prop := ∃ t, TyD K d t ∧ ((∃ z : Str, d = .str z ∧ z.length < sizeLine ∧ isText z = a ∧ isName z = b) ∨ (PySem.W.kitOne K t (.type "str") = some false ∧ a = false ∧ b = false))
theorem shown_bb (a b : Bool) : (D.py (.lst [.bl a, .bl b])).shown.length ≤ sizeLine := by
  cases a <;> cases b <;> decide +kernel
section
variable {P : Program} {w : World} {K : PySem.W.Frag} {mg : Str → Option Value} {base : Heap} {f C : Addr} {fd : FuncData}
abbrev Nlaw : List Str := ["_law_script", "_law_state", "_law_letters", "_law_signs", "_law_turn", "_law_size", "_law_thing", "_law_due", "_law_at", "_law_k"]
theorem scLaw : FnScope Nlaw ["_law_script"] (defScope (top 20)) := ⟨rfl, rfl, rfl, by decide +kernel, rfl, by decide +kernel, by decide +kernel⟩
theorem blLaw : BlkOk Nlaw (defScope (top 20)) { kind := .function, names := [(".0", .local), ("_law_k", .local), ("_law_pick", .globalImplicit), ("_law_letters", .free), ("_law_state", .free)], isGenerator := false, isCoroutine := false } [("_law_k", 9)] :=
  ⟨rfl, by decide +kernel, by decide +kernel, by decide +kernel, by decide +kernel⟩
structure Calls (P : Program) (w : World) (K : PySem.W.Frag) (mg : Str → Option Value) (base : Heap) (C : Addr) : Prop where
  bg : FnB P w K mg base "_law_begun" 1
  ta : FnR P w K mg base "_law_take" 2 1 Ftake
  pi : FnR P w K mg base "_law_pick" 3 1 Fpick
  tx : Fn P w K mg base "is_text" 1 W0 1 [] (Ftxt K)
  nm : Fn P w K mg base "is_name" 2 W0 1 [] (Fnm K)
  rw : Mkr P w K mg base "Row" 3 2 [.str ""] C Fin
  cx : ClsX K C
  kr : PySem.W.kitOne K (.ref C) (.type "str") = some false
  le0 : mg "len" = none
  mi : mg "min" = none
  ra : mg "range" = none
  re : mg "repr" = none
variable {cdv : Value} {s : Shared} {H : Hp} {Ex : XK} {ns : List Int}
abbrev cL (P : Program) (w : World) (K : PySem.W.Frag) (mg : Str → Option Value) (base : Heap) (f : Addr) (cdv : Value) (s : Shared) (H : Hp) (Ex : XK) : DC := mkC P w K mg base Nlaw "law" (defScope (top 20)) f cdv callerA [] s H Ex W0 fun _ _ => False
theorem roomL : Room 5 (cL P w K mg base f cdv s H Ex).X.A := Room.deeper (k := 5) ⟨rfl, by decide, by decide⟩ _
theorem guardL : (cL P w K mg base f cdv s H Ex).X.A.guards = some [] := rfl
abbrev body : List Stmt := match (defBody (top 20)).getD 3 (.Pass ⟨0, 0, 0, 0⟩) with
  | .For _ _ b _ _ => b
  | _ => []
abbrev Tl (I : List E → Prop) (bk : List E → Prop) : Tg := ⟨I, fun r _ => r = .sh (.bl true), bk, I⟩
/-- the question -/
theorem ask (Cs : Calls P w K mg base C) {A w2 cc q : Addr} {m : Nat} {e4 e5 e8 e9 : E} {d : D} {a b : Bool} {I bk : List E → Prop} (hd : Ask K d a b)
    (hI : I [.sh (.frl ns), .dr A w2 cc m, .sh (.str abc), .sh (.str sgn), e4, e5, .sh d, .ow q (.lst [.bl a, .bl b]), e8, e9]) :
    XB (cL P w K mg base f cdv s H Ex) (body.drop 5) [.sh (.frl ns), .dr A w2 cc m, .sh (.str abc), .sh (.str sgn), e4, e5, .sh d, .ow q (.lst [.bl a, .bl b]), e8, e9] (Tl I bk) := by
  have R5 := roomL (P := P) (w := w) (K := K) (mg := mg) (base := base) (f := f) (cdv := cdv) (s := s) (H := H) (Ex := Ex)
  have gd := guardL (P := P) (w := w) (K := K) (mg := mg) (base := base) (f := f) (cdv := cdv) (s := s) (H := H) (Ex := Ex)
  obtain ⟨t, ty, hd⟩ := hd
  refine xb_cons (xs_if (xt_cmp (xe_bi Cs.re boot_repr (xa_cons (xe_lst ?_)))))
  rcases hd with ⟨z, rfl, lz, rfl, rfl⟩ | ⟨ki, rfl, rfl⟩
  · refine xa_cons (xe_call Cs.tx (R5.mono (by decide)) (xa_cons (xe_nm 6 _ rfl (xa_nil ⟨_, rfl, rfl, _, t, rfl, ty, .inl ⟨z, rfl, lz, ?_⟩⟩))))
    refine xa_cons (xe_call Cs.nm (R5.mono (by decide)) (xa_cons (xe_nm 6 _ rfl (xa_nil ⟨_, rfl, rfl, _, t, rfl, ty, .inl ⟨z, rfl, lz, ?_⟩⟩))))
    refine xa_nil ⟨[.bl (isText z), .bl (isName z)], rfl, by show 2 ≤ sizeLine; decide, fun q2 => ?_⟩
    refine xa_nil (c_repr R5 gd rfl rfl (by rfl) rfl (shown_bb _ _) (by show 1 ≤ 40; decide) ?_)
    refine xe_bi Cs.re boot_repr (xa_cons (xe_nmo 7 _ _ rfl (xa_nil (c_repr R5 gd ⟨_, .inl rfl⟩ rfl (by rfl) rfl (shown_bb _ _) (by show 1 ≤ 40; decide) (o_nes ⟨_, rfl, fun hb => absurd hb (by simp), fun _ => xb_nil (xb_nil hI)⟩)))))
  · refine xa_cons (xe_call Cs.tx (R5.mono (by decide)) (xa_cons (xe_nm 6 _ rfl (xa_nil ⟨_, rfl, rfl, _, t, rfl, ty, .inr ⟨ki, ?_⟩⟩))))
    refine xa_cons (xe_call Cs.nm (R5.mono (by decide)) (xa_cons (xe_nm 6 _ rfl (xa_nil ⟨_, rfl, rfl, _, t, rfl, ty, .inr ⟨ki, ?_⟩⟩))))
    refine xa_nil ⟨[.bl false, .bl false], rfl, by show 2 ≤ sizeLine; decide, fun q2 => ?_⟩
    refine xa_nil (c_repr R5 gd rfl rfl (by rfl) rfl (shown_bb _ _) (by show 1 ≤ 40; decide) ?_)
    refine xe_bi Cs.re boot_repr (xa_cons (xe_nmo 7 _ _ rfl (xa_nil (c_repr R5 gd ⟨_, .inl rfl⟩ rfl (by rfl) rfl (shown_bb _ _) (by show 1 ≤ 40; decide) (o_nes ⟨_, rfl, fun hb => absurd hb (by simp), fun _ => xb_nil (xb_nil hI)⟩)))))
end
end K02

namespace K02
open PySem PySem.Spec PyProof.Rows L2 Dl
theorem txt_all {as : List Nat} (h : ∀ a ∈ as, low a = true) {z : Str} (e : z.cps.toList = as) : isText z = true := by
  unfold isText
  rw [e, List.all_eq_true]
  exact h
theorem one_le : 1 ≤ sizeLine := by decide
theorem two_le : 2 ≤ sizeLine := by decide
theorem a_lt : Str.length "a" < sizeLine := by decide
theorem a_txt : isText "a" = true := by decide +kernel
theorem kit_no {K : PySem.W.Frag} {d : D} (h : kitB (tyD d) "str" = some false) (b : isTy d = true) : ∃ t, TyD K d t ∧ PySem.W.kitOne K t (.type "str") = some false := ⟨_, .base b, kit_ty h⟩
section
variable {P : Program} {w : World} {K : PySem.W.Frag} {mg : Str → Option Value} {base : Heap} {f C : Addr} {fd : FuncData}
variable {cdv : Value} {s : Shared} {H : Hp} {Ex : XK} {ns : List Int}
/-- any value in its place -/
theorem other (Cs : Calls P w K mg base C) {A w2 cc q : Addr} {m : Nat} {e4 e5 e8 e9 : E} {d : D} {a b : Bool} {I bk : List E → Prop} (hd : Ask K d a b) (hm : m < 2 ^ 30)
    (hI : ∀ m' q d a b, m' ≤ m + 2 → I [.sh (.frl ns), .dr A w2 cc m', .sh (.str abc), .sh (.str sgn), e4, e5, .sh d, .ow q (.lst [.bl a, .bl b]), e8, e9]) :
    XB (cL P w K mg base f cdv s H Ex) (body.drop 4) [.sh (.frl ns), .dr A w2 cc m, .sh (.str abc), .sh (.str sgn), e4, e5, .sh d, .ow q (.lst [.bl a, .bl b]), e8, e9] (Tl I bk) := by
  have R5 := roomL (P := P) (w := w) (K := K) (mg := mg) (base := base) (f := f) (cdv := cdv) (s := s) (H := H) (Ex := Ex)
  refine xb_cons ?_
  refine xs_if ?_
  refine xt_cmp ?_
  refine xe_callR Cs.ta (R5.mono (by decide)) ?_
  refine xa_cons ?_
  refine xe_nmd 1 rfl ?_
  refine xa_cons ?_
  refine xe_int ?_
  refine xa_nil ⟨1, _, _, A, w2, cc, m, rfl, rfl, rfl, rfl, _, rfl, by decide, by decide, by omega, fun k k0 k1 => ?_⟩
  refine xe_int ?_
  refine o_eqi ⟨_, rfl, fun _ => ?_, fun _ => ?_⟩
  · refine xb_cons (xs_set 6 (xe_callR Cs.pi (R5.mono (by decide)) ?_) scLaw.nd)
    refine xa_cons ?_
    refine xe_nmd 1 rfl ?_
    refine xa_cons ?_
    refine xe_lst ?_
    refine xa_cons ?_
    refine xe_non ?_
    refine xa_cons ?_
    refine xe_int ?_
    refine xa_cons ?_
    refine xe_bl ?_
    refine xa_cons ?_
    refine xe_lst ?_
    refine xa_cons ?_
    refine xe_str ?_
    refine xa_nil ⟨[.str "a"], rfl, one_le, fun q1 => ?_⟩
    refine xa_cons ?_
    refine xe_tup ?_
    refine xa_cons ?_
    refine xe_str ?_
    refine xa_cons ?_
    refine xe_str ?_
    refine xa_nil ⟨[.str "a", .str "b"], rfl, two_le, ?_⟩
    refine xa_cons ?_
    refine xe_dict1 ?_
    refine xe_str ⟨.inr "a", rfl, ?_⟩
    refine xe_str ⟨.str "a", rfl, fun q2 => ?_⟩
    refine xa_cons ?_
    refine xe_lst ?_
    refine xa_nil ⟨[], rfl, Nat.zero_le _, fun q3 => ?_⟩
    refine xa_cons ?_
    refine xe_tup ?_
    refine xa_nil ⟨[], rfl, Nat.zero_le _, ?_⟩
    refine xa_cons ?_
    refine xe_dict0 fun q4 => ?_
    refine xa_cons ?_
    refine xe_int ?_
    refine xa_cons ?_
    refine xe_make Cs.rw (R5.mono (by decide)) ?_
    refine xa_cons ?_
    refine xe_str ?_
    refine xa_nil ⟨[.str "a"], rfl, rfl, "a", rfl, a_lt, a_txt, fun q5 => ?_⟩
    refine xa_cons ?_
    refine xe_bl ?_
    refine xa_nil ⟨[.non, .int 5, .bl true, .lst [.str "a"], .tup [.str "a", .str "b"], .dK [(.inr "a", .str "a")], .lst [], .tup [], .dK [], .int 0, .ins C [("own_beginning", .str "a"), ("own_ring", .str "")], .bl false], rfl, ?_, fun q6 => ?_⟩
    · show 12 ≤ sizeLine
      decide
    refine xa_nil ⟨1, _, _, A, w2, cc, m + 1, rfl, rfl, rfl, rfl, .inl ⟨_, rfl, by show 0 < 12; decide, by show 12 < 2 ^ 30; decide, by omega, fun d' hd' => ⟨trivial, ?_⟩⟩⟩
    have hk : ∃ t, TyD K d' t ∧ PySem.W.kitOne K t (.type "str") = some false := by
      simp only [List.mem_cons, List.not_mem_nil, or_false] at hd'
      rcases hd' with rfl | rfl | rfl | rfl | rfl | rfl | rfl | rfl | rfl | rfl | rfl | rfl
      · exact kit_no (by decide +kernel) rfl
      · exact kit_no (by decide +kernel) rfl
      · exact kit_no (by decide +kernel) rfl
      · exact kit_no (by decide +kernel) rfl
      · exact kit_no (by decide +kernel) rfl
      · exact kit_no (by decide +kernel) rfl
      · exact kit_no (by decide +kernel) rfl
      · exact kit_no (by decide +kernel) rfl
      · exact kit_no (by decide +kernel) rfl
      · exact kit_no (by decide +kernel) rfl
      · exact ⟨_, .ins Cs.cx, Cs.kr⟩
      · exact kit_no (by decide +kernel) rfl
    obtain ⟨t, ty, ki⟩ := hk
    refine xb_cons (xs_set 7 ?_ scLaw.nd)
    refine xe_lst ?_
    refine xa_cons ?_
    refine xe_bl ?_
    refine xa_cons ?_
    refine xe_bl ?_
    refine xa_nil ⟨[.bl false, .bl false], rfl, two_le, fun q7 => ⟨trivial, ?_⟩⟩
    refine xb_nil (ask Cs ⟨t, ty, .inr ⟨ki, rfl, rfl⟩⟩ (hI _ _ _ _ _ (by omega)))
  · exact xb_nil (ask Cs hd (hI _ _ _ _ _ (by omega)))
/-- a turn -/
theorem turn (Cs : Calls P w K mg base C) {A w2 cc : Addr} {m : Nat} {e4 e5 e6 e7 e8 e9 : E} {I bk : List E → Prop} (hm : m < 2 ^ 29)
    (hI : ∀ m' e4 e5 e6 e7 e8 e9, m' ≤ m + 40 → I [.sh (.frl ns), .dr A w2 cc m', .sh (.str abc), .sh (.str sgn), e4, e5, e6, e7, e8, e9]) :
    XB (cL P w K mg base f cdv s H Ex) body [.sh (.frl ns), .dr A w2 cc m, .sh (.str abc), .sh (.str sgn), e4, e5, e6, e7, e8, e9] (Tl I bk) := by
  have R5 := roomL (P := P) (w := w) (K := K) (mg := mg) (base := base) (f := f) (cdv := cdv) (s := s) (H := H) (Ex := Ex)
  have h5 : 1000 ≤ sizeLine := by decide
  refine xb_cons (xs_set 5 (xe_callR Cs.pi (R5.mono (by decide)) ?_) scLaw.nd)
  refine xa_cons ?_
  refine xe_nmd 1 rfl ?_
  refine xa_cons ?_
  refine xe_lst ?_
  refine xa_cons ?_
  refine xe_int ?_
  refine xa_cons ?_
  refine xe_int ?_
  refine xa_cons ?_
  refine xe_int ?_
  refine xa_cons ?_
  refine xe_int ?_
  refine xa_cons ?_
  refine xe_int ?_
  refine xa_cons ?_
  refine xe_int ?_
  refine xa_cons ?_
  refine xe_int ?_
  refine xa_cons ?_
  refine xe_int ?_
  refine xa_cons ?_
  refine xe_int ?_
  refine xa_cons ?_
  refine xe_int ?_
  refine xa_cons ?_
  refine xe_int ?_
  refine xa_cons ?_
  refine xe_int ?_
  refine xa_nil ⟨[.int 0, .int 1, .int 1, .int 2, .int 3, .int 5, .int 7, .int 8, .int 8, .int 9, .int 9, .int 20], rfl, by show 12 ≤ sizeLine; omega, fun q => ?_⟩
  refine xa_nil ⟨1, _, _, A, w2, cc, m, rfl, rfl, rfl, rfl, .inl ⟨_, rfl, by show 0 < 12; decide, by show 12 < 2 ^ 30; decide, by omega, fun d hd => ?_⟩⟩
  obtain ⟨n, rfl, n0, n1⟩ : ∃ n : Int, d = .int n ∧ 0 ≤ n ∧ n ≤ 20 := by
    simp only [List.mem_cons, List.not_mem_nil, or_false] at hd
    rcases hd with rfl | rfl | rfl | rfl | rfl | rfl | rfl | rfl | rfl | rfl | rfl | rfl <;> exact ⟨_, rfl, by decide, by decide⟩
  refine ⟨trivial, ?_⟩
  refine xb_cons (xs_set 6 ?_ scLaw.nd)
  refine xe_join ?_
  refine xe_str ⟨_, rfl, ?_⟩
  refine xa_cons ?_
  refine xe_lcD 1 [9] [("_law_k", 9)] rfl (by decide) ?_ scLaw.nd blLaw
  refine xi_range Cs.ra ?_
  refine xa_cons ?_
  refine xe_nm 5 _ rfl ?_
  refine xa_nil ⟨_, rfl, by omega, by omega, ?_⟩
  refine ⟨A, w2, cc, m + 1, rfl, fun t acc m' => ∃ as : List Nat, acc = as.map (fun a => D.str ⟨#[a]⟩) ∧ as.length = t ∧ t ≤ n.toNat ∧ (∀ a ∈ as, low a = true) ∧ m' = m + 1 + t, ⟨[], rfl, rfl, Nat.zero_le _, fun a h => (List.not_mem_nil h).elim, rfl⟩, ?_, ?_⟩
  · rintro t d _ m' hd ⟨as, rfl, rfl, lt, lows, rfl⟩
    have ht : as.length < n.toNat := by
      have := (List.getElem?_eq_some_iff.mp hd).1
      rwa [intsD_len] at this
    have few : (as.map fun a => D.str ⟨#[a]⟩).length < sizeLine := by
      rw [List.length_map]
      omega
    refine ⟨few, fun s0 H0 C cl fp => ?_⟩
    refine xg_nm 9 ?_ scLaw.nd
    intro s1 H1 C1 cl1 fp1
    refine ⟨fun _ s2 H2 C2 cl2 fp2 => ?_, nofun⟩
    refine xe_callR Cs.pi (R5.mono (by decide)) ?_
    refine xa_cons ?_
    refine xe_nmd 1 rfl ?_
    refine xa_cons ?_
    refine xe_nm 2 _ rfl ?_
    refine xa_nil ⟨1, _, _, A, w2, cc, m + 1 + as.length, rfl, rfl, rfl, rfl, .inr ⟨abc, rfl, by decide, by decide, by decide, by omega, fun a ha => ?_⟩⟩
    refine ⟨_, rfl, as ++ [a], ?_, by rw [List.length_append]; rfl, ht, ?_, by omega⟩
    · rw [List.map_append]; rfl
    · intro b hb
      rcases List.mem_append.mp hb with q | q
      · exact lows b q
      · rw [List.mem_singleton.mp q]; exact abc_low a ha
  rintro _ q m' ⟨as, rfl, la, lt, lows, rfl⟩
  rw [intsD_len] at la
  refine xa_nil (m_join (zs := as.map fun a => ⟨#[a]⟩) (by rw [List.map_map]; rfl) ?_ ?_)
  · rw [sum_one, List.length_map]
    show as.length + as.length * 0 ≤ _
    omega
  have tz : isText (Txt.join "" (as.map fun a => (⟨#[a]⟩ : Str))) = true := txt_all lows (join0 as)
  have lz : (Txt.join "" (as.map fun a => (⟨#[a]⟩ : Str))).length ≤ 20 := by
    rw [str_len, join0]
    omega
  refine ⟨trivial, ?_⟩
  rw [intsD_len]
  have hm1 : m + 1 + n.toNat ≤ m + 21 := by omega
  generalize m + 1 + n.toNat = m1 at hm1 ⊢
  generalize Txt.join "" (as.map fun a => (⟨#[a]⟩ : Str)) = z at tz lz ⊢
  refine xb_cons (xs_set 7 ?_ scLaw.nd)
  refine xe_lst ?_
  refine xa_cons ?_
  refine xe_bl ?_
  refine xa_cons ?_
  have hN : ∀ b : Bool, b = isName z → XA (cL P w K mg base f cdv s H Ex) [] [.sh (.frl ns), .dr A w2 cc m1, .sh (.str abc), .sh (.str sgn), e4, .sh (.int n), .sh (.str z), e7, e8, e9] fun rs ρ'' => ∃ ds, (E.sh (.bl true) :: E.sh (.bl b) :: rs).mapM E.dat = some ds ∧ ds.length ≤ sizeLine ∧ ∀ q, (E.ow q (.lst ds)).here ∧ XB (cL P w K mg base f cdv s H Ex) (body.drop 3) (ρ''.set 7 (.ow q (.lst ds))) (Tl I bk) := by
    rintro b rfl
    refine xa_nil ⟨[.bl true, .bl (isName z)], rfl, by show 2 ≤ sizeLine; omega, fun q => ⟨trivial, ?_⟩⟩
    refine xb_cons ?_
    refine xs_if ?_
    refine xt_cmp ?_
    refine xe_callR Cs.ta (R5.mono (by decide)) ?_
    refine xa_cons ?_
    refine xe_nmd 1 rfl ?_
    refine xa_cons ?_
    refine xe_int ?_
    refine xa_nil ⟨1, _, _, A, w2, cc, m1, rfl, rfl, rfl, rfl, _, rfl, by decide, by decide, by omega, fun k k0 k1 => ?_⟩
    refine xe_int ?_
    refine o_eqi ⟨_, rfl, fun _ => ?_, fun _ => ?_⟩
    · refine xb_cons (xs_set 8 ?_ scLaw.nd)
      refine xe_callR Cs.ta (R5.mono (by decide)) ?_
      refine xa_cons ?_
      refine xe_nmd 1 rfl ?_
      refine xa_cons ?_
      refine xe_bin ?_
      refine xe_bi Cs.le0 boot_len ?_
      refine xa_cons ?_
      refine xe_nm 6 _ rfl ?_
      refine xa_nil ?_
      refine c_lens (by omega) ?_
      refine xe_int ?_
      refine o_addi ?_
      refine xa_nil ⟨1, _, _, A, w2, cc, m1 + 1, rfl, rfl, rfl, rfl, _, rfl, by omega, by omega, by omega, fun i i0 i1 => ⟨trivial, ?_⟩⟩
      refine xb_cons (xs_set 6 ?_ scLaw.nd)
      refine xe_bin ?_
      refine xe_bin ?_
      refine xe_sl ?_
      refine xe_nm 6 _ rfl ?_
      refine xo_none ?_
      refine xo_some ?_
      refine xe_nm 8 _ rfl ⟨_, rfl, ?_⟩
      refine sl_s (by omega) ?_
      have c1 := cut_len z none (some i)
      refine xe_callR Cs.pi (R5.mono (by decide)) ?_
      refine xa_cons ?_
      refine xe_nmd 1 rfl ?_
      refine xa_cons ?_
      refine xe_nm 3 _ rfl ?_
      refine xa_nil ⟨1, _, _, A, w2, cc, m1 + 1 + 1, rfl, rfl, rfl, rfl, .inr ⟨sgn, rfl, by decide +kernel, by decide +kernel, by decide +kernel, by omega, fun a ha => ?_⟩⟩
      have l1 : (⟨#[a]⟩ : Str).length = 1 := rfl
      refine o_adds (by omega) ?_
      refine xe_sl ?_
      refine xe_nm 6 _ rfl ?_
      refine xo_some ?_
      refine xe_bin ?_
      refine xe_nm 8 _ rfl ?_
      refine xe_callR Cs.ta (R5.mono (by decide)) ?_
      refine xa_cons ?_
      refine xe_nmd 1 rfl ?_
      refine xa_cons ?_
      refine xe_int ?_
      refine xa_nil ⟨1, _, _, A, w2, cc, m1 + 1 + 1 + 1, rfl, rfl, rfl, rfl, _, rfl, by decide, by decide, by omega, fun j j0 j1 => ?_⟩
      refine o_addi ⟨_, rfl, ?_⟩
      refine xo_none ?_
      refine sl_s (by omega) ?_
      have c2 := cut_len z (some (i + j)) none
      have c3 := app_len (cutS z none (some i)) ⟨#[a]⟩
      have c4 := app_len (cutS z none (some i) ++ ⟨#[a]⟩) (cutS z (some (i + j)) none)
      refine o_adds (by omega) ⟨trivial, ?_⟩
      have no := odd_mid (cutS z none (some i)) (cutS z (some (i + j)) none) (sgn_odd a ha)
      refine xb_cons (xs_set 7 ?_ scLaw.nd)
      refine xe_lst ?_
      refine xa_cons ?_
      refine xe_bl ?_
      refine xa_cons ?_
      refine xe_bl ?_
      refine xa_nil ⟨[.bl false, .bl false], rfl, two_le, fun q7 => ⟨trivial, xb_nil ?_⟩⟩
      exact other Cs ⟨_, .base rfl, .inl ⟨_, rfl, by omega, no, by unfold isName; rw [no]; rfl⟩⟩ (by omega) fun m' q d a b l => hI _ _ _ _ _ _ _ (by omega)
    · exact xb_nil (other Cs ⟨_, .base rfl, .inl ⟨z, rfl, by omega, tz, rfl⟩⟩ (by omega) fun m' q d a b l => hI _ _ _ _ _ _ _ (by omega))
  refine xe_chain ?_
  refine xe_int ?_
  refine xe_bi Cs.le0 boot_len ?_
  refine xa_cons ?_
  refine xe_nm 6 _ rfl ?_
  refine xa_nil ?_
  refine c_lens (by omega) ⟨_, rfl, ?_⟩
  refine o_lti ⟨_, rfl, fun h1 => ?_, fun h1 => ?_⟩
  · refine xe_int (o_lti (hN _ ?_))
    have h1 := of_decide_eq_true h1
    unfold isName
    rw [tz, decide_eq_true (show 1 ≤ z.length by omega), Bool.true_and, Bool.true_and]
    exact decide_eq_decide.mpr (by omega)
  · refine hN _ ?_
    have h1 := of_decide_eq_false h1
    unfold isName
    rw [decide_eq_false (show ¬ 1 ≤ z.length by omega), Bool.false_and, Bool.and_false]
/-- the law -/
theorem law_ok (Cs : Calls P w K mg base C) (few : ns.length ≤ 63) :
    XB (cL P w K mg base f cdv s H Ex) (defBody (top 20)) (.sh (.frl ns) :: List.replicate 9 .no) ⟨fun _ => False, fun r _ => r = .sh (.bl true), fun _ => False, fun _ => False⟩ := by
  have R5 := roomL (P := P) (w := w) (K := K) (mg := mg) (base := base) (f := f) (cdv := cdv) (s := s) (H := H) (Ex := Ex)
  refine xb_cons (xs_begun 1 0 Cs.bg (R5.mono (by decide)) rfl few (fun A w2 cc => ?_) scLaw.nd)
  refine xb_cons (xs_set 2 (xe_str ⟨trivial, xb_cons (xs_set 3 (xe_str ⟨trivial, ?_⟩) scLaw.nd)⟩) scLaw.nd)
  refine xb_cons (xs_for [4] (xi_range Cs.ra (xa_cons (xe_bin (xe_int (xe_bi Cs.mi boot_min ?_))))))
  refine xa_cons (xe_bi Cs.le0 boot_len (xa_cons (xe_nm 0 _ rfl (xa_nil (c_lenf (xa_cons (xe_int (xa_nil (c_min (o_addi ?_))))))))))
  refine xa_nil ⟨_, rfl, by split <;> omega, by split <;> omega, ?_⟩
  have hn : (4 + if (40 : Int) < (ns.length : Int) then 40 else (ns.length : Int)).toNat ≤ 44 := by split <;> omega
  generalize (4 + if (40 : Int) < (ns.length : Int) then 40 else (ns.length : Int)).toNat = n at hn ⊢
  refine ⟨fun i ρ => ∃ (m : Nat) (e4 e5 e6 e7 e8 e9 : E), ρ = [.sh (.frl ns), .dr A w2 cc m, .sh (.str abc), .sh (.str sgn), e4, e5, e6, e7, e8, e9] ∧ m ≤ 40 * i, ⟨0, _, _, _, _, _, _, rfl, Nat.le_refl _⟩, ?_, ?_⟩
  · rintro i d _ hd ⟨m, e4, e5, e6, e7, e8, e9, rfl, hm⟩
    have hi : i < n := by
      have := (List.getElem?_eq_some_iff.mp hd).1
      rwa [intsD_len] at this
    refine xg_nm 4 ?_ scLaw.nd
    refine turn Cs (by omega) fun m' e4 e5 e6 e7 e8 e9 l => ⟨m', _, _, _, _, _, _, rfl, by omega⟩
  · rintro _ ⟨m, e4, e5, e6, e7, e8, e9, rfl, hm⟩
    exact xb_cons (xs_ret (xe_bl rfl))
end
end K02

namespace K02
open PySem PySem.Spec PyProof.Rows L2 Dl
/-! ### the head: facts of the defs by their names, facts of the class besides, the run -/
def dd (x : Str) (i : Nat) : He.DefD := ⟨(x, none), x, x, defArgs (top i), defBody (top i), defScope (top i), [], []⟩
def di : He.DefD := ⟨("Row", some "__init__"), "__init__", "Row.__init__", defArgs mInit, defBody mInit, defScope mInit, [.str "", .str ""], []⟩
def hfn : List He.DefD := [dd "is_text" 8, dd "is_name" 9, dd "least_ring" 11, dd "least_form" 12, di, dd "_law_begun" 16, dd "_law_blend" 17, dd "_law_take" 18, dd "_law_pick" 19, dd "law" 20]
def hfa : List He.Fa := [.glo "is_text", .glo "is_name", .glo "least_ring", .glo "least_form", .glo "Row", .glo "_law_begun", .glo "_law_blend", .glo "_law_take", .glo "_law_pick", .glo "law",
  .free "len", .free "min", .free "range", .free "repr", .free "int", .free "list", .free "isinstance", .free "str", .free "all", .cls "Row", .noat "Row" "own_beginning", .noat "Row" "own_ring", .mkr "Row", .str "LETTERS" abc, .int "LONGEST_NAME" 8]
/-- what isinstance asks of the class -/
def more (K : PySem.W.Frag) : Bool := He.eqO (PySem.W.findIn K (.ref (He.ga K "Row")) "__class__") (some (some (.builtin "object.__class__"))) &&
  (He.eqO (PySem.W.specialIn K (.builtin "object.__class__") "__get__") (some (some (.builtin "getset_descriptor.__get__"))) &&
  (decide (PySem.W.takesIn K (.builtin "object.__class__") = some true) && (decide (PySem.W.mroIn K (He.ga K "Row") (.type "object") = some true) && decide (PySem.W.kitOne K (.ref (He.ga K "Row")) (.type "str") = some false))))
abbrev row : PySem.W.OpenRow := PySem.W.OpenLaw.row PySem.Challenge.rw_anyarrival_k02_names_and_texts
def hook : PySem.W.Hook where
  α := He.AlD × Bool
  obs := fun s => (He.obsDG 5 hfa hfn s.heap.get?, more (He.frG s.heap.get? (He.asD s.heap.get? 5)))
  val := fun _ => (He.valD hfn, true)
  says := fun _ h => ∃ K : PySem.W.Frag, K.In h ∧ He.SaysD hfa hfn K ∧ more K = true
  of := fun _ _ e => ⟨_, He.frG_in, congrArg Prod.fst e, congrArg Prod.snd e⟩
  keeps := fun _ _ _ ⟨K, hK, c⟩ k => ⟨K, PySem.W.Frag.In.keeps hK k, c⟩
def seen (s : PySem.W.SharedT) : He.AlD × Bool := (He.obsDG 5 hfa hfn (HandSHeadRun.getT s), more (He.frG (HandSHeadRun.getT s) (He.asD (HandSHeadRun.getT s) 5)))
theorem seen_eq (s : PySem.W.SharedT) : seen s = hook.obs s.abs := by
  have e : HandSHeadRun.getT s = s.abs.heap.get? := funext (HandSHeadRun.getT_eq s)
  unfold seen
  rw [e]
  rfl
def others : List PySem.Str := ["_wall", "ServiceError", "BadRow", "NoPlace", "LETTERS", "LONGEST_NAME", "is_text", "is_name", "is_count", "least_ring", "least_form", "first_letters", "Row", "_law_begun", "_law_blend", "_law_take", "_law_pick"]
theorem top_run (w : World) : HandSHeadRun.RunEq row (PySem.W.view row.prog [20]) hook seen 3000 others w := by
  intro os
  kernel_rfl
end K02

namespace K02
open PySem PySem.Spec PyProof.Rows L2 Dl
theorem facts {P : Program} {w : World} {K : PySem.W.Frag} {h : Heap} {mg : Str → Option Value} {f : Addr} (X : K.In h) (G : h.Ns mainGlobals mg) (hfa' : mg ("law" : Str) = some (.ref f)) (c : He.SaysD hfa hfn K) (cm : more K = true) :
    ∃ fd : FuncData, FunD K "law" "law" (defArgs (top 20)) (defBody (top 20)) (defScope (top 20)) [] [] f fd ∧ (∀ (s : Shared) (v : Value), BindsTo s fd ⟨[v], []⟩ [("_law_script", v)]) ∧ ∀ base : Heap, Calls P w K mg base (He.ga K "Row") := by
  obtain ⟨f0, F0⟩ := c.def_ 0 (d := dd "is_text" 8) rfl
  obtain ⟨f1, F1⟩ := c.def_ 1 (d := dd "is_name" 9) rfl
  obtain ⟨f2, F2⟩ := c.def_ 2 (d := dd "least_ring" 11) rfl
  obtain ⟨f3, F3⟩ := c.def_ 3 (d := dd "least_form" 12) rfl
  obtain ⟨f4, F4⟩ := c.def_ 4 (d := di) rfl
  obtain ⟨f5, F5⟩ := c.def_ 5 (d := dd "_law_begun" 16) rfl
  obtain ⟨f6, F6⟩ := c.def_ 6 (d := dd "_law_blend" 17) rfl
  obtain ⟨f7, F7⟩ := c.def_ 7 (d := dd "_law_take" 18) rfl
  obtain ⟨f8, F8⟩ := c.def_ 8 (d := dd "_law_pick" 19) rfl
  obtain ⟨f9, F9⟩ := c.def_ 9 (d := dd "law" 20) rfl
  have g0 := He.glo_ok X G (c.fact 0 (f := .glo "is_text") rfl)
  have g1 := He.glo_ok X G (c.fact 1 (f := .glo "is_name") rfl)
  have g2 := He.glo_ok X G (c.fact 2 (f := .glo "least_ring") rfl)
  have g3 := He.glo_ok X G (c.fact 3 (f := .glo "least_form") rfl)
  have g4 := He.glo_ok X G (c.fact 4 (f := .glo "Row") rfl)
  have g5 := He.glo_ok X G (c.fact 5 (f := .glo "_law_begun") rfl)
  have g6 := He.glo_ok X G (c.fact 6 (f := .glo "_law_blend") rfl)
  have g7 := He.glo_ok X G (c.fact 7 (f := .glo "_law_take") rfl)
  have g8 := He.glo_ok X G (c.fact 8 (f := .glo "_law_pick") rfl)
  have g9 := He.glo_ok X G (c.fact 9 (f := .glo "law") rfl)
  have e := hfa'.symm.trans g9
  cases e
  have nL := He.free_ok X G (c.fact 10 (f := .free "len") rfl)
  have nM := He.free_ok X G (c.fact 11 (f := .free "min") rfl)
  have nR := He.free_ok X G (c.fact 12 (f := .free "range") rfl)
  have nP := He.free_ok X G (c.fact 13 (f := .free "repr") rfl)
  have nI := He.free_ok X G (c.fact 14 (f := .free "int") rfl)
  have nS := He.free_ok X G (c.fact 15 (f := .free "list") rfl)
  have nT := He.free_ok X G (c.fact 16 (f := .free "isinstance") rfl)
  have nU := He.free_ok X G (c.fact 17 (f := .free "str") rfl)
  have nA := He.free_ok X G (c.fact 18 (f := .free "all") rfl)
  have cl := He.cls_ok (c.fact 19 (f := .cls "Row") rfl)
  have na := He.noat_ok (c.fact 20 (f := .noat "Row" "own_beginning") rfl)
  have nb := He.noat_ok (c.fact 21 (f := .noat "Row" "own_ring") rfl)
  have mk := He.mkr_ok (c.fact 22 (f := .mkr "Row") rfl)
  have sL := He.str_ok X G (c.fact 23 (f := .str "LETTERS" abc) rfl)
  have iN := He.int_ok X G (c.fact 24 (f := .int "LONGEST_NAME" 8) rfl)
  obtain ⟨m1, m2⟩ := Bool.and_eq_true_iff.mp cm
  obtain ⟨m2, m3⟩ := Bool.and_eq_true_iff.mp m2
  obtain ⟨m3, m4⟩ := Bool.and_eq_true_iff.mp m3
  obtain ⟨m4, m5⟩ := Bool.and_eq_true_iff.mp m4
  have cx : ClsX K (He.ga K "Row") := ⟨cl, He.eqO_ok m1, He.eqO_ok m2, of_decide_eq_true m3, of_decide_eq_true m4⟩
  have b0 : Binds K f0 ["thing"] [] := FunD.bindsN F0 fun _ _ _ _ _ _ us hl => match us, hl with | [_], _ => rfl
  have b1 : Binds K f1 ["thing"] [] := FunD.bindsN F1 fun _ _ _ _ _ _ us hl => match us, hl with | [_], _ => rfl
  have b2 : Binds K f2 ["ring"] [] := FunD.bindsN F2 fun _ _ _ _ _ _ us hl => match us, hl with | [_], _ => rfl
  have b3 : Binds K f3 ["beginning", "ring"] [] := FunD.bindsN F3 fun _ _ _ _ _ _ us hl => match us, hl with | [_, _], _ => rfl
  obtain ⟨ds, vd, b4⟩ : ∃ ds, Vals [V.str ""] ds ∧ Binds K f4 ["self", "beginning", "ring"] ds := FunD.binds1 (ps := ["self", "beginning", "ring"]) F4 2 1 (by simp [di, He.DefD.dvs]) rfl fun T kV doc pm an cdv ct us its hu hi => by
    match us, hu, its, hi with
    | [_, _], _, [_, _], _ => exact ⟨_, rfl, rfl⟩
  have b5 : Binds K f5 ["_law_script"] [] := FunD.bindsN F5 fun _ _ _ _ _ _ us hl => match us, hl with | [_], _ => rfl
  have b7 : Binds K f7 ["_law_draw", "_law_size"] [] := FunD.bindsN F7 fun _ _ _ _ _ _ us hl => match us, hl with | [_, _], _ => rfl
  have b8 : Binds K f8 ["_law_draw", "_law_some"] [] := FunD.bindsN F8 fun _ _ _ _ _ _ us hl => match us, hl with | [_, _], _ => rfl
  have b9 := FunD.bindsA (ps := ["_law_script"]) F9 fun _ _ _ _ _ _ us hl => match us, hl with | [_], _ => rfl
  refine ⟨f9, F9, fun s v => b9 s [v] rfl, fun base => ?_⟩
  have T : FnR P w K mg base "_law_take" 2 1 Ftake := ⟨_, _, _, ok_ta F7 F6 g6 nI, g7, F7.kp, b7⟩
  have Pk : FnR P w K mg base "_law_pick" 3 1 Fpick := ⟨_, _, _, ok_pi F8 T nL, g8, F8.kp, b8⟩
  have Tx : Fn P w K mg base "is_text" 1 W0 1 [] (Ftxt K) := ⟨_, _, _, _, ok_tx F0 nT nU nA sL, g0, F0.kp, b0, .nil⟩
  have Lr : Fn P w K mg base "least_ring" 1 W0 1 [] Flr := ⟨_, _, _, _, ok_lr F2 nR nL, g2, F2.kp, b2, .nil⟩
  have Lf : Fn P w K mg base "least_form" 2 W0 2 [] Flf := ⟨_, _, _, _, ok_lf F3 Lr nL, g3, F3.kp, b3, .nil⟩
  exact ⟨⟨_, _, ok_bg F5 nS, g5, F5.kp, b5⟩, T, Pk, Tx, ⟨_, _, _, _, ok_nm F1 Tx nL iN, g1, F1.kp, b1, .nil⟩, ⟨_, _, _, ds, mk, ok_in F4 Tx Lf cl na nb, g4, b4, vd⟩, cx, of_decide_eq_true m5, nL, nM, nR, nP⟩
end K02
open PySem PySem.W PySem.Calls PyProof.Rows
theorem PySem.Challenge.cw_anyarrival_k02_names_and_texts_holds : PySem.Challenge.rw_anyarrival_k02_names_and_texts.Holds := by
  w_on; o_law
  refine HandSHeadRun.head_any (r := K02.row) (q := view K02.row.prog [20]) (H := K02.hook) (ob := K02.seen) (M := 3000) (loose := K02.others) (d := HandSHeadRun.topDef K02.row.prog 20) (kwd := []) K02.seen_eq
    (by kernel_rfl) (fun s => by kernel_rfl) K02.top_run (by kernel_rfl) (by kernel_rfl) (by kernel_rfl) (by rfl) (by first | assumption | decide +kernel) (by decide +kernel) ⟨rfl, rfl, rfl, rfl, rfl, by decide +kernel⟩ ?hw ?hc
  case hw => w_witness2
  case hc =>
    refine Dl.law_end (l := PySem.Challenge.rw_anyarrival_k02_names_and_texts) (n := 63) (x := "_law_script") (nm := "law") (qual := "law") (params := L2.defArgs (K02.top 20)) (body := L2.defBody (K02.top 20)) (N := K02.Nlaw) rfl (by decide) (by kernel_rfl) K02.scLaw ?_
    intro w mg fa h Y G named
    obtain ⟨K, inK, c, cm⟩ := Y
    have nm : (HandSHeadRun.topDef K02.row.prog 20).name = ("law" : PySem.Str) := by kernel_rfl
    rw [nm] at named
    obtain ⟨fd, F, b, C⟩ := K02.facts (P := (PySem.Challenge.rw_anyarrival_k02_names_and_texts).prog) (w := w) inK G named c cm
    exact ⟨K, fd, inK, F, b, fun base cdv s H Ex ns _ _ few => K02.law_ok (C base) few⟩
