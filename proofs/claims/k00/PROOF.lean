import PyProof.Rows.All
import Wide.All
import OpenK.AllK
import Wide.FinOn
import HandS.ForMost
import HandS.ExcInit
import HandS.ForExc
import HandS.Walk
import HandS.Property
import HandS.IsInst
import HandS.Wide
import HandS.WideBits
import HandS.TupAny
import HandS.Deep
import HandS.Conv
import HandS.Style
import PyProof.Rows.RuleB_pow
import PyProof.ReprReads
import HandS.ExcIs
import HandS.ExcSuper
import KE.KExcSuper
import KE.KExcIs
import HandS.HeadEnd
import HandS.WordsExc
import PyProof.ReprRoads
import HandS.ExcValue
import HandS.Head0
import HandS.Head1
import HandS.Head2
import HandS.HeadHook1
import HandS.HeadHook2
import PySem.Challenge.RW_whatplan_k00_errors_and_what_they_keep
set_option Elab.async false
set_option linter.all false
set_option maxRecDepth 100000
set_option maxHeartbeats 0
set_option autoImplicit false
/-! Pv1: data, representation, the state of a body. -/
namespace Pv
open PySem L2

/-- pure data -/
inductive D where
  | non | bl (b : Bool) | int (i : Int) | str (s : Str)
  | tup (l : List D) | lst (l : List D)
  | frl (l : List Int)
  | dK (l : List (Key × D)) | dT (l : List (List Key × D))
  | obj (c : Nat) (l : List D)
  | ref (n : Nat)
  | exc (c : Nat) (d : D)
  deriving Inhabited

/-- the classes by number: where they stand, their fields in order -/
structure Tbl where
  cls : Nat → Addr
  flds : Nat → List Str
  exc : Nat → Addr

/-- the frozen heap and the boxed cells -/
structure Zt where
  hp : Hp
  et : List Addr

mutual
def Rep (K : PySem.W.Frag) (T : Tbl) (Z : Zt) : D → V → Prop
  | .non, v => v = .non
  | .bl b, v => v = .bl b
  | .int i, v => v = .int i
  | .str s, v => v = .str s
  | .tup l, v => ∃ a vs, v = .ref a ∧ SqT K Z.hp a vs ∧ RepL K T Z l vs
  | .lst l, v => ∃ a vs, v = .ref a ∧ Z.hp a = some (.lst vs) ∧ RepL K T Z l vs
  | .frl l, v => ∃ a, v = .ref a ∧ SqL K Z.hp a (l.map V.int)
  | .dK l, v => ∃ a kvs, v = .ref a ∧ Z.hp a = some (.dK kvs) ∧ RepK K T Z l kvs
  | .dT l, v => ∃ a kvs, v = .ref a ∧ Z.hp a = some (.dT kvs) ∧ RepT K T Z l kvs
  | .obj c l, v => ∃ a dx vs, v = .ref a ∧ Z.hp a = some (.ins (T.cls c) dx ((T.flds c).zip vs)) ∧ RepL K T Z l vs
  | .ref n, v => ∃ a, v = .ref a ∧ Z.et[n]? = some a
  | .exc c d, v => ∃ a dx x, v = .ref a ∧ Z.hp a = some (exo a (T.exc c) (some dx)) ∧ Z.hp dx = some (exd dx [("value", x)]) ∧ Rep K T Z d x
def RepL (K : PySem.W.Frag) (T : Tbl) (Z : Zt) : List D → List V → Prop
  | [], vs => vs = []
  | d :: ds, vs => ∃ v r, vs = v :: r ∧ Rep K T Z d v ∧ RepL K T Z ds r
def RepK (K : PySem.W.Frag) (T : Tbl) (Z : Zt) : List (Key × D) → List (Key × V) → Prop
  | [], vs => vs = []
  | (k, d) :: ds, vs => ∃ v r, vs = (k, v) :: r ∧ Rep K T Z d v ∧ RepK K T Z ds r
def RepT (K : PySem.W.Frag) (T : Tbl) (Z : Zt) : List (List Key × D) → List (List Key × V) → Prop
  | [], vs => vs = []
  | (k, d) :: ds, vs => ∃ v r, vs = (k, v) :: r ∧ Rep K T Z d v ∧ RepT K T Z ds r
end

structure Le (Z Z' : Zt) : Prop where
  same : Same Z.hp Z'.hp
  et : ∀ (n : Nat) a, Z.et[n]? = some a → Z'.et[n]? = some a
theorem Le.refl (Z : Zt) : Le Z Z := ⟨Same.refl _, fun _ _ h => h⟩
theorem Le.trans {A B C : Zt} (a : Le A B) (b : Le B C) : Le A C := ⟨a.same.trans b.same, fun n x h => b.et n x (a.et n x h)⟩

theorem Same.tup {K : PySem.W.Frag} {H H' : Hp} {a : Addr} {xs : List V} (e : Same H H') (h : SqT K H a xs) : SqT K H' a xs := by
  rcases h with (h | ⟨o, h⟩) | h
  · exact .inl (.inl (e _ _ h))
  · exact .inl (.inr ⟨o, e _ _ h⟩)
  · exact .inr h

section
variable {K : PySem.W.Frag} {T : Tbl}
mutual
theorem Rep.mono {Z Z' : Zt} (h : Le Z Z') : ∀ (d : D) {v : V}, Rep K T Z d v → Rep K T Z' d v
  | .non, _, r => r
  | .bl _, _, r => r
  | .int _, _, r => r
  | .str _, _, r => r
  | .tup l, _, ⟨a, vs, e, q, r⟩ => ⟨a, vs, e, Same.tup h.same q, RepL.mono h l r⟩
  | .lst l, _, ⟨a, vs, e, q, r⟩ => ⟨a, vs, e, h.same _ _ q, RepL.mono h l r⟩
  | .frl l, _, ⟨a, e, q⟩ => ⟨a, e, h.same.seq q⟩
  | .dK l, _, ⟨a, vs, e, q, r⟩ => ⟨a, vs, e, h.same _ _ q, RepK.mono h l r⟩
  | .dT l, _, ⟨a, vs, e, q, r⟩ => ⟨a, vs, e, h.same _ _ q, RepT.mono h l r⟩
  | .obj c l, _, ⟨a, dx, vs, e, q, r⟩ => ⟨a, dx, vs, e, h.same _ _ q, RepL.mono h l r⟩
  | .ref n, _, ⟨a, e, q⟩ => ⟨a, e, h.et _ _ q⟩
  | .exc c d, _, ⟨a, dx, x, e, q1, q2, r⟩ => ⟨a, dx, x, e, h.same _ _ q1, h.same _ _ q2, Rep.mono h d r⟩
theorem RepL.mono {Z Z' : Zt} (h : Le Z Z') : ∀ (ds : List D) {vs : List V}, RepL K T Z ds vs → RepL K T Z' ds vs
  | [], _, r => r
  | d :: ds, _, ⟨v, r, e, q, s⟩ => ⟨v, r, e, Rep.mono h d q, RepL.mono h ds s⟩
theorem RepK.mono {Z Z' : Zt} (h : Le Z Z') : ∀ (ds : List (Key × D)) {vs : List (Key × V)}, RepK K T Z ds vs → RepK K T Z' ds vs
  | [], _, r => r
  | (k, d) :: ds, _, ⟨v, r, e, q, s⟩ => ⟨v, r, e, Rep.mono h d q, RepK.mono h ds s⟩
theorem RepT.mono {Z Z' : Zt} (h : Le Z Z') : ∀ (ds : List (List Key × D)) {vs : List (List Key × V)}, RepT K T Z ds vs → RepT K T Z' ds vs
  | [], _, r => r
  | (k, d) :: ds, _, ⟨v, r, e, q, s⟩ => ⟨v, r, e, Rep.mono h d q, RepT.mono h ds s⟩
end

/-! ### lists of data -/
theorem RepL.length {Z : Zt} : ∀ {ds : List D} {vs : List V}, RepL K T Z ds vs → vs.length = ds.length
  | [], _, r => by rw [show _ = [] from r]; rfl
  | d :: ds, _, ⟨v, r, e, q, s⟩ => by rw [e, List.length_cons, List.length_cons, RepL.length s]
theorem RepL.get {Z : Zt} : ∀ {ds : List D} {vs : List V} {i : Nat} {d : D}, RepL K T Z ds vs → ds[i]? = some d → ∃ v, vs[i]? = some v ∧ Rep K T Z d v
  | [], _, _, _, _, e => by simp at e
  | x :: ds, _, 0, d, ⟨v, r, e, q, s⟩, h => by
    have : x = d := by simpa using h
    subst this
    exact ⟨v, by rw [e]; rfl, q⟩
  | x :: ds, _, i + 1, d, ⟨v, r, e, q, s⟩, h => by
    obtain ⟨w, h1, h2⟩ := RepL.get (i := i) (d := d) s (by simpa using h)
    exact ⟨w, by rw [e]; simpa using h1, h2⟩
theorem RepL.append {Z : Zt} : ∀ {ds es : List D} {vs ws : List V}, RepL K T Z ds vs → RepL K T Z es ws → RepL K T Z (ds ++ es) (vs ++ ws)
  | [], _, _, _, r, s => by rw [show _ = [] from r]; exact s
  | d :: ds, _, _, _, ⟨v, r, e, q, t⟩, s => ⟨v, r ++ _, by rw [e]; rfl, q, RepL.append t s⟩
theorem RepL.one {Z : Zt} {d : D} {v : V} (h : Rep K T Z d v) : RepL K T Z [d] [v] := ⟨v, [], rfl, h, rfl⟩
theorem RepL.drop {Z : Zt} : ∀ {ds : List D} {vs : List V} (n : Nat), RepL K T Z ds vs → RepL K T Z (ds.drop n) (vs.drop n)
  | _, _, 0, r => r
  | [], _, n + 1, r => by rw [show _ = [] from r]; rfl
  | d :: ds, _, n + 1, ⟨v, r, e, q, t⟩ => by rw [e]; exact RepL.drop n t
theorem RepL.take {Z : Zt} : ∀ {ds : List D} {vs : List V} (n : Nat), RepL K T Z ds vs → RepL K T Z (ds.take n) (vs.take n)
  | _, _, 0, r => rfl
  | [], _, n + 1, r => by rw [show _ = [] from r]; rfl
  | d :: ds, _, n + 1, ⟨v, r, e, q, t⟩ => by rw [e]; exact ⟨v, r.take n, rfl, q, RepL.take n t⟩
theorem RepL.reverse {Z : Zt} : ∀ {ds : List D} {vs : List V}, RepL K T Z ds vs → RepL K T Z ds.reverse vs.reverse
  | [], _, r => by rw [show _ = [] from r]; rfl
  | d :: ds, _, ⟨v, r, e, q, t⟩ => by
    rw [e, List.reverse_cons, List.reverse_cons]
    exact (RepL.reverse t).append (.one q)
theorem RepL.set {Z : Zt} {d : D} {v : V} (h : Rep K T Z d v) : ∀ {ds : List D} {vs : List V} (n : Nat), RepL K T Z ds vs → RepL K T Z (ds.set n d) (vs.set n v)
  | [], _, n, r => by rw [show _ = [] from r]; rfl
  | _ :: ds, _, 0, ⟨w, r, e, q, t⟩ => by rw [e]; exact ⟨v, r, rfl, h, t⟩
  | x :: ds, _, n + 1, ⟨w, r, e, q, t⟩ => by rw [e]; exact ⟨w, r.set n v, rfl, q, RepL.set h n t⟩
theorem RepL.eraseIdx {Z : Zt} : ∀ {ds : List D} {vs : List V} (n : Nat), RepL K T Z ds vs → RepL K T Z (ds.eraseIdx n) (vs.eraseIdx n)
  | [], _, n, r => by rw [show _ = [] from r]; rfl
  | _ :: ds, _, 0, ⟨w, r, e, q, t⟩ => by rw [e]; exact t
  | x :: ds, _, n + 1, ⟨w, r, e, q, t⟩ => by rw [e]; exact ⟨w, r.eraseIdx n, rfl, q, RepL.eraseIdx n t⟩
theorem RepL.ints {Z : Zt} : ∀ {ns : List Int} {vs : List V}, RepL K T Z (ns.map D.int) vs → vs = ns.map V.int
  | [], _, r => r
  | n :: ns, _, ⟨v, r, e, q, t⟩ => by rw [e, RepL.ints t, show v = .int n from q]; rfl
theorem RepL.strs {Z : Zt} : ∀ {ns : List Str} {vs : List V}, RepL K T Z (ns.map D.str) vs → vs = ns.map V.str
  | [], _, r => r
  | n :: ns, _, ⟨v, r, e, q, t⟩ => by rw [e, RepL.strs t, show v = .str n from q]; rfl
theorem RepL.bls {Z : Zt} : ∀ {ns : List Bool} {vs : List V}, RepL K T Z (ns.map D.bl) vs → vs = ns.map V.bl
  | [], _, r => r
  | n :: ns, _, ⟨v, r, e, q, t⟩ => by rw [e, RepL.bls t, show v = .bl n from q]; rfl
theorem RepL.of_ints {Z : Zt} : ∀ (ns : List Int), RepL K T Z (ns.map D.int) (ns.map V.int)
  | [] => rfl
  | n :: ns => ⟨.int n, ns.map V.int, rfl, rfl, RepL.of_ints ns⟩
theorem RepL.of_strs {Z : Zt} : ∀ (ns : List Str), RepL K T Z (ns.map D.str) (ns.map V.str)
  | [] => rfl
  | n :: ns => ⟨.str n, ns.map V.str, rfl, rfl, RepL.of_strs ns⟩
end

/-! ### the state of a body -/
/-- a local name: a value, or a list (dict) that it alone holds -/
inductive Sl where
  | val (d : D)
  | own (d : D)
abbrev Env := List (Option Sl)
abbrev Mem := List (List D)

inductive Rs (α : Type) where
  | ok (a : α) (ρ : Env) (μ : Mem)
  | exc (c : Nat) (d : D) (μ : Mem)
  | bad
abbrev M (α : Type) := Env → Mem → Rs α
def ret {α : Type} (a : α) : M α := fun ρ μ => .ok a ρ μ
def bnd {α β : Type} (m : M α) (k : α → M β) : M β := fun ρ μ => match m ρ μ with
  | .ok a ρ' μ' => k a ρ' μ'
  | .exc c d μ' => .exc c d μ'
  | .bad => .bad
def opt {α : Type} : Option α → M α
  | some a => ret a
  | none => fun _ _ => .bad

/-- the entry of a def -/
structure Fm where
  H0 : Hp
  Z0 : Zt
  /-- lists that are being made -/
  pend : List (Addr × HO)
  /-- the object that is being made by an __init__ -/
  slf : Option Addr

/-- the same but the boxed cells -/
structure Base (K : PySem.W.Frag) (T : Tbl) (F : Fm) (Z : Zt) (μ : Mem) (H : Hp) : Prop where
  same : Same Z.hp H
  le0 : Le F.Z0 Z
  steal : ∀ a, F.H0 a ≠ none → F.Z0.hp a = none → Z.hp a = none
  keep : ∀ a o, F.H0 a = some o → a ∉ F.Z0.et → H a = some o
  newc : ∀ a ∈ Z.et, a ∈ F.Z0.et ∨ F.H0 a = none
  nd : Z.et.Nodup
  sto : ∀ (n : Nat) a, Z.et[n]? = some a → ∃ ds, μ[n]? = some ds ∧ Z.hp a = none ∧ ∃ vs, H a = some (.lst vs) ∧ RepL K T Z ds vs
  lenm : μ.length = Z.et.length
  pnd : (F.pend.map (·.1)).Nodup
  pend : ∀ p ∈ F.pend, H p.1 = some p.2 ∧ Z.hp p.1 = none ∧ p.1 ∉ Z.et ∧ F.H0 p.1 = none

/-- the list (dict) at a, in H, of items that are frozen -/
def Sh (K : PySem.W.Frag) (T : Tbl) (Z : Zt) (H : Hp) (a : Addr) : D → Prop
  | .lst l => ∃ vs, H a = some (.lst vs) ∧ RepL K T Z l vs
  | .dK l => ∃ kvs, H a = some (.dK kvs) ∧ RepK K T Z l kvs
  | .dT l => ∃ kvs, H a = some (.dT kvs) ∧ RepT K T Z l kvs
  | .obj c l => ∃ dx vs, H a = some (.ins (T.cls c) dx ((T.flds c).zip vs)) ∧ RepL K T Z l vs
  | _ => False

structure OwnAt (K : PySem.W.Frag) (T : Tbl) (F : Fm) (Z : Zt) (H : Hp) (a : Addr) (d : D) : Prop where
  new : F.H0 a = none
  free : Z.hp a = none
  nocell : a ∉ Z.et
  np : ∀ p ∈ F.pend, p.1 ≠ a
  slf : ∀ c l, d = .obj c l → F.slf = some a
  sh : Sh K T Z H a d

def SlotOk (K : PySem.W.Frag) (T : Tbl) (F : Fm) (Z : Zt) (H : Hp) : Sl → V → Prop
  | .val d, v => Rep K T Z d v
  | .own d, v => ∃ a, v = .ref a ∧ OwnAt K T F Z H a d

structure Slots (K : PySem.W.Frag) (T : Tbl) (F : Fm) (Z : Zt) (ρ : Env) (σ : St) (H : Hp) : Prop where
  len : ρ.length = σ.length
  at_ : ∀ (i : Nat) s, ρ[i]? = some (some s) → ∃ v, σ[i]? = some (some v) ∧ SlotOk K T F Z H s v
  apart : ∀ (i j : Nat) d e a, ρ[i]? = some (some (.own d)) → ρ[j]? = some (some (.own e)) → σ[i]? = some (some (.ref a)) → σ[j]? = some (some (.ref a)) → i = j

structure Good (K : PySem.W.Frag) (T : Tbl) (F : Fm) (Z : Zt) (ρ : Env) (μ : Mem) (σ : St) (H : Hp) : Prop where
  base : Base K T F Z μ H
  slots : Slots K T F Z ρ σ H

/-- new objects, all frozen -/
structure Grow (Z : Zt) (H : Hp) (Z' : Zt) (H' : Hp) : Prop where
  old : ∀ a o, H a = some o → H' a = some o ∧ Z'.hp a = Z.hp a
  new : ∀ a, H a = none → Z'.hp a = H' a
  et : Z'.et = Z.et
theorem Grow.refl {Z : Zt} {H : Hp} (s : Same Z.hp H) : Grow Z H Z H := ⟨fun a o h => ⟨h, rfl⟩, fun a h => by rw [s.free h, h], rfl⟩
theorem Grow.le {Z Z' : Zt} {H H' : Hp} (s : Same Z.hp H) (g : Grow Z H Z' H') : Le Z Z' :=
  ⟨fun a o h => by rw [(g.old a o (s a o h)).2]; exact h, fun n a h => by rw [g.et]; exact h⟩
theorem Grow.same {Z Z' : Zt} {H H' : Hp} (s : Same Z.hp H) (g : Grow Z H Z' H') : Same Z'.hp H' := fun a o h => by
  cases q : H a with
  | none => rw [g.new a q] at h; exact h
  | some u =>
    obtain ⟨e1, e2⟩ := g.old a u q
    rw [e2] at h
    have := s a o h
    rw [q] at this
    rw [e1]; exact this
theorem Grow.trans {Z Z1 Z2 : Zt} {H H1 H2 : Hp} (a : Grow Z H Z1 H1) (b : Grow Z1 H1 Z2 H2) : Grow Z H Z2 H2 := by
  refine ⟨fun x o h => ?_, fun x h => ?_, b.et.trans a.et⟩
  · obtain ⟨e1, e2⟩ := a.old x o h
    obtain ⟨e3, e4⟩ := b.old x o e1
    exact ⟨e3, e4.trans e2⟩
  · cases q : H1 x with
    | none => exact b.new x q
    | some u =>
      obtain ⟨e3, e4⟩ := b.old x u q
      rw [e4, a.new x h, q, e3]
/-- one new object -/
def Zt.put (Z : Zt) (p : Addr) (o : HO) : Zt := ⟨upd Z.hp p o, Z.et⟩
theorem Grow.put {Z : Zt} {H : Hp} {p : Addr} {o : HO} (s : Same Z.hp H) (h : H p = none) : Grow Z H (Z.put p o) (upd H p o) := by
  refine ⟨fun a u e => ?_, fun a e => ?_, rfl⟩
  · have ne : a ≠ p := ne_of_none e h
    exact ⟨by rw [upd_ne ne]; exact e, upd_ne ne⟩
  · by_cases q : a = p
    · subst q
      show upd Z.hp a o a = upd H a o a
      rw [upd_same, upd_same]
    · show upd Z.hp p o a = upd H p o a
      rw [upd_ne q, upd_ne q, e]
      exact s.free e

section
variable {K : PySem.W.Frag} {T : Tbl} {F : Fm} {Z Z' : Zt} {ρ : Env} {μ : Mem} {σ : St} {H H' : Hp}

theorem Sh.mono {a : Addr} {d : D} (l : Le Z Z') (e : ∀ o, H a = some o → H' a = some o) (h : Sh K T Z H a d) : Sh K T Z' H' a d := by
  cases d with
  | lst l => obtain ⟨vs, q, r⟩ := h; exact ⟨vs, e _ q, RepL.mono ‹_› _ r⟩
  | dK l => obtain ⟨vs, q, r⟩ := h; exact ⟨vs, e _ q, RepK.mono ‹_› _ r⟩
  | dT l => obtain ⟨vs, q, r⟩ := h; exact ⟨vs, e _ q, RepT.mono ‹_› _ r⟩
  | obj c l => obtain ⟨dx, vs, q, r⟩ := h; exact ⟨dx, vs, e _ q, RepL.mono ‹_› _ r⟩
  | _ => exact h.elim
theorem Sh.there {a : Addr} {d : D} (h : Sh K T Z H a d) : ∃ o, H a = some o := by
  cases d with
  | lst l => obtain ⟨vs, q, r⟩ := h; exact ⟨_, q⟩
  | dK l => obtain ⟨vs, q, r⟩ := h; exact ⟨_, q⟩
  | dT l => obtain ⟨vs, q, r⟩ := h; exact ⟨_, q⟩
  | obj c l => obtain ⟨dx, vs, q, r⟩ := h; exact ⟨_, q⟩
  | _ => exact h.elim

theorem Base.grow (b : Base K T F Z μ H) (g : Grow Z H Z' H') : Base K T F Z' μ H' := by
  have l := g.le b.same
  refine ⟨g.same b.same, b.le0.trans l, fun a h0 hz => ?_, fun a o h0 hn => ?_, fun a ha => ?_, ?_, fun n a ha => ?_, by rw [g.et]; exact b.lenm, b.pnd, fun p hp => ?_⟩
  · by_cases hc : a ∈ F.Z0.et
    · obtain ⟨n, hn⟩ := List.getElem?_of_mem hc
      obtain ⟨ds, _, hz', vs, hv, _⟩ := b.sto n a (b.le0.et n a hn)
      rw [(g.old a _ hv).2]; exact hz'
    · cases q : F.H0 a with
      | none => exact absurd q h0
      | some o =>
        rw [(g.old a o (b.keep a o q hc)).2]
        exact b.steal a h0 hz
  · exact (g.old a o (b.keep a o h0 hn)).1
  · rw [g.et] at ha; exact b.newc a ha
  · rw [g.et]; exact b.nd
  · rw [g.et] at ha
    obtain ⟨ds, h1, h2, vs, h3, h4⟩ := b.sto n a ha
    obtain ⟨e1, e2⟩ := g.old a _ h3
    exact ⟨ds, h1, by rw [e2]; exact h2, vs, e1, h4.mono l _⟩
  · obtain ⟨h1, h2, h3, h4⟩ := b.pend p hp
    obtain ⟨e1, e2⟩ := g.old p.1 _ h1
    exact ⟨e1, by rw [e2]; exact h2, by rw [g.et]; exact h3, h4⟩
theorem OwnAt.grow {a : Addr} {d : D} (s : Same Z.hp H) (o : OwnAt K T F Z H a d) (g : Grow Z H Z' H') : OwnAt K T F Z' H' a d := by
  obtain ⟨u, hu⟩ := o.sh.there
  exact ⟨o.new, by rw [(g.old a u hu).2]; exact o.free, by rw [g.et]; exact o.nocell, o.np, o.slf, o.sh.mono (g.le s) fun w hw => (g.old a w hw).1⟩
theorem SlotOk.grow {s : Sl} {v : V} (e : Same Z.hp H) (h : SlotOk K T F Z H s v) (g : Grow Z H Z' H') : SlotOk K T F Z' H' s v := by
  cases s with
  | val d => exact Rep.mono (g.le e) d h
  | own d => obtain ⟨a, ea, o⟩ := h; exact ⟨a, ea, o.grow e g⟩
theorem Good.grow (G : Good K T F Z ρ μ σ H) (g : Grow Z H Z' H') : Good K T F Z' ρ μ σ H' :=
  ⟨G.base.grow g, G.slots.len, fun i s e => let ⟨v, h1, h2⟩ := G.slots.at_ i s e; ⟨v, h1, h2.grow G.base.same g⟩, G.slots.apart⟩
end
end Pv

/-! Pv2: readings of semantic functions; expressions, statements, calls, defs. -/
namespace Pv
open PySem L2

section
variable {K : PySem.W.Frag} {T : Tbl} {xk : XK} {F : Fm} {Z Z' : Zt} {α β : Type}
/-- an exception of class c with the value d -/
def Exok (K : PySem.W.Frag) (T : Tbl) (xk : XK) (F : Fm) (Z : Zt) (c : Nat) (d : D) (μ : Mem) : Prop :=
  ∀ Z' H' dx v, Base K T F Z' μ H' → Le Z Z' → H' dx = some (.xd [("value", v)]) → Rep K T Z' d v → xk (.ref (T.exc c)) (some dx) H'
def After (K : PySem.W.Frag) (T : Tbl) (xk : XK) (F : Fm) (Z : Zt) (r : Rs α) (Q : α → Env → Mem → Prop) : Prop := match r with
  | .ok a ρ μ => Q a ρ μ
  | .exc c d μ => Exok K T xk F Z c d μ
  | .bad => False
theorem Exok.mono {c : Nat} {d : D} {μ : Mem} (h : Exok K T xk F Z c d μ) (l : Le Z Z') : Exok K T xk F Z' c d μ := fun Z2 H' dx v b q e r => h Z2 H' dx v b (l.trans q) e r
theorem After.imp {r : Rs α} {Q Q' : α → Env → Mem → Prop} (h : After K T xk F Z r Q) (l : Le Z Z') (i : ∀ a ρ μ, Q a ρ μ → Q' a ρ μ) : After K T xk F Z' r Q' := by
  cases r with
  | ok a ρ μ => exact i _ _ _ h
  | exc c d μ => exact Exok.mono h l
  | bad => exact h
theorem After.bnd {m : M α} {k : α → M β} {ρ : Env} {μ : Mem} {Q : β → Env → Mem → Prop} (h : After K T xk F Z (bnd m k ρ μ) Q) : After K T xk F Z (m ρ μ) fun a ρ' μ' => After K T xk F Z (k a ρ' μ') Q := by
  unfold Pv.bnd at h
  cases e : m ρ μ with
  | ok a ρ' μ' => rw [e] at h; exact h
  | exc c d μ' => rw [e] at h; exact h
  | bad => rw [e] at h; exact h
end

/-- operands: a name that is looked at when the operation runs, or a value -/
inductive Ar where
  | v (i : Nat)
  | d (d : D)
def pk (x : Ar) (ρ : Env) (μ : Mem) : Option D := match x with
  | .d d => some d
  | .v i => match ρ[i]? with
    | some (some (.val (.ref n))) => (μ[n]?).map .lst
    | some (some (.val d)) => some d
    | some (some (.own d)) => some d
    | _ => none
def ArRep (K : PySem.W.Frag) (T : Tbl) (σ : St) (Z : Zt) : Ar → V → Prop
  | .v i, v => σ[i]? = some (some v)
  | .d d, v => Rep K T Z d v
/-- to be read as d: frozen, or a list whose items are frozen -/
def Pk (K : PySem.W.Frag) (T : Tbl) (Z : Zt) (H : Hp) (d : D) (v : V) : Prop := Rep K T Z d v ∨ ∃ a, v = .ref a ∧ Sh K T Z H a d

section
variable {K : PySem.W.Frag} {T : Tbl} {F : Fm} {Z Z' : Zt} {ρ : Env} {μ : Mem} {σ : St} {H H' : Hp} {d : D} {v : V}
theorem ArRep.mono {x : Ar} (l : Le Z Z') (h : ArRep K T σ Z x v) : ArRep K T σ Z' x v := by
  cases x with
  | v i => exact h
  | d d => exact Rep.mono l d h
theorem pk_ok {x : Ar} (G : Good K T F Z ρ μ σ H) (r : ArRep K T σ Z x v) (e : pk x ρ μ = some d) : Pk K T Z H d v := by
  cases x with
  | d d' => cases e; exact .inl r
  | v i =>
    unfold pk at e
    dsimp only at e
    cases q : ρ[i]? with
    | none => rw [q] at e; cases e
    | some o =>
      cases o with
      | none => rw [q] at e; cases e
      | some s =>
        obtain ⟨w, h1, h2⟩ := G.slots.at_ i s q
        rw [show σ[i]? = some (some v) from r] at h1
        cases h1
        rw [q] at e
        cases s with
        | own d' =>
          cases e
          obtain ⟨a, ea, o⟩ := h2
          exact .inr ⟨a, ea, o.sh⟩
        | val d' =>
          cases d' with
          | ref n =>
            obtain ⟨a, ea, hn⟩ := h2
            obtain ⟨ds, hm, _, vs, hv, hr⟩ := G.base.sto n a hn
            simp only [hm, Option.map_some, Option.some.injEq] at e
            subst e
            exact .inr ⟨a, ea, vs, hv, hr⟩
          | _ => cases e; exact .inl h2
/-! what a peeked operand is -/
theorem Pk.non (h : Pk K T Z H .non v) : v = .non := by
  rcases h with h | ⟨_, _, h⟩
  · exact h
  · exact h.elim
theorem Pk.bl {b : Bool} (h : Pk K T Z H (.bl b) v) : v = .bl b := by
  rcases h with h | ⟨_, _, h⟩
  · exact h
  · exact h.elim
theorem Pk.int {i : Int} (h : Pk K T Z H (.int i) v) : v = .int i := by
  rcases h with h | ⟨_, _, h⟩
  · exact h
  · exact h.elim
theorem Pk.str {s : Str} (h : Pk K T Z H (.str s) v) : v = .str s := by
  rcases h with h | ⟨_, _, h⟩
  · exact h
  · exact h.elim
theorem Pk.tup {l : List D} (s : Same Z.hp H) (h : Pk K T Z H (.tup l) v) : ∃ a vs, v = .ref a ∧ SqT K H a vs ∧ RepL K T Z l vs := by
  rcases h with ⟨a, vs, e, q, r⟩ | ⟨_, _, h⟩
  · exact ⟨a, vs, e, Same.tup s q, r⟩
  · exact h.elim
theorem Pk.lst {l : List D} (s : Same Z.hp H) (h : Pk K T Z H (.lst l) v) : ∃ a vs, v = .ref a ∧ H a = some (.lst vs) ∧ RepL K T Z l vs := by
  rcases h with ⟨a, vs, e, q, r⟩ | ⟨a, e, vs, q, r⟩
  · exact ⟨a, vs, e, s _ _ q, r⟩
  · exact ⟨a, vs, e, q, r⟩
theorem Pk.frl {l : List Int} (s : Same Z.hp H) (h : Pk K T Z H (.frl l) v) : ∃ a, v = .ref a ∧ SqL K H a (l.map V.int) := by
  rcases h with ⟨a, e, q⟩ | ⟨_, _, h⟩
  · exact ⟨a, e, s.seq q⟩
  · exact h.elim
theorem Pk.dK {l : List (Key × D)} (s : Same Z.hp H) (h : Pk K T Z H (.dK l) v) : ∃ a vs, v = .ref a ∧ H a = some (.dK vs) ∧ RepK K T Z l vs := by
  rcases h with ⟨a, vs, e, q, r⟩ | ⟨a, e, vs, q, r⟩
  · exact ⟨a, vs, e, s _ _ q, r⟩
  · exact ⟨a, vs, e, q, r⟩
theorem Pk.dT {l : List (List Key × D)} (s : Same Z.hp H) (h : Pk K T Z H (.dT l) v) : ∃ a vs, v = .ref a ∧ H a = some (.dT vs) ∧ RepT K T Z l vs := by
  rcases h with ⟨a, vs, e, q, r⟩ | ⟨a, e, vs, q, r⟩
  · exact ⟨a, vs, e, s _ _ q, r⟩
  · exact ⟨a, vs, e, q, r⟩
theorem Pk.obj {c : Nat} {l : List D} (s : Same Z.hp H) (h : Pk K T Z H (.obj c l) v) : ∃ a dx vs, v = .ref a ∧ H a = some (.ins (T.cls c) dx ((T.flds c).zip vs)) ∧ RepL K T Z l vs := by
  rcases h with ⟨a, dx, vs, e, q, r⟩ | ⟨a, e, dx, vs, q, r⟩
  · exact ⟨a, dx, vs, e, s _ _ q, r⟩
  · exact ⟨a, dx, vs, e, q, r⟩
/-- the frozen heap seen as the heap itself -/
theorem Rep.full (s : Same Z.hp H) (d : D) {v : V} (h : Rep K T Z d v) : Rep K T ⟨H, Z.et⟩ d v := Rep.mono (Z := Z) (Z' := ⟨H, Z.et⟩) ⟨s, fun _ _ e => e⟩ d h
theorem Pk.full (s : Same Z.hp H) (h : Pk K T Z H d v) : Rep K T ⟨H, Z.et⟩ d v := by
  rcases h with h | ⟨a, e, h⟩
  · exact h.full s
  · have l : Le Z ⟨H, Z.et⟩ := ⟨s, fun _ _ e => e⟩
    cases d with
    | lst x => obtain ⟨vs, q, r⟩ := h; exact ⟨a, vs, e, q, r.mono l _⟩
    | dK x => obtain ⟨vs, q, r⟩ := h; exact ⟨a, vs, e, q, r.mono l _⟩
    | dT x => obtain ⟨vs, q, r⟩ := h; exact ⟨a, vs, e, q, r.mono l _⟩
    | obj c x => obtain ⟨dx, vs, q, r⟩ := h; exact ⟨a, dx, vs, e, q, r.mono l _⟩
    | _ => exact h.elim
theorem Pk.of (h : Rep K T Z d v) : Pk K T Z H d v := .inl h
end

/-! ### readings -/
section
variable (K : PySem.W.Frag) (T : Tbl) (xk : XK)
def rdE (m : M D) : TE := fun σ H Q => ∃ F Z ρ μ, Good K T F Z ρ μ σ H ∧ After K T xk F Z (m ρ μ) fun d ρ' μ' => ∀ v Z' H', Good K T F Z' ρ' μ' σ H' → Le Z Z' → Rep K T Z' d v → Q v H'
def rdA (m : M Ar) : TE := fun σ H Q => ∃ F Z ρ μ, Good K T F Z ρ μ σ H ∧ After K T xk F Z (m ρ μ) fun x ρ' μ' => ∀ v Z' H', Good K T F Z' ρ' μ' σ H' → Le Z Z' → ArRep K T σ Z' x v → Q v H'
/-- a new list (dict), not yet frozen -/
def rdF (m : M D) : TE := fun σ H Q => ∃ F Z ρ μ, Good K T F Z ρ μ σ H ∧ After K T xk F Z (m ρ μ) fun d ρ' μ' => ∀ a Z' H', Good K T F Z' ρ' μ' σ H' → Le Z Z' → OwnAt K T F Z' H' a d →
  (∀ (j : Nat) e, ρ'[j]? = some (some (.own e)) → σ[j]? ≠ some (some (.ref a))) → Q (.ref a) H'
def rdT (m : M Bool) : TT := fun σ H Q => ∃ F Z ρ μ, Good K T F Z ρ μ σ H ∧ After K T xk F Z (m ρ μ) fun b ρ' μ' => ∀ Z' H', Good K T F Z' ρ' μ' σ H' → Le Z Z' → Q b H'
def rdL (m : M (List D)) : TA := fun σ H Q => ∃ F Z ρ μ, Good K T F Z ρ μ σ H ∧ After K T xk F Z (m ρ μ) fun ds ρ' μ' => ∀ vs Z' H', Good K T F Z' ρ' μ' σ H' → Le Z Z' → RepL K T Z' ds vs → Q vs H'
def ArRepL (σ : St) (Z : Zt) : List Ar → List V → Prop
  | [], vs => vs = []
  | x :: xs, vs => ∃ v r, vs = v :: r ∧ ArRep K T σ Z x v ∧ ArRepL σ Z xs r
def rdAL (m : M (List Ar)) : TA := fun σ H Q => ∃ F Z ρ μ, Good K T F Z ρ μ σ H ∧ After K T xk F Z (m ρ μ) fun xs ρ' μ' => ∀ vs Z' H', Good K T F Z' ρ' μ' σ H' → Le Z Z' → ArRepL K T σ Z' xs vs → Q vs H'
end

theorem PE.imp {X : Cx} {e : Expr} {t t' : TE} (h : PE X e t) (i : ∀ σ H Q, t' σ H Q → t σ H Q) : PE X e t' := ⟨fun pins s σ H Q I hw => h.run pins s σ H Q I (i σ H Q hw)⟩
theorem PT.imp {X : Cx} {e : Expr} {t t' : TT} (h : PT X e t) (i : ∀ σ H Q, t' σ H Q → t σ H Q) : PT X e t' := ⟨fun pins s σ H Q I hw => h.run pins s σ H Q I (i σ H Q hw)⟩
theorem PW.imp {X : Cx} {e : Expr} {t t' : TT} (h : PW X e t) (i : ∀ σ H Q, t' σ H Q → t σ H Q) : PW X e t' := ⟨fun wh pins s σ H Q I hw => h.run wh pins s σ H Q I (i σ H Q hw)⟩
theorem PA.imp {X : Cx} {e : List Expr} {t t' : TA} (h : PA X e t) (i : ∀ σ H Q, t' σ H Q → t σ H Q) : PA X e t' := ⟨fun pos pins s σ H Q I hw => h.run pos pins s σ H Q I (i σ H Q hw)⟩
theorem PS.imp {X : Cx} {e : Stmt} {t t' : TS} (h : PS X e t) (i : ∀ D σ H, t' D σ H → t D σ H) : PS X e t' := ⟨fun pins s σ H D I hw => h.run pins s σ H D I (i D σ H hw)⟩
theorem PSs.imp {X : Cx} {e : List Stmt} {t t' : TS} (h : PSs X e t) (i : ∀ D σ H, t' D σ H → t D σ H) : PSs X e t' := ⟨fun pins s σ H D I hw => h.run pins s σ H D I (i D σ H hw)⟩

/-! ### freezing -/
section
variable {K : PySem.W.Frag} {T : Tbl} {F : Fm} {Z Z' : Zt} {ρ : Env} {μ : Mem} {σ : St} {H H' : Hp} {d : D} {v : V} {a : Addr}
theorem le_put {o : HO} (h : Z.hp a = none) : Le Z (Z.put a o) := ⟨fun b u e => by
  show upd Z.hp a o b = some u
  rw [upd_ne (ne_of_none e h)]; exact e, fun _ _ e => e⟩
theorem OwnAt.rep {o : HO} (h : OwnAt K T F Z H a d) (e : H a = some o) : Rep K T (Z.put a o) d (.ref a) := by
  have l : Le Z (Z.put a o) := le_put h.free
  have pa : (Z.put a o).hp a = some o := upd_same
  have s := h.sh
  cases d with
  | lst x => obtain ⟨vs, q, r⟩ := s; rw [e] at q; cases q; exact ⟨a, vs, rfl, pa, r.mono l _⟩
  | dK x => obtain ⟨vs, q, r⟩ := s; rw [e] at q; cases q; exact ⟨a, vs, rfl, pa, r.mono l _⟩
  | dT x => obtain ⟨vs, q, r⟩ := s; rw [e] at q; cases q; exact ⟨a, vs, rfl, pa, r.mono l _⟩
  | obj c x => obtain ⟨dx, vs, q, r⟩ := s; rw [e] at q; cases q; exact ⟨a, dx, vs, rfl, pa, r.mono l _⟩
  | _ => exact s.elim
theorem Base.freeze {o : HO} (b : Base K T F Z μ H) (e : H a = some o) (n0 : F.H0 a = none) (nz : Z.hp a = none) (nc : a ∉ Z.et) (np : ∀ p ∈ F.pend, p.1 ≠ a) : Base K T F (Z.put a o) μ H := by
  have l : Le Z (Z.put a o) := le_put nz
  refine ⟨fun b' u h => ?_, b.le0.trans l, fun x h0 hz => ?_, b.keep, b.newc, b.nd, fun n x hx => ?_, b.lenm, b.pnd, fun p hp => ?_⟩
  · by_cases q : b' = a
    · subst q
      rw [show (Z.put b' o).hp b' = some o from upd_same] at h
      cases h; exact e
    · rw [show (Z.put a o).hp b' = Z.hp b' from upd_ne q] at h
      exact b.same _ _ h
  · have q : x ≠ a := fun z => h0 (z ▸ n0)
    rw [show (Z.put a o).hp x = Z.hp x from upd_ne q]
    exact b.steal x h0 hz
  · obtain ⟨ds, h1, h2, vs, h3, h4⟩ := b.sto n x hx
    have q : x ≠ a := fun z => nc (z ▸ List.mem_of_getElem? hx)
    exact ⟨ds, h1, by rw [show (Z.put a o).hp x = Z.hp x from upd_ne q]; exact h2, vs, h3, h4.mono l _⟩
  · obtain ⟨h1, h2, h3, h4⟩ := b.pend p hp
    exact ⟨h1, by rw [show (Z.put a o).hp p.1 = Z.hp p.1 from upd_ne (np p hp)]; exact h2, h3, h4⟩
theorem OwnAt.freeze {o : HO} {b : Addr} {e : D} (h : OwnAt K T F Z H b e) (nz : Z.hp a = none) (ne : b ≠ a) : OwnAt K T F (Z.put a o) H b e :=
  ⟨h.new, by rw [show (Z.put a o).hp b = Z.hp b from upd_ne ne]; exact h.free, h.nocell, h.np, h.slf, h.sh.mono (le_put nz) fun _ q => q⟩
/-- a new list is frozen -/
theorem Good.freeze {o : HO} (G : Good K T F Z ρ μ σ H) (e : H a = some o) (w : OwnAt K T F Z H a d) (ap : ∀ (j : Nat) e, ρ[j]? = some (some (.own e)) → σ[j]? ≠ some (some (.ref a))) : Good K T F (Z.put a o) ρ μ σ H := by
  refine ⟨G.base.freeze e w.new w.free w.nocell w.np, G.slots.len, fun i s h => ?_, G.slots.apart⟩
  obtain ⟨v, h1, h2⟩ := G.slots.at_ i s h
  refine ⟨v, h1, ?_⟩
  cases s with
  | val d' => exact Rep.mono (le_put w.free) d' h2
  | own d' =>
    obtain ⟨b, eb, ob⟩ := h2
    refine ⟨b, eb, ob.freeze w.free fun z => ?_⟩
    subst z; subst eb
    exact ap i d' h h1
theorem F_E {X : Cx} {e : Expr} {T : Tbl} {xk : XK} {m : M D} (h : PE X e (rdF X.K T xk m)) : PE X e (rdE X.K T xk m) := PE.imp h fun σ H Q ⟨F, Z, ρ, μ, G, A⟩ =>
  ⟨F, Z, ρ, μ, G, A.imp (Le.refl Z) fun d ρ' μ' q a Z' H' G' l w ap => by
    obtain ⟨o, ho⟩ := w.sh.there
    exact q (.ref a) (Z'.put a o) H' (G'.freeze ho w ap) (l.trans (le_put w.free)) (w.rep ho)⟩
end

/-! ### names -/
def mVar (i : Nat) : M D := fun ρ μ => match ρ[i]? with
  | some (some (.val d)) => .ok d ρ μ
  | some (some (.own d)) => .ok d (ρ.set i (some (.val d))) μ
  | _ => .bad
def aVar (i : Nat) : M Ar := fun ρ μ => match ρ[i]? with
  | some (some _) => .ok (.v i) ρ μ
  | _ => .bad
def aE (m : M D) : M Ar := bnd m fun d => ret (.d d)
section
variable {X : Cx} {T : Tbl} {xk : XK} {e : Expr}
theorem e_var {i : Nat} (h : PE X e (tVar i)) : PE X e (rdE X.K T xk (mVar i)) := PE.imp h fun σ H Q ⟨F, Z, ρ, μ, G, A⟩ => by
  unfold mVar at A
  cases q : ρ[i]? with
  | none => rw [q] at A; exact A.elim
  | some o =>
    cases o with
    | none => rw [q] at A; exact A.elim
    | some s =>
      rw [q] at A
      obtain ⟨v, h1, h2⟩ := G.slots.at_ i s q
      refine ⟨v, h1, ?_⟩
      cases s with
      | val d => exact A v Z H G (Le.refl Z) h2
      | own d =>
        obtain ⟨a, ea, w⟩ := h2
        subst ea
        obtain ⟨o, ho⟩ := w.sh.there
        have hi : i < ρ.length := (List.getElem?_eq_some_iff.mp q).1
        have GS : Good X.K T F Z (ρ.set i (some (.val d))) μ σ H → True := fun _ => trivial
        refine A (.ref a) (Z.put a o) H ⟨G.base.freeze ho w.new w.free w.nocell w.np, by rw [List.length_set]; exact G.slots.len, fun j s' hj => ?_, fun j k d1 d2 b e1 e2 => ?_⟩ (le_put w.free) (w.rep ho)
        · by_cases ji : j = i
          · subst ji
            rw [List.getElem?_set_self hi] at hj
            cases hj
            exact ⟨.ref a, h1, w.rep ho⟩
          · rw [List.getElem?_set_ne (Ne.symm ji)] at hj
            obtain ⟨v', g1, g2⟩ := G.slots.at_ j s' hj
            refine ⟨v', g1, ?_⟩
            cases s' with
            | val d' => exact Rep.mono (le_put w.free) d' g2
            | own d' =>
              obtain ⟨b, eb, ob⟩ := g2
              refine ⟨b, eb, ob.freeze w.free fun z => ?_⟩
              subst z; subst eb
              exact ji (G.slots.apart j i d' d b hj q g1 h1)
        · have n1 : j ≠ i := fun z => by subst z; rw [List.getElem?_set_self hi] at e1; cases e1
          have n2 : k ≠ i := fun z => by subst z; rw [List.getElem?_set_self hi] at e2; cases e2
          rw [List.getElem?_set_ne (Ne.symm n1)] at e1
          rw [List.getElem?_set_ne (Ne.symm n2)] at e2
          exact G.slots.apart j k d1 d2 b e1 e2
theorem a_var {i : Nat} (h : PE X e (tVar i)) : PE X e (rdA X.K T xk (aVar i)) := PE.imp h fun σ H Q ⟨F, Z, ρ, μ, G, A⟩ => by
  unfold aVar at A
  cases q : ρ[i]? with
  | none => rw [q] at A; exact A.elim
  | some o =>
    cases o with
    | none => rw [q] at A; exact A.elim
    | some s =>
      rw [q] at A
      obtain ⟨v, h1, h2⟩ := G.slots.at_ i s q
      exact ⟨v, h1, A v Z H G (Le.refl Z) h1⟩
theorem a_E {m : M D} (h : PE X e (rdE X.K T xk m)) : PE X e (rdA X.K T xk (aE m)) := PE.imp h fun σ H Q ⟨F, Z, ρ, μ, G, A⟩ =>
  ⟨F, Z, ρ, μ, G, A.bnd.imp (Le.refl Z) fun d ρ' μ' q v Z' H' G' l r => q v Z' H' G' l r⟩
/-- constants: atoms -/
def mC (d : D) : M D := ret d
theorem e_C {d : D} {v : V} (h : PE X e (tC v)) (r : ∀ K Z, Rep K T Z d v) : PE X e (rdE X.K T xk (mC d)) := PE.imp h fun σ H Q ⟨F, Z, ρ, μ, G, A⟩ => A v Z H G (Le.refl Z) (r _ _)
theorem e_int {i : Int} {j pos} : PE X (.Constant (.int i) j pos) (rdE X.K T xk (mC (.int i))) := e_C pe_int fun _ _ => rfl
theorem e_bl {i : Bool} {j pos} : PE X (.Constant (.bool i) j pos) (rdE X.K T xk (mC (.bl i))) := e_C pe_bl fun _ _ => rfl
theorem e_non {j pos} : PE X (.Constant .none j pos) (rdE X.K T xk (mC .non)) := e_C pe_non fun _ _ => rfl
theorem e_str {i : Str} {j pos} : PE X (.Constant (.str i) j pos) (rdE X.K T xk (mC (.str i))) := e_C pe_str fun _ _ => rfl
end

/-! ### operations -/
section
variable (K : PySem.W.Frag) (T : Tbl)
def Out (Z : Zt) (H : Hp) (d : D) (Q : VK) : Prop := ∀ v Z' H', Grow Z H Z' H' → Rep K T Z' d v → Q v H'
def OpS (r : R2) (f : D → D → Option D) : Prop := ∀ Z H d e x y z Q, Same Z.hp H → Pk K T Z H d x → Pk K T Z H e y → f d e = some z → Out K T Z H z Q → r x y H Q
def UnS (r : V → Hp → VK → Prop) (f : D → Option D) : Prop := ∀ Z H d x z Q, Same Z.hp H → Pk K T Z H d x → f d = some z → Out K T Z H z Q → r x H Q
end
def mBin (f : D → D → Option D) (ma mb : M Ar) : M D := bnd ma fun x => bnd mb fun y => fun ρ μ => match pk x ρ μ, pk y ρ μ with
  | some d, some e => opt (f d e) ρ μ
  | _, _ => .bad
def mUn (f : D → Option D) (ma : M Ar) : M D := bnd ma fun x => fun ρ μ => match pk x ρ μ with
  | some d => opt (f d) ρ μ
  | _ => .bad
section
variable {X : Cx} {T : Tbl} {xk : XK} {a b : Expr} {ma mb : M Ar} {pos : Pos} {f : D → D → Option D} {r : R2}
theorem bin_rd (hs : OpS X.K T r f) : ∀ σ H Q, rdE X.K T xk (mBin f ma mb) σ H Q → tOp r (rdA X.K T xk ma) (rdA X.K T xk mb) σ H Q := fun σ H Q ⟨F, Z, ρ, μ, G, A⟩ =>
  ⟨F, Z, ρ, μ, G, A.bnd.imp (Le.refl Z) fun x ρ1 μ1 A1 v1 Z1 H1 G1 l1 r1 => ⟨F, Z1, ρ1, μ1, G1, (A1.imp l1 fun _ _ _ q => q).bnd.imp (Le.refl Z1) fun y ρ2 μ2 A2 v2 Z2 H2 G2 l2 r2 => by
    cases e1 : pk x ρ2 μ2 with
    | none => rw [e1] at A2; exact A2.elim
    | some d =>
      cases e2 : pk y ρ2 μ2 with
      | none => rw [e1, e2] at A2; exact A2.elim
      | some e =>
        rw [e1, e2] at A2
        dsimp only at A2
        cases e3 : f d e with
        | none => rw [e3] at A2; exact A2.elim
        | some z =>
          rw [e3] at A2
          exact hs Z2 H2 d e v1 v2 z Q G2.base.same (pk_ok G2 (r1.mono l2) e1) (pk_ok G2 r2 e2) e3 fun v Z' H' g rz => A2 v Z' H' (G2.grow g) ((l1.trans l2).trans (g.le G2.base.same)) rz⟩⟩
theorem e_bin {op : Operator} (ho : OpR X (binaryOp op) r) (hs : OpS X.K T r f) (ha : PE X a (rdA X.K T xk ma)) (hb : PE X b (rdA X.K T xk mb)) : PE X (.BinOp a op b pos) (rdE X.K T xk (mBin f ma mb)) :=
  PE.imp (pe_op ho ha hb) (bin_rd hs)
theorem e_cmp {op : CmpOp} (ho : OpR X (compareOp op) r) (hs : OpS X.K T r f) (ha : PE X a (rdA X.K T xk ma)) (hb : PE X b (rdA X.K T xk mb)) (hm : behindInMarks op b = false) : PE X (.Compare a [op] [b] pos) (rdE X.K T xk (mBin f ma mb)) :=
  PE.imp (pe_cmpR ho ha hb hm) (bin_rd hs)
theorem un_rd {f : D → Option D} {r : V → Hp → VK → Prop} (hs : UnS X.K T r f) : ∀ σ H Q, rdE X.K T xk (mUn f ma) σ H Q → tUn r (rdA X.K T xk ma) σ H Q := fun σ H Q ⟨F, Z, ρ, μ, G, A⟩ =>
  ⟨F, Z, ρ, μ, G, A.bnd.imp (Le.refl Z) fun x ρ1 μ1 A1 v1 Z1 H1 G1 l1 r1 => by
    cases e1 : pk x ρ1 μ1 with
    | none => rw [e1] at A1; exact A1.elim
    | some d =>
      rw [e1] at A1
      dsimp only at A1
      cases e3 : f d with
      | none => rw [e3] at A1; exact A1.elim
      | some z =>
        rw [e3] at A1
        exact hs Z1 H1 d v1 z Q G1.base.same (pk_ok G1 r1 e1) e3 fun v Z' H' g rz => A1 v Z' H' (G1.grow g) (l1.trans (g.le G1.base.same)) rz⟩
theorem e_un {op : UnaryOp} {f : D → Option D} {r : V → Hp → VK → Prop} (ho : UnR X (unaryOp op) r) (hs : UnS X.K T r f) (ha : PE X a (rdA X.K T xk ma)) : PE X (.UnaryOp op a pos) (rdE X.K T xk (mUn f ma)) :=
  PE.imp (pe_un ho ha) (un_rd hs)
end
/-! out of an atom, out of a new tuple, a new list -/
section
variable {K : PySem.W.Frag} {T : Tbl} {Z : Zt} {H : Hp} {Q : VK} {d : D} {v : V} {l : List D} {vs : List V}
theorem Out.at (o : Out K T Z H d Q) (s : Same Z.hp H) (r : Rep K T Z d v) : Q v H := o v Z H (Grow.refl s) r
theorem Out.tup (o : Out K T Z H (.tup l) Q) (s : Same Z.hp H) (r : RepL K T Z l vs) : ∀ p, H p = none → Q (.ref p) (upd H p (.tup vs)) := fun p hp => by
  have g : Grow Z H (Z.put p (.tup vs)) (upd H p (.tup vs)) := Grow.put s hp
  exact o (.ref p) _ _ g ⟨p, vs, rfl, .inl (.inl upd_same), r.mono (g.le s) _⟩
theorem Out.lst (o : Out K T Z H (.lst l) Q) (s : Same Z.hp H) (r : RepL K T Z l vs) : ∀ p, H p = none → Q (.ref p) (upd H p (.lst vs)) := fun p hp => by
  have g : Grow Z H (Z.put p (.lst vs)) (upd H p (.lst vs)) := Grow.put s hp
  exact o (.ref p) _ _ g ⟨p, vs, rfl, upd_same, r.mono (g.le s) _⟩
end
end Pv

/-! Pv3: argument lists, displays, tests, statements, loops, calls of defs, defs. -/
namespace Pv
open PySem L2

/-! ### argument lists -/
def lNil : M (List D) := ret []
def lCons (m : M D) (r : M (List D)) : M (List D) := bnd m fun d => bnd r fun ds => ret (d :: ds)
def alNil : M (List Ar) := ret []
def alCons (m : M Ar) (r : M (List Ar)) : M (List Ar) := bnd m fun d => bnd r fun ds => ret (d :: ds)
section
variable {X : Cx} {T : Tbl} {xk : XK} {e : Expr} {es : List Expr} {m : M D} {ml : M (List D)} {ma : M Ar} {mal : M (List Ar)}
theorem ArRepL.mono {K : PySem.W.Frag} {T : Tbl} {σ : St} {Z Z' : Zt} (l : Le Z Z') : ∀ {xs : List Ar} {vs : List V}, ArRepL K T σ Z xs vs → ArRepL K T σ Z' xs vs
  | [], _, h => h
  | x :: xs, _, ⟨v, r, e, h1, h2⟩ => ⟨v, r, e, h1.mono l, h2.mono l⟩
theorem l_nil : PA X [] (rdL X.K T xk lNil) := PA.imp pa_nil fun σ H Q ⟨F, Z, ρ, μ, G, A⟩ => A [] Z H G (Le.refl Z) rfl
theorem l_cons (h : PE X e (rdE X.K T xk m)) (hr : PA X es (rdL X.K T xk ml)) (hs : starEach (e :: es) X.env = (false, eval e X.env) :: starEach es X.env := by rfl) : PA X (e :: es) (rdL X.K T xk (lCons m ml)) :=
  PA.imp (pa_cons h hr hs) fun σ H Q ⟨F, Z, ρ, μ, G, A⟩ => ⟨F, Z, ρ, μ, G, A.bnd.imp (Le.refl Z) fun d ρ1 μ1 A1 v1 Z1 H1 G1 l1 r1 => ⟨F, Z1, ρ1, μ1, G1, (A1.imp l1 fun _ _ _ q => q).bnd.imp (Le.refl Z1) fun ds ρ2 μ2 A2 vs Z2 H2 G2 l2 r2 =>
    A2 (v1 :: vs) Z2 H2 G2 (l1.trans l2) ⟨v1, vs, rfl, Rep.mono l2 d r1, r2⟩⟩⟩
theorem al_nil : PA X [] (rdAL X.K T xk alNil) := PA.imp pa_nil fun σ H Q ⟨F, Z, ρ, μ, G, A⟩ => A [] Z H G (Le.refl Z) rfl
theorem al_cons (h : PE X e (rdA X.K T xk ma)) (hr : PA X es (rdAL X.K T xk mal)) (hs : starEach (e :: es) X.env = (false, eval e X.env) :: starEach es X.env := by rfl) : PA X (e :: es) (rdAL X.K T xk (alCons ma mal)) :=
  PA.imp (pa_cons h hr hs) fun σ H Q ⟨F, Z, ρ, μ, G, A⟩ => ⟨F, Z, ρ, μ, G, A.bnd.imp (Le.refl Z) fun d ρ1 μ1 A1 v1 Z1 H1 G1 l1 r1 => ⟨F, Z1, ρ1, μ1, G1, (A1.imp l1 fun _ _ _ q => q).bnd.imp (Le.refl Z1) fun ds ρ2 μ2 A2 vs Z2 H2 G2 l2 r2 =>
    A2 (v1 :: vs) Z2 H2 G2 (l1.trans l2) ⟨v1, vs, rfl, ArRep.mono l2 r1, r2⟩⟩⟩
end
/-! ### displays -/
def mTup (ml : M (List D)) : M D := bnd ml fun ds => if ds.length ≤ sizeLine then ret (.tup ds) else fun _ _ => .bad
def mLst (ml : M (List D)) : M D := bnd ml fun ds => if ds.length ≤ sizeLine then ret (.lst ds) else fun _ _ => .bad
section
variable {X : Cx} {T : Tbl} {xk : XK} {es : List Expr} {ml : M (List D)} {pos : Pos}
theorem e_tup {x1} (h : PA X es (rdL X.K T xk ml)) : PE X (.Tuple es x1 pos) (rdE X.K T xk (mTup ml)) :=
  PE.imp (pe_tup h) fun σ H Q ⟨F, Z, ρ, μ, G, A⟩ => ⟨F, Z, ρ, μ, G, A.bnd.imp (Le.refl Z) fun ds ρ1 μ1 A1 vs Z1 H1 G1 l1 r1 => by
    by_cases hl : ds.length ≤ sizeLine
    · rw [if_pos hl] at A1
      refine ⟨by rw [r1.length]; exact hl, fun p hp => ?_⟩
      have g : Grow Z1 H1 (Z1.put p (.tup vs)) (upd H1 p (.tup vs)) := Grow.put G1.base.same hp
      have l2 := g.le G1.base.same
      exact A1 (.ref p) _ _ (G1.grow g) (l1.trans l2) ⟨p, vs, rfl, .inl (.inl upd_same), r1.mono l2 _⟩
    · rw [if_neg hl] at A1; exact A1.elim⟩
/-- what is new in H, laid by H' = upd H p o, is owned -/
theorem own_new {K : PySem.W.Frag} {T : Tbl} {F : Fm} {Z : Zt} {ρ : Env} {μ : Mem} {σ : St} {H : Hp} {p : Addr} {o : HO} {d : D} (G : Good K T F Z ρ μ σ H) (hp : H p = none) (sh : Sh K T Z (upd H p o) p d) (no : ∀ c l, d ≠ .obj c l := by intro _ _ z; cases z) :
    Good K T F Z ρ μ σ (upd H p o) ∧ OwnAt K T F Z (upd H p o) p d ∧ ∀ (j : Nat) e, ρ[j]? = some (some (.own e)) → σ[j]? ≠ some (some (.ref p)) := by
  have b := G.base
  have nz : Z.hp p = none := b.same.free hp
  have nc : p ∉ Z.et := fun h => by
    obtain ⟨n, hn⟩ := List.getElem?_of_mem h
    obtain ⟨_, _, _, vs, hv, _⟩ := b.sto n p hn
    rw [hp] at hv; cases hv
  have n0 : F.H0 p = none := by
    cases q : F.H0 p with
    | none => rfl
    | some u =>
      by_cases hc : p ∈ F.Z0.et
      · obtain ⟨n, hn⟩ := List.getElem?_of_mem hc
        exact absurd (List.mem_of_getElem? (b.le0.et n p hn)) nc
      · rw [b.keep p u q hc] at hp; cases hp
  have np : ∀ q ∈ F.pend, q.1 ≠ p := fun q hq => ne_of_none (b.pend q hq).1 hp
  have keep : ∀ a u, H a = some u → upd H p o a = some u := fun a u e => by rw [upd_ne (ne_of_none e hp)]; exact e
  refine ⟨⟨⟨fun a u e => keep a u (b.same a u e), b.le0, b.steal, fun a u e n => keep a u (b.keep a u e n), b.newc, b.nd, fun n a e => ?_, b.lenm, b.pnd, fun q hq => ⟨keep _ _ (b.pend q hq).1, (b.pend q hq).2⟩⟩, G.slots.len, fun i s e => ?_, G.slots.apart⟩, ⟨n0, nz, nc, np, fun c l e => absurd e (no c l), sh⟩, fun j e h1 h2 => ?_⟩
  · obtain ⟨ds, h1, h2, vs, h3, h4⟩ := b.sto n a e
    exact ⟨ds, h1, h2, vs, keep a _ h3, h4⟩
  · obtain ⟨v, h1, h2⟩ := G.slots.at_ i s e
    refine ⟨v, h1, ?_⟩
    cases s with
    | val d => exact h2
    | own d =>
      obtain ⟨a, ea, w⟩ := h2
      exact ⟨a, ea, w.new, w.free, w.nocell, w.np, w.slf, w.sh.mono (Le.refl Z) fun u q => keep a u q⟩
  · obtain ⟨v, g1, a, ea, w⟩ := G.slots.at_ j _ h1
    rw [h2] at g1
    cases g1
    cases ea
    obtain ⟨u, hu⟩ := w.sh.there
    rw [hp] at hu; cases hu
theorem f_lst (h : PA X es (rdL X.K T xk ml)) : PE X (.List es pos) (rdF X.K T xk (mLst ml)) :=
  PE.imp (pe_lst h) fun σ H Q ⟨F, Z, ρ, μ, G, A⟩ => ⟨F, Z, ρ, μ, G, A.bnd.imp (Le.refl Z) fun ds ρ1 μ1 A1 vs Z1 H1 G1 l1 r1 => by
    by_cases hl : ds.length ≤ sizeLine
    · rw [if_pos hl] at A1
      refine ⟨by rw [r1.length]; exact hl, fun p hp => ?_⟩
      obtain ⟨G2, w, ap⟩ := own_new (o := .lst vs) (d := .lst ds) G1 hp ⟨vs, upd_same, r1⟩
      exact A1 p Z1 _ G2 l1 w ap
    · rw [if_neg hl] at A1; exact A1.elim⟩
end

/-! ### tests -/
section
variable {X : Cx} {T : Tbl} {xk : XK} {a b c : Expr} {rest : List Expr} {pos : Pos} {m ma mb : M D} {t u : M Bool}
/-- a bool as a test -/
def tBl (m : M D) : M Bool := bnd m fun d => match d with
  | .bl b => ret b
  | _ => fun _ _ => .bad
theorem tB_rd : ∀ σ H Q, rdT X.K T xk (tBl m) σ H Q → tB (rdE X.K T xk m) σ H Q := fun σ H Q ⟨F, Z, ρ, μ, G, A⟩ =>
  ⟨F, Z, ρ, μ, G, A.bnd.imp (Le.refl Z) fun d ρ1 μ1 A1 v Z1 H1 G1 l1 r1 => by
    cases d with
    | bl b => exact ⟨b, r1, A1 Z1 H1 G1 l1⟩
    | _ => exact A1.elim⟩
theorem t_val (h : PE X a (rdE X.K T xk m)) (he : ∀ whole, isTrue a X.env whole = (do let v ← whole; standAt a.pos; holding [v] (truthy v)) := by intro _; rfl) : PT X a (rdT X.K T xk (tBl m)) := PT.imp (pt_val h he) tB_rd
theorem t_cmp {op : CmpOp} {r : R2} {f : D → D → Option D} {ma mb : M Ar} (ho : OpR X (compareOp op) r) (hs : OpS X.K T r f) (ha : PE X a (rdA X.K T xk ma)) (hb : PE X b (rdA X.K T xk mb)) (hm : behindInMarks op b = false) : PT X (.Compare a [op] [b] pos) (rdT X.K T xk (tBl (mBin f ma mb))) :=
  PT.imp (pt_cmpR ho ha hb hm) fun σ H Q h => by
    have h2 := tB_rd (X := X) (T := T) (xk := xk) (m := mBin f ma mb) σ H Q h
    exact bin_rd hs σ H _ h2
def mNot (t : M Bool) : M Bool := bnd t fun b => ret (!b)
def mAnd (t u : M Bool) : M Bool := bnd t fun b => if b = true then u else ret false
def mOr (t u : M Bool) : M Bool := bnd t fun b => if b = true then ret true else u
theorem t_not (h : PT X a (rdT X.K T xk t)) : PT X (.UnaryOp .Not a pos) (rdT X.K T xk (mNot t)) := PT.imp (pt_not h) fun σ H Q ⟨F, Z, ρ, μ, G, A⟩ =>
  ⟨F, Z, ρ, μ, G, A.bnd.imp (Le.refl Z) fun b ρ1 μ1 A1 Z1 H1 G1 l1 => A1 Z1 H1 G1 l1⟩
theorem w_and1 (h : PT X a (rdT X.K T xk t)) : PW X (.BoolOp .And [a] pos) (rdT X.K T xk t) := pw_and1 h
theorem w_or1 (h : PT X a (rdT X.K T xk t)) : PW X (.BoolOp .Or [a] pos) (rdT X.K T xk t) := pw_or1 h
theorem w_and (h : PT X a (rdT X.K T xk t)) (hb : PW X (.BoolOp .And (b :: rest) pos) (rdT X.K T xk u)) : PW X (.BoolOp .And (a :: b :: rest) pos) (rdT X.K T xk (mAnd t u)) := PW.imp (pw_and h hb) fun σ H Q ⟨F, Z, ρ, μ, G, A⟩ =>
  ⟨F, Z, ρ, μ, G, A.bnd.imp (Le.refl Z) fun c ρ1 μ1 A1 Z1 H1 G1 l1 => by
    cases c with
    | true => exact ⟨F, Z1, ρ1, μ1, G1, A1.imp l1 fun b ρ2 μ2 q Z2 H2 G2 l2 => q Z2 H2 G2 (l1.trans l2)⟩
    | false => exact A1 Z1 H1 G1 l1⟩
theorem w_or (h : PT X a (rdT X.K T xk t)) (hb : PW X (.BoolOp .Or (b :: rest) pos) (rdT X.K T xk u)) : PW X (.BoolOp .Or (a :: b :: rest) pos) (rdT X.K T xk (mOr t u)) := PW.imp (pw_or h hb) fun σ H Q ⟨F, Z, ρ, μ, G, A⟩ =>
  ⟨F, Z, ρ, μ, G, A.bnd.imp (Le.refl Z) fun c ρ1 μ1 A1 Z1 H1 G1 l1 => by
    cases c with
    | false => exact ⟨F, Z1, ρ1, μ1, G1, A1.imp l1 fun b ρ2 μ2 q Z2 H2 G2 l2 => q Z2 H2 G2 (l1.trans l2)⟩
    | true => exact A1 Z1 H1 G1 l1⟩
/-- and, or, not as values: bools -/
def vNot (m : M D) : M D := bnd (tBl m) fun b => ret (.bl (!b))
def vAnd (m n : M D) : M D := bnd (tBl m) fun b => if b = true then n else ret (.bl false)
def vOr (m n : M D) : M D := bnd (tBl m) fun b => if b = true then ret (.bl true) else n
theorem bnd_tBl {α : Type} {k : Bool → M α} {ρ : Env} {μ : Mem} {K : PySem.W.Frag} {F : Fm} {Z : Zt} {Q : α → Env → Mem → Prop} (A : After K T xk F Z (bnd (tBl m) k ρ μ) Q) :
    After K T xk F Z (m ρ μ) fun d ρ' μ' => ∃ b, d = .bl b ∧ After K T xk F Z (k b ρ' μ') Q := A.bnd.bnd.imp (Le.refl Z) fun d ρ1 μ1 A1 => by
  cases d with
  | bl b => exact ⟨b, rfl, A1⟩
  | _ => exact A1.elim
theorem v_one {op} (h : PE X a (rdE X.K T xk m)) : PE X (.BoolOp op [a] pos) (rdE X.K T xk m) := pe_one h
theorem v_not (h : PE X a (rdE X.K T xk m)) : PE X (.UnaryOp .Not a pos) (rdE X.K T xk (vNot m)) := PE.imp (pe_not h) fun σ H Q ⟨F, Z, ρ, μ, G, A⟩ =>
  ⟨F, Z, ρ, μ, G, (bnd_tBl A).imp (Le.refl Z) fun d ρ1 μ1 ⟨b, e, A1⟩ v Z1 H1 G1 l1 r1 => by
    subst e
    exact ⟨b, r1, A1 (.bl (!b)) Z1 H1 G1 l1 rfl⟩⟩
theorem v_and (h : PE X a (rdE X.K T xk ma)) (hb : PE X (.BoolOp .And (b :: rest) pos) (rdE X.K T xk mb)) : PE X (.BoolOp .And (a :: b :: rest) pos) (rdE X.K T xk (vAnd ma mb)) := PE.imp (pe_and h hb) fun σ H Q ⟨F, Z, ρ, μ, G, A⟩ =>
  ⟨F, Z, ρ, μ, G, (bnd_tBl A).imp (Le.refl Z) fun d ρ1 μ1 ⟨b, e, A1⟩ v Z1 H1 G1 l1 r1 => by
    subst e
    refine ⟨b, r1, ?_⟩
    cases b with
    | true => exact ⟨F, Z1, ρ1, μ1, G1, A1.imp l1 fun b ρ2 μ2 q v Z2 H2 G2 l2 => q v Z2 H2 G2 (l1.trans l2)⟩
    | false => exact A1 (.bl false) Z1 H1 G1 l1 rfl⟩
theorem v_or (h : PE X a (rdE X.K T xk ma)) (hb : PE X (.BoolOp .Or (b :: rest) pos) (rdE X.K T xk mb)) : PE X (.BoolOp .Or (a :: b :: rest) pos) (rdE X.K T xk (vOr ma mb)) := PE.imp (pe_or h hb) fun σ H Q ⟨F, Z, ρ, μ, G, A⟩ =>
  ⟨F, Z, ρ, μ, G, (bnd_tBl A).imp (Le.refl Z) fun d ρ1 μ1 ⟨b, e, A1⟩ v Z1 H1 G1 l1 r1 => by
    subst e
    refine ⟨b, r1, ?_⟩
    cases b with
    | false => exact ⟨F, Z1, ρ1, μ1, G1, A1.imp l1 fun b ρ2 μ2 q v Z2 H2 G2 l2 => q v Z2 H2 G2 (l1.trans l2)⟩
    | true => exact A1 (.bl true) Z1 H1 G1 l1 rfl⟩
def mIte (t : M Bool) (m n : M D) : M D := bnd t fun b => if b = true then m else n
theorem e_ite (hc : PT X c (rdT X.K T xk t)) (ha : PE X a (rdE X.K T xk ma)) (hb : PE X b (rdE X.K T xk mb)) : PE X (.IfExp c a b pos) (rdE X.K T xk (mIte t ma mb)) := PE.imp (pe_ifExp hc ha hb) fun σ H Q ⟨F, Z, ρ, μ, G, A⟩ =>
  ⟨F, Z, ρ, μ, G, A.bnd.imp (Le.refl Z) fun c ρ1 μ1 A1 Z1 H1 G1 l1 => by
    cases c with
    | false => exact ⟨F, Z1, ρ1, μ1, G1, A1.imp l1 fun b ρ2 μ2 q v Z2 H2 G2 l2 => q v Z2 H2 G2 (l1.trans l2)⟩
    | true => exact ⟨F, Z1, ρ1, μ1, G1, A1.imp l1 fun b ρ2 μ2 q v Z2 H2 G2 l2 => q v Z2 H2 G2 (l1.trans l2)⟩⟩
/-- a < b < c -/
def mChain (f g : D → D → Option D) (ma mb mc : M Ar) : M D := bnd ma fun x => bnd mb fun y => fun ρ μ => match pk x ρ μ, pk y ρ μ with
  | some d, some e => match f d e with
    | some (.bl true) => bnd mc (fun z => fun ρ' μ' => match pk y ρ' μ', pk z ρ' μ' with
      | some e', some w => opt (g e' w) ρ' μ'
      | _, _ => .bad) ρ μ
    | some (.bl false) => .ok (.bl false) ρ μ
    | _ => .bad
  | _, _ => .bad
end
end Pv

/-! Pv4: statements, loops. -/
namespace Pv
open PySem L2

/-! ### chains -/
section
variable {X : Cx} {T : Tbl} {xk : XK} {a b c : Expr} {pos : Pos} {ma mb mc : M Ar} {f g : D → D → Option D} {r r' : R2}
theorem chain_rd (hs : OpS X.K T r f) (hs' : OpS X.K T r' g) : ∀ σ H Q, rdE X.K T xk (mChain f g ma mb mc) σ H Q → tChain r r' (rdA X.K T xk ma) (rdA X.K T xk mb) (rdA X.K T xk mc) σ H Q := fun σ H Q ⟨F, Z, ρ, μ, G, A⟩ =>
  ⟨F, Z, ρ, μ, G, A.bnd.imp (Le.refl Z) fun x ρ1 μ1 A1 v1 Z1 H1 G1 l1 r1 => ⟨F, Z1, ρ1, μ1, G1, (A1.imp l1 fun _ _ _ q => q).bnd.imp (Le.refl Z1) fun y ρ2 μ2 A2 v2 Z2 H2 G2 l2 r2 => by
    cases e1 : pk x ρ2 μ2 with
    | none => rw [e1] at A2; exact A2.elim
    | some d =>
      cases e2 : pk y ρ2 μ2 with
      | none => rw [e1, e2] at A2; exact A2.elim
      | some e =>
        rw [e1, e2] at A2
        dsimp only at A2
        cases e3 : f d e with
        | none => rw [e3] at A2; exact A2.elim
        | some z =>
          rw [e3] at A2
          cases z with
          | bl k =>
            refine hs Z2 H2 d e v1 v2 (.bl k) _ G2.base.same (pk_ok G2 (r1.mono l2) e1) (pk_ok G2 r2 e2) e3 fun v Z' H' gr rz => ⟨k, rz, ?_⟩
            have l3 := gr.le G2.base.same
            cases k with
            | false => exact A2 (.bl false) Z' H' (G2.grow gr) ((l1.trans l2).trans l3) rfl
            | true =>
              rw [if_pos rfl]
              refine ⟨F, Z', ρ2, μ2, G2.grow gr, (A2.imp (l2.trans l3) fun _ _ _ q => q).bnd.imp (Le.refl Z') fun w ρ4 μ4 A4 v4 Z4 H4 G4 l4 r4 => ?_⟩
              cases e5 : pk y ρ4 μ4 with
              | none => rw [e5] at A4; exact A4.elim
              | some e' =>
                cases e6 : pk w ρ4 μ4 with
                | none => rw [e5, e6] at A4; exact A4.elim
                | some w' =>
                  rw [e5, e6] at A4
                  dsimp only at A4
                  cases e7 : g e' w' with
                  | none => rw [e7] at A4; exact A4.elim
                  | some z =>
                    rw [e7] at A4
                    exact hs' Z4 H4 e' w' v2 v4 z Q G4.base.same (pk_ok G4 (r2.mono (l3.trans l4)) e5) (pk_ok G4 r4 e6) e7 fun v Z5 H5 g5 rz => A4 v Z5 H5 (G4.grow g5) ((((l1.trans l2).trans l3).trans l4).trans (g5.le G4.base.same)) rz
          | _ => exact A2.elim⟩⟩
theorem e_chain {op op' : CmpOp} (ho : OpR X (compareOp op) r) (hs : OpS X.K T r f) (ho' : OpR X (compareOp op') r') (hs' : OpS X.K T r' g) (ha : PE X a (rdA X.K T xk ma)) (hb : PE X b (rdA X.K T xk mb)) (hc : PE X c (rdA X.K T xk mc))
    (hm : lastMarks [op, op'] [b, c] = false := by with_unfolding_all rfl) : PE X (.Compare a [op, op'] [b, c] pos) (rdE X.K T xk (mChain f g ma mb mc)) := PE.imp (pe_chain ho ho' ha hb hc hm) (chain_rd hs hs')
theorem t_chain {op op' : CmpOp} (ho : OpR X (compareOp op) r) (hs : OpS X.K T r f) (ho' : OpR X (compareOp op') r') (hs' : OpS X.K T r' g) (ha : PE X a (rdA X.K T xk ma)) (hb : PE X b (rdA X.K T xk mb)) (hc : PE X c (rdA X.K T xk mc))
    (hm : lastMarks [op, op'] [b, c] = false := by with_unfolding_all rfl) : PT X (.Compare a [op, op'] [b, c] pos) (rdT X.K T xk (tBl (mChain f g ma mb mc))) :=
  PT.imp (pt_chain ho ho' ha hb hc hm) fun σ H Q h => chain_rd hs hs' σ H _ (tB_rd (X := X) (T := T) (xk := xk) (m := mChain f g ma mb mc) σ H Q h)
end

/-! ### statements -/
inductive Fl where
  | next (ρ : Env) (μ : Mem)
  | ret (d : D) (μ : Mem)
  | brk (ρ : Env) (μ : Mem)
  | cont (ρ : Env) (μ : Mem)
  | exc (c : Nat) (d : D) (μ : Mem)
  | bad
abbrev MS := Env → Mem → Fl
def AfterS (K : PySem.W.Frag) (T : Tbl) (xk : XK) (F : Fm) (Z : Zt) (r : Fl) (E : Ends) : Prop := match r with
  | .next ρ μ => ∀ σ' Z' H', Good K T F Z' ρ μ σ' H' → Le Z Z' → E.nx σ' H'
  | .ret d μ => ∀ v Z' H', Base K T F Z' μ H' → Le Z Z' → Rep K T Z' d v → E.rt v H'
  | .brk ρ μ => ∀ σ' Z' H', Good K T F Z' ρ μ σ' H' → Le Z Z' → E.bk σ' H'
  | .cont ρ μ => ∀ σ' Z' H', Good K T F Z' ρ μ σ' H' → Le Z Z' → E.ct σ' H'
  | .exc c d μ => Exok K T xk F Z c d μ
  | .bad => False
theorem AfterS.mono {K : PySem.W.Frag} {T : Tbl} {xk : XK} {F : Fm} {Z Z' : Zt} {r : Fl} {E : Ends} (h : AfterS K T xk F Z r E) (l : Le Z Z') : AfterS K T xk F Z' r E := by
  cases r with
  | next ρ μ => exact fun σ' Z2 H' G q => h σ' Z2 H' G (l.trans q)
  | ret d μ => exact fun v Z2 H' G q => h v Z2 H' G (l.trans q)
  | brk ρ μ => exact fun σ' Z2 H' G q => h σ' Z2 H' G (l.trans q)
  | cont ρ μ => exact fun σ' Z2 H' G q => h σ' Z2 H' G (l.trans q)
  | exc c d μ => exact Exok.mono h l
  | bad => exact h
def rdS (K : PySem.W.Frag) (T : Tbl) (xk : XK) (m : MS) : TS := fun E σ H => ∃ F Z ρ μ, Good K T F Z ρ μ σ H ∧ AfterS K T xk F Z (m ρ μ) E

def sNil : MS := fun ρ μ => .next ρ μ
def sSeq (m n : MS) : MS := fun ρ μ => match m ρ μ with
  | .next ρ' μ' => n ρ' μ'
  | r => r
/-- m's result handed to a statement's end -/
def sOf {α : Type} (m : M α) (k : α → Env → Mem → Fl) : MS := fun ρ μ => match m ρ μ with
  | .ok a ρ' μ' => k a ρ' μ'
  | .exc c d μ' => .exc c d μ'
  | .bad => .bad
theorem After.ofS {α : Type} {K : PySem.W.Frag} {T : Tbl} {xk : XK} {F : Fm} {Z : Zt} {m : M α} {k : α → Env → Mem → Fl} {ρ : Env} {μ : Mem} {E : Ends} (h : AfterS K T xk F Z (sOf m k ρ μ) E) :
    After K T xk F Z (m ρ μ) fun a ρ' μ' => AfterS K T xk F Z (k a ρ' μ') E := by
  unfold sOf at h
  cases e : m ρ μ with
  | ok a ρ' μ' => rw [e] at h; exact h
  | exc c d μ' => rw [e] at h; exact h
  | bad => rw [e] at h; exact h
def sSet (i : Nat) (m : M D) : MS := sOf m fun d ρ μ => .next (ρ.set i (some (.val d))) μ
def sOwn (i : Nat) (m : M D) : MS := sOf m fun d ρ μ => .next (ρ.set i (some (.own d))) μ
def sExpr (m : M D) : MS := sOf m fun _ ρ μ => .next ρ μ
def sRet (m : M D) : MS := sOf m fun d _ μ => .ret d μ
def sRetN : MS := fun _ μ => .ret .non μ
def sIf (t : M Bool) (m n : MS) : MS := sOf t fun b ρ μ => if b = true then m ρ μ else n ρ μ
def sBrk : MS := fun ρ μ => .brk ρ μ
def sCont : MS := fun ρ μ => .cont ρ μ

section
variable {K : PySem.W.Frag} {T : Tbl} {F : Fm} {Z Z' : Zt} {ρ : Env} {μ : Mem} {σ : St} {H H' : Hp} {d : D} {v : V} {a : Addr} {i : Nat}
theorem Good.setVal (G : Good K T F Z ρ μ σ H) (r : Rep K T Z d v) : Good K T F Z (ρ.set i (some (.val d))) μ (σ.set i (some v)) H := by
  refine ⟨G.base, by rw [List.length_set, List.length_set]; exact G.slots.len, fun j s h => ?_, fun j k d1 d2 b e1 e2 h1 h2 => ?_⟩
  · by_cases ji : j = i
    · subst ji
      have hl : j < ρ.length := by
        have := (List.getElem?_eq_some_iff.mp h).1
        rw [List.length_set] at this; exact this
      rw [List.getElem?_set_self hl] at h
      cases h
      exact ⟨v, by rw [List.getElem?_set_self (by rw [← G.slots.len]; exact hl)], r⟩
    · rw [List.getElem?_set_ne (Ne.symm ji)] at h
      obtain ⟨w, h1, h2⟩ := G.slots.at_ j s h
      exact ⟨w, by rw [List.getElem?_set_ne (Ne.symm ji)]; exact h1, h2⟩
  · have no : ∀ {x : Nat} {d' : D}, (ρ.set i (some (Sl.val d)))[x]? = some (some (Sl.own d')) → x ≠ i := fun {x d'} e z => by
      subst z
      have hl : x < ρ.length := by
        have := (List.getElem?_eq_some_iff.mp e).1
        rw [List.length_set] at this; exact this
      rw [List.getElem?_set_self hl] at e; cases e
    have n1 := no e1
    have n2 := no e2
    rw [List.getElem?_set_ne (Ne.symm n1)] at e1 h1
    rw [List.getElem?_set_ne (Ne.symm n2)] at e2 h2
    exact G.slots.apart j k d1 d2 b e1 e2 h1 h2
theorem Good.setOwn (G : Good K T F Z ρ μ σ H) (w : OwnAt K T F Z H a d) (ap : ∀ (j : Nat) e, ρ[j]? = some (some (.own e)) → σ[j]? ≠ some (some (.ref a))) : Good K T F Z (ρ.set i (some (.own d))) μ (σ.set i (some (.ref a))) H := by
  have lens : ∀ {x : Nat} {o : Option Sl} {ρ' : Env}, (ρ'.set i o)[x]? ≠ none → x < ρ'.length := fun {x o ρ'} h => by
    cases q : (ρ'.set i o)[x]? with
    | none => exact absurd q h
    | some u =>
      have := (List.getElem?_eq_some_iff.mp q).1
      rw [List.length_set] at this; exact this
  refine ⟨G.base, by rw [List.length_set, List.length_set]; exact G.slots.len, fun j s h => ?_, fun j k d1 d2 b e1 e2 h1 h2 => ?_⟩
  · by_cases ji : j = i
    · subst ji
      have hl : j < ρ.length := lens (by rw [h]; simp)
      rw [List.getElem?_set_self hl] at h
      cases h
      exact ⟨.ref a, by rw [List.getElem?_set_self (by rw [← G.slots.len]; exact hl)], a, rfl, w⟩
    · rw [List.getElem?_set_ne (Ne.symm ji)] at h
      obtain ⟨w, h1, h2⟩ := G.slots.at_ j s h
      exact ⟨w, by rw [List.getElem?_set_ne (Ne.symm ji)]; exact h1, h2⟩
  · have hj : j < ρ.length := lens (by rw [e1]; simp)
    have hk : k < ρ.length := lens (by rw [e2]; simp)
    by_cases j1 : j = i
    · by_cases k1 : k = i
      · rw [j1, k1]
      · subst j1
        rw [List.getElem?_set_self (by rw [← G.slots.len]; exact hj)] at h1
        cases h1
        rw [List.getElem?_set_ne (Ne.symm k1)] at e2 h2
        exact absurd h2 (ap k d2 e2)
    · by_cases k1 : k = i
      · subst k1
        rw [List.getElem?_set_self (by rw [← G.slots.len]; exact hk)] at h2
        cases h2
        rw [List.getElem?_set_ne (Ne.symm j1)] at e1 h1
        exact absurd h1 (ap j d1 e1)
      · rw [List.getElem?_set_ne (Ne.symm j1)] at e1 h1
        rw [List.getElem?_set_ne (Ne.symm k1)] at e2 h2
        exact G.slots.apart j k d1 d2 b e1 e2 h1 h2
end

section
variable {X : Cx} {T : Tbl} {xk : XK} {st : Stmt} {rest body orelse : List Stmt} {m n : MS} {e c : Expr} {me : M D} {t : M Bool} {pos pos' : Pos}
theorem ss_nil : PSs X [] (rdS X.K T xk sNil) := PSs.imp pss_nil fun E σ H ⟨F, Z, ρ, μ, G, A⟩ => A σ Z H G (Le.refl Z)
theorem ss_cons (h1 : PS X st (rdS X.K T xk m)) (h2 : PSs X rest (rdS X.K T xk n)) : PSs X (st :: rest) (rdS X.K T xk (sSeq m n)) := PSs.imp (pss_cons h1 h2) fun E σ H ⟨F, Z, ρ, μ, G, A⟩ => by
  refine ⟨F, Z, ρ, μ, G, ?_⟩
  unfold sSeq at A
  cases q : m ρ μ with
  | next ρ1 μ1 => rw [q] at A; exact fun σ' Z' H' G' l => ⟨F, Z', ρ1, μ1, G', A.mono l⟩
  | ret d μ1 => rw [q] at A; exact A
  | brk ρ1 μ1 => rw [q] at A; exact A
  | cont ρ1 μ1 => rw [q] at A; exact A
  | exc c d μ1 => rw [q] at A; exact A
  | bad => rw [q] at A; exact A.elim
theorem ss_one (h1 : PS X st (rdS X.K T xk m)) : PSs X [st] (rdS X.K T xk m) := pss_one h1
theorem s_set {i : Nat} {x : Str} (hN : X.N.Nodup) (hi : X.N[i]? = some x) (hx : Loc X.env.scope x) (he : PE X e (rdE X.K T xk me)) (hs : swapsWith e (some (.Name x pos')) pos.line X.env = pure false := by rfl) (hf : X.fn x = true ∨ X.env.scope.names.lookup x = some .local := by first | exact .inl rfl | exact .inr rfl | assumption) :
    PS X (.Assign [.Name x pos'] e pos) (rdS X.K T xk (sSet i me)) := PS.imp (ps_set hN hi hx he hs hf) fun E σ H ⟨F, Z, ρ, μ, G, A⟩ =>
  ⟨F, Z, ρ, μ, G, (After.ofS A).imp (Le.refl Z) fun d ρ1 μ1 q v Z1 H1 G1 l1 r1 => q (σ.set i (some v)) Z1 H1 (G1.setVal r1) l1⟩
theorem s_own {i : Nat} {x : Str} (hN : X.N.Nodup) (hi : X.N[i]? = some x) (hx : Loc X.env.scope x) (he : PE X e (rdF X.K T xk me)) (hs : swapsWith e (some (.Name x pos')) pos.line X.env = pure false := by rfl) (hf : X.fn x = true ∨ X.env.scope.names.lookup x = some .local := by first | exact .inl rfl | exact .inr rfl | assumption) :
    PS X (.Assign [.Name x pos'] e pos) (rdS X.K T xk (sOwn i me)) := PS.imp (ps_set hN hi hx he hs hf) fun E σ H ⟨F, Z, ρ, μ, G, A⟩ =>
  ⟨F, Z, ρ, μ, G, (After.ofS A).imp (Le.refl Z) fun d ρ1 μ1 q a Z1 H1 G1 l1 w ap => q (σ.set i (some (.ref a))) Z1 H1 (G1.setOwn w ap) l1⟩
theorem s_expr (he : PE X e (rdE X.K T xk me)) (hs : swapsWith e none pos.line X.env = pure false := by rfl) : PS X (.Expr e pos) (rdS X.K T xk (sExpr me)) := PS.imp (ps_expr he hs) fun E σ H ⟨F, Z, ρ, μ, G, A⟩ =>
  ⟨F, Z, ρ, μ, G, (After.ofS A).imp (Le.refl Z) fun d ρ1 μ1 q v Z1 H1 G1 l1 _ => q σ Z1 H1 G1 l1⟩
theorem s_ret (he : PE X e (rdE X.K T xk me)) : PS X (.Return (some e) pos) (rdS X.K T xk (sRet me)) := PS.imp (ps_ret he) fun E σ H ⟨F, Z, ρ, μ, G, A⟩ =>
  ⟨F, Z, ρ, μ, G, (After.ofS A).imp (Le.refl Z) fun d ρ1 μ1 q v Z1 H1 G1 l1 r1 => q v Z1 H1 G1.base l1 r1⟩
theorem s_retN : PS X (.Return none pos) (rdS X.K T xk sRetN) := PS.imp ps_retN fun E σ H ⟨F, Z, ρ, μ, G, A⟩ => A .non Z H G.base (Le.refl Z) rfl
theorem s_if (hc : PT X c (rdT X.K T xk t)) (ha : PSs X body (rdS X.K T xk m)) (hb : PSs X orelse (rdS X.K T xk n)) : PS X (.If c body orelse pos) (rdS X.K T xk (sIf t m n)) := PS.imp (ps_if hc ha hb) fun E σ H ⟨F, Z, ρ, μ, G, A⟩ =>
  ⟨F, Z, ρ, μ, G, (After.ofS A).imp (Le.refl Z) fun b ρ1 μ1 q Z1 H1 G1 l1 => by
    cases b with
    | true => exact ⟨F, Z1, ρ1, μ1, G1, AfterS.mono q l1⟩
    | false => exact ⟨F, Z1, ρ1, μ1, G1, AfterS.mono q l1⟩⟩
theorem s_pass : PS X (.Pass pos) (rdS X.K T xk sNil) := PS.imp ps_pass fun E σ H ⟨F, Z, ρ, μ, G, A⟩ => A σ Z H G (Le.refl Z)
theorem s_break : PS X (.Break pos) (rdS X.K T xk sBrk) := PS.imp ps_break fun E σ H ⟨F, Z, ρ, μ, G, A⟩ => A σ Z H G (Le.refl Z)
theorem s_continue : PS X (.Continue pos) (rdS X.K T xk sCont) := PS.imp ps_continue fun E σ H ⟨F, Z, ρ, μ, G, A⟩ => A σ Z H G (Le.refl Z)
end

/-! ### targets -/
abbrev MG := D → Env → Option Env
/-- but the slots ts all is as it was -/
def Agr (ts : List Nat) (σ σ' : St) : Prop := σ'.length = σ.length ∧ ∀ j : Nat, j ∉ ts → σ'[j]? = σ[j]?
/-- ts: the slots that are set -/
def rdG (K : PySem.W.Frag) (T : Tbl) (g : MG) (ts : List Nat) : TG := fun v σ H Q => ∃ F Z ρ μ d ρ', Good K T F Z ρ μ σ H ∧ Rep K T Z d v ∧ g d ρ = some ρ' ∧ ∀ σ' Z' H', Good K T F Z' ρ' μ σ' H' → Le Z Z' → Agr ts σ σ' → Q σ' H'
def gN (i : Nat) : MG := fun d ρ => some (ρ.set i (some (.val d)))
abbrev MGs := List D → Env → Option Env
def rdGs (K : PySem.W.Frag) (T : Tbl) (g : MGs) (ts : List Nat) : TGs := fun vs σ H Q => ∃ F Z ρ μ ds ρ', Good K T F Z ρ μ σ H ∧ RepL K T Z ds vs ∧ g ds ρ = some ρ' ∧ ∀ σ' Z' H', Good K T F Z' ρ' μ σ' H' → Le Z Z' → Agr ts σ σ' → Q σ' H'
def gsNil : MGs := fun ds ρ => if ds.isEmpty then some ρ else none
def gsCons (g : MG) (r : MGs) : MGs := fun ds ρ => match ds with
  | d :: ds => (g d ρ).bind fun ρ' => r ds ρ'
  | [] => none
def gTu (n : Nat) (r : MGs) : MG := fun d ρ => match d with
  | .tup ds => if ds.length = n then r ds ρ else none
  | _ => none
theorem PG.imp {X : Cx} {e : Expr} {t t' : TG} (h : PG X e t) (i : ∀ v σ H Q, t' v σ H Q → t v σ H Q) : PG X e t' := ⟨fun pins s σ H v u Q I r hw => h.run pins s σ H v u Q I r (i v σ H Q hw)⟩
theorem PGs.imp {X : Cx} {e : List Expr} {t t' : TGs} (h : PGs X e t) (i : ∀ v σ H Q, t' v σ H Q → t v σ H Q) : PGs X e t' := ⟨fun pins s σ H v u Q I r hw => h.run pins s σ H v u Q I r (i v σ H Q hw)⟩
section
variable {X : Cx} {T : Tbl} {xk : XK} {pos : Pos} {e : Expr} {es : List Expr} {g : MG} {gs : MGs} {ts ts' : List Nat}
theorem g_name {i : Nat} {x : Str} (hN : X.N.Nodup) (hi : X.N[i]? = some x) (hx : Loc X.env.scope x) (hf : X.fn x = true ∨ X.env.scope.names.lookup x = some .local := by first | exact .inl rfl | exact .inr rfl | assumption) : PG X (.Name x pos) (rdG X.K T (gN i) [i]) :=
  PG.imp (pg_name hN hi hx hf) fun v σ H Q ⟨F, Z, ρ, μ, d, ρ', G, r, e, q⟩ => by
    cases e
    exact q (σ.set i (some v)) Z H (G.setVal r) (Le.refl Z) ⟨List.length_set, fun j hj => List.getElem?_set_ne fun z => hj (by rw [z]; exact List.mem_singleton_self _)⟩
theorem gs_nil : PGs X [] (rdGs X.K T gsNil []) := PGs.imp pgs_nil fun vs σ H Q ⟨F, Z, ρ, μ, ds, ρ', G, r, e, q⟩ => by
  cases ds with
  | nil => cases e; exact ⟨r, q σ Z H G (Le.refl Z) ⟨rfl, fun _ _ => rfl⟩⟩
  | cons d ds => cases e
theorem gs_cons (h1 : PG X e (rdG X.K T g ts)) (h2 : PGs X es (rdGs X.K T gs ts')) (hs : (assignEach (e :: es) X.env).map (·.2) = assign e X.env :: (assignEach es X.env).map (·.2) := by rfl) : PGs X (e :: es) (rdGs X.K T (gsCons g gs) (ts ++ ts')) :=
  PGs.imp (pgs_cons h1 h2 hs) fun vs σ H Q ⟨F, Z, ρ, μ, ds, ρ', G, r, e, q⟩ => by
    cases ds with
    | nil => cases e
    | cons d ds =>
      obtain ⟨v, rs, ev, r1, r2⟩ := r
      unfold gsCons at e
      dsimp only at e
      cases q1 : g d ρ with
      | none => rw [q1] at e; cases e
      | some ρ1 =>
        rw [q1] at e
        exact ⟨v, rs, ev, F, Z, ρ, μ, d, ρ1, G, r1, q1, fun σ' Z' H' G' l k1 => ⟨F, Z', ρ1, μ, ds, ρ', G', r2.mono l _, e, fun σ2 Z2 H2 G2 l2 k2 => q σ2 Z2 H2 G2 (l.trans l2) ⟨k2.1.trans k1.1, fun j hj => (k2.2 j fun z => hj (List.mem_append_right _ z)).trans (k1.2 j fun z => hj (List.mem_append_left _ z))⟩⟩⟩
theorem g_tup {k n : Nat} (hc : X.calm = true) (h : PGs X es (rdGs X.K T gs ts)) (hn : (assignEach es X.env).length = n := by rfl) (hst : (assignEach es X.env).findIdx? (·.1) = none := by rfl) : PG X (.Tuple es k pos) (rdG X.K T (gTu n gs) ts) :=
  PG.imp (pg_tup hc h hn hst) fun v σ H Q ⟨F, Z, ρ, μ, d, ρ', G, r, e, q⟩ => by
    unfold gTu at e
    cases d with
    | tup ds =>
      dsimp only at e
      by_cases hl : ds.length = n
      · rw [if_pos hl] at e
        obtain ⟨a, vs, ev, s, rs⟩ := r
        exact ⟨a, vs, ev, Same.tup G.base.same s, by rw [rs.length]; exact hl, F, Z, ρ, μ, ds, ρ', G, rs, e, q⟩
      · rw [if_neg hl] at e; cases e
    | _ => cases e
/-- target = e, e's value frozen -/
def sAsg (m : M D) (g : MG) : MS := sOf m fun d ρ μ => match g d ρ with
  | some ρ' => .next ρ' μ
  | none => .bad
theorem s_asg {tg : Expr} {m : M D} (he : PE X e (rdE X.K T xk m)) (hg : PG X tg (rdG X.K T g ts)) (hs : swapsWithSole [tg] e pos.line X.env = pure false := by rfl) (hw : swappedStores [tg] e X.env = pure none := by rfl)
    (h1 : (assignEach [tg] X.env).map (·.2) = [assign tg X.env] := by rfl) : PS X (.Assign [tg] e pos) (rdS X.K T xk (sAsg m g)) := PS.imp (ps_asg he hg hs hw h1) fun E σ H ⟨F, Z, ρ, μ, G, A⟩ =>
  ⟨F, Z, ρ, μ, G, (After.ofS A).imp (Le.refl Z) fun d ρ1 μ1 q v Z1 H1 G1 l1 r1 => by
    cases q1 : g d ρ1 with
    | none => rw [q1] at q; exact q.elim
    | some ρ2 =>
      rw [q1] at q
      exact ⟨F, Z1, ρ1, μ1, d, ρ2, G1, r1, q1, fun σ' Z' H' G' l _ => q σ' Z' H' G' (l1.trans l)⟩⟩
end

/-! ### what is walked -/
def Walks (K : PySem.W.Frag) (T : Tbl) (J : It) (ds : List D) (Z0 : Zt) : Prop := ∀ Z H, Le Z0 Z → Same Z.hp H → ∀ i,
  (∀ d, ds[i]? = some d → J.go i H ∧ ∀ x H', J.yld i H x H' → ∃ Z', Grow Z H Z' H' ∧ Rep K T Z' d x) ∧ (ds.length ≤ i → i = ds.length → J.stop i H)
def rdI (K : PySem.W.Frag) (T : Tbl) (xk : XK) (m : M (List D)) : TI := fun σ H R => ∃ F Z ρ μ, Good K T F Z ρ μ σ H ∧ After K T xk F Z (m ρ μ) fun ds ρ' μ' => ∀ J Z' H', Good K T F Z' ρ' μ' σ H' → Le Z Z' → Walks K T J ds Z' → R J H'
theorem Walks.mono {K : PySem.W.Frag} {T : Tbl} {J : It} {ds : List D} {Z Z' : Zt} (h : Walks K T J ds Z) (l : Le Z Z') : Walks K T J ds Z' := fun Z2 H l2 s i => h Z2 H (l.trans l2) s i
theorem PI.imp {X : Cx} {tg e : Expr} {t t' : TI} (h : PI X tg e t) (i : ∀ σ H Q, t' σ H Q → t σ H Q) : PI X tg e t' := ⟨fun pins s σ H Q I hw => h.run pins s σ H Q I (i σ H Q hw)⟩

/-- the signs of a text, each as a text -/
def signs (s : Str) : List D := s.cps.toList.map fun c => .str ⟨#[c]⟩
/-- the items of a thing that is walked -/
def itemsD : D → Option (List D)
  | .lst l => some l
  | .tup l => some l
  | .str s => some (signs s)
  | .frl l => some (l.map .int)
  | _ => none
def iSeq (m : M D) : M (List D) := bnd m fun d => opt (itemsD d)
/-- a list, a tuple or a text, walked -/
def iAny (K : PySem.W.Frag) (tl : TE) : TI := fun σ H R => tl σ H fun x H1 => (∃ a, x = .ref a ∧ (∃ xs, SqL K H1 a xs) ∧ R (Itl K a) H1) ∨ (∃ a, x = .ref a ∧ (∃ xs, SqT K H1 a xs) ∧ R (Itt K a) H1) ∨ ∃ z, x = .str z ∧ R (Its z) H1
theorem pi_any {X : Cx} {tg l : Expr} {tl : TE} (hl : PE X l tl) : PI X tg l (iAny X.K tl) := by
  refine ⟨fun pins s σ H R I h => ?_⟩
  refine thn (hl.run pins s σ H _ I h) fun v s1 ⟨x, H1, I1, r1, q1⟩ => ?_
  rcases q1 with ⟨a, e, ⟨xs, hq⟩, q⟩ | ⟨a, e, ⟨xs, hq⟩, q⟩ | ⟨z, e, q⟩
  · subst e
    cases r1
    obtain ⟨its, rv, p, hz⟩ := I1.list hq
    refine wpAny_pyIter_list p.isList ?_
    refine ⟨s1.heap.objs.size, [s1.heap.objs.size], _, _, H1, rfl, I1.kept (t' := s1.toks) fun b o e => Heap.get?_push_of_some _ e, turn_list a _, ⟨_, Heap.get?_push_size _ rfl, rfl, rfl⟩, fun b hb => ?_, q⟩
    have e : b = s1.heap.objs.size := by simpa using hb
    subst e
    exact I1.fpOk (Nat.le_refl _) (I1.hok.fresh (Nat.le_refl _))
  · subst e
    cases r1
    obtain ⟨its, rv, p, hz⟩ := I1.tuple hq
    refine wpAny_pyIter_tuple (show s1.heap.IsTuple a its.toArray from p) ?_
    refine ⟨s1.heap.objs.size, [s1.heap.objs.size], _, _, H1, rfl, I1.kept (t' := s1.toks) fun b o e => Heap.get?_push_of_some _ e, turn_tuple a _, ⟨_, Heap.get?_push_size _ rfl, rfl, rfl⟩, fun b hb => ?_, q⟩
    have e : b = s1.heap.objs.size := by simpa using hb
    subst e
    exact I1.fpOk (Nat.le_refl _) (I1.hok.fresh (Nat.le_refl _))
  · subst e
    obtain ⟨t, rfl⟩ := r1
    cases ha : z.cps.all (· < 128)
    · exact wpAny_pyIter_wide ha (pi_one (tk := s1.toks) I1 _ (turn_str _ z t "str_iterator" (.inr rfl)) ⟨_, Heap.get?_push_size _ rfl, rfl, rfl⟩ q)
    · exact wpAny_pyIter_ascii ha (pi_one (tk := s1.toks) I1 _ (turn_str _ z t "str_ascii_iterator" (.inl rfl)) ⟨_, Heap.get?_push_size _ rfl, rfl, rfl⟩ q)
section
variable {K : PySem.W.Frag} {T : Tbl} {Z : Zt}
theorem walks_at {J : It} {ds : List D} {xs : List V} {G : Hp → Prop} (w : Walk J xs.length G (YAt xs)) (hG : ∀ Z' H, Le Z Z' → Same Z'.hp H → G H) (r : RepL K T Z ds xs) : Walks K T J ds Z := fun Z' H l s i => by
  have g := hG Z' H l s
  refine ⟨fun d hd => ?_, fun _ e => ?_⟩
  · have hi : i < xs.length := by rw [r.length]; exact (List.getElem?_eq_some_iff.mp hd).1
    refine ⟨w.goes i H hi g, fun x H' y => ?_⟩
    obtain ⟨e, hx⟩ := w.yields i H x H' hi g y
    obtain ⟨v, h1, h2⟩ := r.get hd
    rw [hx] at h1; cases h1
    subst e
    exact ⟨Z', Grow.refl s, Rep.mono l d h2⟩
  · rw [e, ← r.length]; exact w.stops H g
theorem walks_str (z : Str) : Walks K T (Its z) (signs z) Z := fun Z' H l s i => by
  have hl : (signs z).length = z.cps.size := by unfold signs; rw [List.length_map]; exact Array.length_toList
  refine ⟨fun d hd => ?_, fun _ e => ?_⟩
  · have hi : i < z.cps.size := by rw [← hl]; exact (List.getElem?_eq_some_iff.mp hd).1
    refine ⟨hi, fun x H' y => ?_⟩
    obtain ⟨e, c, hc, ex⟩ := y
    subst e
    refine ⟨Z', Grow.refl s, ?_⟩
    unfold signs at hd
    rw [List.getElem?_map, Array.getElem?_toList, hc] at hd
    cases hd
    exact ex
  · rw [e, hl]; exact Nat.le_refl _
end
theorem i_seq {X : Cx} {T : Tbl} {xk : XK} {tg l : Expr} {m : M D} (hl : PE X l (rdE X.K T xk m)) : PI X tg l (rdI X.K T xk (iSeq m)) := PI.imp (pi_any hl) fun σ H R ⟨F, Z, ρ, μ, G, A⟩ =>
  ⟨F, Z, ρ, μ, G, A.bnd.imp (Le.refl Z) fun d ρ1 μ1 q v Z1 H1 G1 l1 r1 => by
    cases d with
    | lst l =>
      obtain ⟨a, vs, e, h, r⟩ := r1
      exact .inl ⟨a, e, ⟨vs, .of (G1.base.same _ _ h)⟩, q _ Z1 H1 G1 l1 (walks_at walk_list (fun Z' H' l s => .of (s _ _ (l.same _ _ h))) r)⟩
    | frl l =>
      obtain ⟨a, e, h⟩ := r1
      exact .inl ⟨a, e, ⟨_, G1.base.same.seq h⟩, q _ Z1 H1 G1 l1 (walks_at walk_list (fun Z' H' l s => s.seq (l.same.seq h)) (RepL.of_ints _))⟩
    | tup l =>
      obtain ⟨a, vs, e, h, r⟩ := r1
      exact .inr (.inl ⟨a, e, ⟨vs, Same.tup G1.base.same h⟩, q _ Z1 H1 G1 l1 (walks_at walk_tup (fun Z' H' l s => Same.tup s (Same.tup l.same h)) r)⟩)
    | str z => exact .inr (.inr ⟨z, r1, q _ Z1 H1 G1 l1 (walks_str z)⟩)
    | _ => exact q.elim⟩
/-- range(n), range(a, b) -/
def rangeD (lo hi : Int) : List D := (List.range (hi - lo).toNat).map fun (k : Nat) => .int (lo + (k : Nat))
def i62 (i : Int) : Bool := decide (-(2 ^ 62) ≤ i ∧ i < 2 ^ 62)
def iR1 (ml : M (List D)) : M (List D) := bnd ml fun ds => match ds with
  | [.int j] => if i62 j then ret (rangeD 0 j) else fun _ _ => .bad
  | _ => fun _ _ => .bad
def iR2 (ml : M (List D)) : M (List D) := bnd ml fun ds => match ds with
  | [.int i, .int j] => if i62 i && i62 j then ret (rangeD i j) else fun _ _ => .bad
  | _ => fun _ _ => .bad
theorem walks_range {K : PySem.W.Frag} {T : Tbl} {Z : Zt} (lo hi : Int) : Walks K T (Itr lo (hi - lo).toNat) (rangeD lo hi) Z := fun Z' H l s i => by
  have hl : (rangeD lo hi).length = (hi - lo).toNat := by unfold rangeD; rw [List.length_map, List.length_range]
  refine ⟨fun d hd => ?_, fun _ e => ?_⟩
  · have hi' : i < (hi - lo).toNat := by rw [← hl]; exact (List.getElem?_eq_some_iff.mp hd).1
    refine ⟨hi', fun x H' y => ?_⟩
    obtain ⟨e, ex⟩ := y
    subst e
    refine ⟨Z', Grow.refl s, ?_⟩
    unfold rangeD at hd
    rw [List.getElem?_map, List.getElem?_range hi'] at hd
    cases hd
    exact ex
  · rw [e, hl]; exact Nat.le_refl _
section
variable {X : Cx} {T : Tbl} {xk : XK} {tg a b : Expr} {ml : M (List D)} {p pos : Pos}
theorem RepL.get1 {K : PySem.W.Frag} {T : Tbl} {Z : Zt} {d : D} {vs : List V} (h : RepL K T Z [d] vs) : ∃ v, vs = [v] ∧ Rep K T Z d v := by
  obtain ⟨v, r, e, h1, h2⟩ := h
  rw [show r = [] from h2] at e
  exact ⟨v, e, h1⟩
theorem RepL.get2 {K : PySem.W.Frag} {T : Tbl} {Z : Zt} {d d' : D} {vs : List V} (h : RepL K T Z [d, d'] vs) : ∃ v v', vs = [v, v'] ∧ Rep K T Z d v ∧ Rep K T Z d' v' := by
  obtain ⟨v, r, e, h1, h2⟩ := h
  obtain ⟨v', e', h3⟩ := h2.get1
  subst e'
  exact ⟨v, v', e, h1, h3⟩
theorem i_range1 (hg : Gl X "range") (hm : X.mg "range" = none) (ha : PA X [a] (rdL X.K T xk ml)) (hs : starEach [a] X.env = [(false, eval a X.env)] := by rfl) : PI X tg (.Call (.Name "range" p) [a] [] pos) (rdI X.K T xk (iR1 ml)) :=
  PI.imp (pi_range1 hg hm ha hs) fun σ H R ⟨F, Z, ρ, μ, G, A⟩ => ⟨F, Z, ρ, μ, G, A.bnd.imp (Le.refl Z) fun ds ρ1 μ1 q vs Z1 H1 G1 l1 r1 => by
    split at q
    · rename_i j
      obtain ⟨v, e, h⟩ := r1.get1
      split at q
      · rename_i hj
        have hb := of_decide_eq_true hj
        refine ⟨j, by rw [e, show v = .int j from h], hb.1, hb.2, ?_⟩
        have w := walks_range (K := X.K) (T := T) (Z := Z1) 0 j
        rw [show j - 0 = j by omega] at w
        exact q _ Z1 H1 G1 l1 w
      · exact q.elim
    · exact q.elim⟩
theorem i_range2 (hg : Gl X "range") (hm : X.mg "range" = none) (ha : PA X [a, b] (rdL X.K T xk ml)) (hs : starEach [a, b] X.env = [(false, eval a X.env), (false, eval b X.env)] := by rfl) (hs2 : starEach [b] X.env = [(false, eval b X.env)] := by rfl) : PI X tg (.Call (.Name "range" p) [a, b] [] pos) (rdI X.K T xk (iR2 ml)) :=
  PI.imp (pi_range2 hg hm ha hs hs2) fun σ H R ⟨F, Z, ρ, μ, G, A⟩ => ⟨F, Z, ρ, μ, G, A.bnd.imp (Le.refl Z) fun ds ρ1 μ1 q vs Z1 H1 G1 l1 r1 => by
    split at q
    · rename_i i j
      obtain ⟨v, v', e, h, h'⟩ := r1.get2
      split at q
      · rename_i hj
        have hb := Bool.and_eq_true_iff.mp hj
        have h1 := of_decide_eq_true hb.1
        have h2 := of_decide_eq_true hb.2
        exact ⟨i, j, by rw [e, show v = .int i from h, show v' = .int j from h'], ⟨h1.1, h1.2, h2.1, h2.2⟩, q _ Z1 H1 G1 l1 (walks_range i j)⟩
      · exact q.elim
    · exact q.elim⟩
end

/-! ### for -/
def forM (g : MG) (b : MS) : List D → Env → Mem → Fl
  | [], ρ, μ => .next ρ μ
  | d :: ds, ρ, μ => match g d ρ with
    | none => .bad
    | some ρ' => match b ρ' μ with
      | .next ρ2 μ2 => forM g b ds ρ2 μ2
      | .cont ρ2 μ2 => forM g b ds ρ2 μ2
      | .brk ρ2 μ2 => .next ρ2 μ2
      | r => r
def sFor (mi : M (List D)) (g : MG) (b : MS) : MS := sOf mi fun ds ρ μ => forM g b ds ρ μ
theorem s_for {X : Cx} {T : Tbl} {xk : XK} {tg iter : Expr} {body : List Stmt} {mi : M (List D)} {g : MG} {b : MS} {ts : List Nat} {pos : Pos} (hp : PassesOwn (model X.prog X.w) X.A X.env X.xe) (hc : X.calm = true) (hi : PI X tg iter (rdI X.K T xk mi)) (hg : PG X tg (rdG X.K T g ts)) (hb : PSs X body (rdS X.K T xk b))
    (hs : ∀ x, foldedSetIterable iter X.env x = pure x := by intro _; rfl) : PS X (.For tg iter body [] pos) (rdS X.K T xk (sFor mi g b)) := PS.imp (ps_for hp hc hi hg hb hs) fun E σ H ⟨F, Z, ρ, μ, G, A⟩ =>
  ⟨F, Z, ρ, μ, G, (After.ofS A).imp (Le.refl Z) fun ds ρ1 μ1 q J Z1 H1 G1 l1 w => by
    refine ⟨fun i k σ' H' => k = ds.length - i ∧ i ≤ ds.length ∧ ∃ Zi ρi μi, Good X.K T F Zi ρi μi σ' H' ∧ Le Z1 Zi ∧ AfterS X.K T xk F Zi (forM g b (ds.drop i) ρi μi) E, ⟨ds.length, by simp, Nat.zero_le _, Z1, ρ1, μ1, G1, Le.refl Z1, AfterS.mono q l1⟩, ?_⟩
    rintro i k σ' H' ⟨rfl, hi, Zi, ρi, μi, Gi, li, Ai⟩
    by_cases hlt : i < ds.length
    · rw [List.drop_eq_getElem_cons hlt] at Ai
      unfold forM at Ai
      obtain ⟨wg, _⟩ := w Zi H' li Gi.base.same i
      obtain ⟨go, yl⟩ := wg ds[i] (List.getElem?_eq_getElem hlt)
      refine .inr ⟨go, fun σ2 H2 => i + 1 ≤ ds.length ∧ ∃ Zj ρj μj, Good X.K T F Zj ρj μj σ2 H2 ∧ Le Z1 Zj ∧ AfterS X.K T xk F Zj (forM g b (ds.drop (i + 1)) ρj μj) E, fun σ2 H2 ⟨h1, h2⟩ => ⟨ds.length - (i + 1), by omega, rfl, h1, h2⟩, fun x H2 y => ?_⟩
      obtain ⟨Z2, gr, rx⟩ := yl x H2 y
      have l2 := gr.le Gi.base.same
      cases qg : g ds[i] ρi with
      | none => rw [qg] at Ai; exact Ai.elim
      | some ρ' =>
        rw [qg] at Ai
        dsimp only at Ai
        refine ⟨F, Z2, ρi, μi, ds[i], ρ', Gi.grow gr, rx, qg, fun σ3 Z3 H3 G3 l3 _ => ⟨F, Z3, ρ', μi, G3, ?_⟩⟩
        have lt : Le Z1 Z3 := li.trans (l2.trans l3)
        have lz : Le Zi Z3 := l2.trans l3
        cases qb : b ρ' μi with
        | next ρ2 μ2 => rw [qb] at Ai; exact fun σ4 Z4 H4 G4 l4 => ⟨hlt, Z4, ρ2, μ2, G4, lt.trans l4, AfterS.mono Ai (lz.trans l4)⟩
        | cont ρ2 μ2 => rw [qb] at Ai; exact fun σ4 Z4 H4 G4 l4 => ⟨hlt, Z4, ρ2, μ2, G4, lt.trans l4, AfterS.mono Ai (lz.trans l4)⟩
        | brk ρ2 μ2 => rw [qb] at Ai; exact fun σ4 Z4 H4 G4 l4 => Ai σ4 Z4 H4 G4 (lz.trans l4)
        | ret d μ2 => rw [qb] at Ai; exact fun v Z4 H4 G4 l4 => Ai v Z4 H4 G4 (lz.trans l4)
        | exc c d μ2 => rw [qb] at Ai; exact Exok.mono Ai lz
        | bad => rw [qb] at Ai; exact Ai.elim
    · have e : i = ds.length := by omega
      subst e
      rw [List.drop_length] at Ai
      obtain ⟨_, ws⟩ := w Zi H' li Gi.base.same ds.length
      exact .inl ⟨ws (Nat.le_refl _) rfl, Ai σ' Zi H' Gi (Le.refl Zi)⟩⟩

/-! ### while, with so many turns at most -/
def whileM (t : M Bool) (b : MS) : Nat → Env → Mem → Fl
  | 0, _, _ => .bad
  | n + 1, ρ, μ => match t ρ μ with
    | .ok true ρ' μ' => match b ρ' μ' with
      | .next ρ2 μ2 => whileM t b n ρ2 μ2
      | .cont ρ2 μ2 => whileM t b n ρ2 μ2
      | .brk ρ2 μ2 => .next ρ2 μ2
      | r => r
    | .ok false ρ' μ' => .next ρ' μ'
    | .exc c d μ' => .exc c d μ'
    | .bad => .bad
def sWhile (n : Nat) (t : M Bool) (b : MS) : MS := fun ρ μ => whileM t b n ρ μ
theorem s_while {X : Cx} {T : Tbl} {xk : XK} {c : Expr} {body : List Stmt} {t : M Bool} {b : MS} {pos : Pos} (n : Nat) (hp : PassesOwn (model X.prog X.w) X.A X.env X.xe) (hc : PT X c (rdT X.K T xk t)) (hb : PSs X body (rdS X.K T xk b)) :
    PS X (.While c body [] pos) (rdS X.K T xk (sWhile n t b)) := PS.imp (ps_while hp hc hb) fun E σ H ⟨F, Z, ρ, μ, G, A⟩ => by
  refine ⟨fun k σ' H' => ∃ Zi ρi μi, Good X.K T F Zi ρi μi σ' H' ∧ Le Z Zi ∧ AfterS X.K T xk F Zi (whileM t b k ρi μi) E, ⟨n, Z, ρ, μ, G, Le.refl Z, A⟩, ?_⟩
  rintro k σ' H' ⟨Zi, ρi, μi, Gi, li, Ai⟩
  cases k with
  | zero => exact Ai.elim
  | succ k =>
    unfold whileM at Ai
    refine ⟨F, Zi, ρi, μi, Gi, ?_⟩
    cases qt : t ρi μi with
    | bad => rw [qt] at Ai; exact Ai.elim
    | exc c d μ' => rw [qt] at Ai; exact Ai
    | ok v ρ1 μ1 =>
      rw [qt] at Ai
      cases v with
      | false => exact fun Z1 H1 G1 l1 => Ai σ' Z1 H1 G1 l1
      | true =>
        intro Z1 H1 G1 l1
        dsimp only at Ai
        refine ⟨fun σ2 H2 => ∃ Zj ρj μj, Good X.K T F Zj ρj μj σ2 H2 ∧ Le Z Zj ∧ AfterS X.K T xk F Zj (whileM t b k ρj μj) E, fun σ2 H2 h => ⟨k, Nat.lt_succ_self k, h⟩, F, Z1, ρ1, μ1, G1, ?_⟩
        have lt : Le Z Z1 := li.trans l1
        cases qb : b ρ1 μ1 with
        | next ρ2 μ2 => rw [qb] at Ai; exact fun σ4 Z4 H4 G4 l4 => ⟨Z4, ρ2, μ2, G4, lt.trans l4, AfterS.mono Ai (l1.trans l4)⟩
        | cont ρ2 μ2 => rw [qb] at Ai; exact fun σ4 Z4 H4 G4 l4 => ⟨Z4, ρ2, μ2, G4, lt.trans l4, AfterS.mono Ai (l1.trans l4)⟩
        | brk ρ2 μ2 => rw [qb] at Ai; exact fun σ4 Z4 H4 G4 l4 => Ai σ4 Z4 H4 G4 (l1.trans l4)
        | ret d μ2 => rw [qb] at Ai; exact fun v Z4 H4 G4 l4 => Ai v Z4 H4 G4 (l1.trans l4)
        | exc c d μ2 => rw [qb] at Ai; exact Exok.mono Ai l1
        | bad => rw [qb] at Ai; exact Ai.elim
end Pv

/-! Pv5: calls of defs, defs, comprehensions, lists that change. -/
namespace Pv
open PySem L2

/-! ### defs as functions of data -/
inductive Rf where
  | ok (d : D) (μ : Mem)
  | exc (c : Nat) (d : D) (μ : Mem)
  | bad
abbrev Fn := List D → Mem → Rf
def AfterF (K : PySem.W.Frag) (T : Tbl) (xk : XK) (F : Fm) (Z : Zt) (r : Rf) (Q : VK) : Prop := match r with
  | .ok d μ => ∀ v Z' H', Base K T F Z' μ H' → Le Z Z' → Rep K T Z' d v → Q v H'
  | .exc c d μ => Exok K T xk F Z c d μ
  | .bad => False
/-- the promise of a def of n parameters -/
def spD (K : PySem.W.Frag) (T : Tbl) (n : Nat) (φ : Fn) : Sp := fun vs H Q E => ∃ Z μ ds, ds.length = n ∧ Base K T ⟨H, Z, [], none⟩ Z μ H ∧ RepL K T Z ds vs ∧ AfterF K T E ⟨H, Z, [], none⟩ Z (φ ds μ) Q

section
variable {K : PySem.W.Frag} {T : Tbl} {F : Fm} {Z Z' : Zt} {ρ : Env} {μ μ' : Mem} {σ : St} {H H' : Hp}
theorem Base.entry (b : Base K T F Z μ H) : Base K T ⟨H, Z, [], none⟩ Z μ H :=
  ⟨b.same, Le.refl Z, fun _ _ h => h, fun _ _ h _ => h, fun _ h => .inl h, b.nd, b.sto, b.lenm, List.nodup_nil, fun p hp => nomatch hp⟩
theorem Base.cellz (b : Base K T F Z μ H) {a : Addr} (h : a ∈ Z.et) : Z.hp a = none := by
  obtain ⟨n, hn⟩ := List.getElem?_of_mem h
  obtain ⟨_, _, hz, _⟩ := b.sto n a hn
  exact hz
theorem et_mem (l : Le Z Z') {a : Addr} (h : a ∈ Z.et) : a ∈ Z'.et := by
  obtain ⟨n, hn⟩ := List.getElem?_of_mem h
  exact List.mem_of_getElem? (l.et n a hn)
/-- behind a call -/
theorem Base.after (b : Base K T F Z μ H) (c : Base K T ⟨H, Z, [], none⟩ Z' μ' H') : Base K T F Z' μ' H' := by
  refine ⟨c.same, b.le0.trans c.le0, fun a h0 hz => ?_, fun a o h0 hn => ?_, fun a ha => ?_, c.nd, c.sto, c.lenm, b.pnd, fun p hp => ?_⟩
  · by_cases hc : a ∈ F.Z0.et
    · exact c.cellz (et_mem (b.le0.trans c.le0) hc)
    · cases q : F.H0 a with
      | none => exact absurd q h0
      | some o => exact c.steal a (by show H a ≠ none; rw [b.keep a o q hc]; simp) (b.steal a h0 hz)
  · refine c.keep a o (b.keep a o h0 hn) fun hz => ?_
    rcases b.newc a hz with h | h
    · exact hn h
    · rw [h] at h0; cases h0
  · rcases c.newc a ha with h | h
    · exact b.newc a h
    · by_cases hc : a ∈ F.Z0.et
      · exact .inl hc
      · refine .inr ?_
        cases q : F.H0 a with
        | none => rfl
        | some o =>
          have h' : H a = none := h
          rw [b.keep a o q hc] at h'; cases h'
  · obtain ⟨h1, h2, h3, h4⟩ := b.pend p hp
    refine ⟨c.keep p.1 p.2 h1 h3, c.steal p.1 (by show H p.1 ≠ none; rw [h1]; simp) h2, fun hz => ?_, h4⟩
    rcases c.newc p.1 hz with h | h
    · exact h3 h
    · have h' : H p.1 = none := h
      rw [h1] at h'; cases h'
theorem OwnAt.after {a : Addr} {d : D} (w : OwnAt K T F Z H a d) (c : Base K T ⟨H, Z, [], none⟩ Z' μ' H') : OwnAt K T F Z' H' a d := by
  obtain ⟨o, ho⟩ := w.sh.there
  refine ⟨w.new, c.steal a (by show H a ≠ none; rw [ho]; simp) w.free, fun hz => ?_, w.np, w.slf, w.sh.mono c.le0 fun u hu => c.keep a u hu w.nocell⟩
  rcases c.newc a hz with h | h
  · exact w.nocell h
  · have h' : H a = none := h
    rw [ho] at h'; cases h'
theorem Good.after (G : Good K T F Z ρ μ σ H) (c : Base K T ⟨H, Z, [], none⟩ Z' μ' H') : Good K T F Z' ρ μ' σ H' :=
  ⟨G.base.after c, G.slots.len, fun i s e => by
    obtain ⟨v, h1, h2⟩ := G.slots.at_ i s e
    refine ⟨v, h1, ?_⟩
    cases s with
    | val d => exact Rep.mono c.le0 d h2
    | own d => obtain ⟨a, ea, w⟩ := h2; exact ⟨a, ea, w.after c⟩, G.slots.apart⟩
end

def liftF (r : Rf) : M D := fun ρ _ => match r with
  | .ok d μ' => .ok d ρ μ'
  | .exc c d μ' => .exc c d μ'
  | .bad => .bad
def mCall (n : Nat) (φ : Fn) (ml : M (List D)) : M D := bnd ml fun ds ρ μ => if ds.length = n then liftF (φ ds μ) ρ μ else .bad
section
variable {K : PySem.W.Frag} {T : Tbl} {xk : XK}
theorem call_rd {n : Nat} {φ : Fn} {ds : List D} {vs : List V} {F : Fm} {Z Z1 : Zt} {ρ : Env} {μ : Mem} {σ : St} {H : Hp} {Q : VK} (G : Good K T F Z1 ρ μ σ H) (r : RepL K T Z1 ds vs) (l : Le Z Z1)
    (A : After K T xk F Z ((fun ρ μ => if ds.length = n then liftF (φ ds μ) ρ μ else .bad : M D) ρ μ) fun d ρ' μ' => ∀ v Z' H', Good K T F Z' ρ' μ' σ H' → Le Z Z' → Rep K T Z' d v → Q v H') : spD K T n φ vs H Q xk := by
  by_cases hn : ds.length = n
  · simp only [if_pos hn] at A
    refine ⟨Z1, μ, ds, hn, G.base.entry, r, ?_⟩
    unfold liftF at A
    cases q : φ ds μ with
    | ok d μ2 => rw [q] at A; exact fun v Z' H' b l2 rv => A v Z' H' (G.after b) (l.trans l2) rv
    | exc c d μ2 => rw [q] at A; exact fun Z' H' dx v b l2 e rv => A Z' H' dx v (G.base.after b) (l.trans l2) e rv
    | bad => rw [q] at A; exact A
  · simp only [if_neg hn] at A; exact A.elim
end
section
variable {X : Cx} {T : Tbl} {xk : XK} {k n : Nat} {f : Addr} {fd : FuncData} {ps : List Str} {φ : Fn} {x : Str} {p pos : Pos} {e : Expr} {es : List Expr} {ml : M (List D)}
theorem e_call (G : FnOk X.prog X.w X.K X.mg X.base (L2.CX X.prog X.w) k f fd ps (spD X.K T n φ)) (hr : Room k X.A) (hg : Gl X x) (hm : X.mg x = some (.ref f)) (hk : PySem.W.keepIn X.K (.ref f) = true) (hb : Binds X.K fd ps []) (hx : Passes (L2.CX X.prog X.w) X xk)
    (ha : PA X (e :: es) (rdL X.K T xk ml)) (hdb : (x == ("__debug__" : Str)) = false := by decide) (he : starEach (e :: es) X.env = (false, eval e X.env) :: starEach es X.env := by rfl) (hpl : (backTo pos (starEach es X.env)).any (·.1) = false := by rfl) :
    PE X (.Call (.Name x p) (e :: es) [] pos) (rdE X.K T xk (mCall n φ ml)) := PE.imp (pe_call G hr hg hm hk hb .nil hx ha hdb he hpl) fun σ H Q ⟨F, Z, ρ, μ, G, A⟩ =>
  ⟨F, Z, ρ, μ, G, A.bnd.imp (Le.refl Z) fun ds ρ1 μ1 q vs Z1 H1 G1 l1 r1 => by
    show spD X.K T n φ (vs ++ []) H1 Q xk
    rw [List.append_nil]
    exact call_rd G1 r1 l1 q⟩
theorem e_call0 (G : FnOk X.prog X.w X.K X.mg X.base (L2.CX X.prog X.w) k f fd ps (spD X.K T n φ)) (hr : Room k X.A) (hg : Gl X x) (hm : X.mg x = some (.ref f)) (hk : PySem.W.keepIn X.K (.ref f) = true) (hb : Binds X.K fd ps []) (hx : Passes (L2.CX X.prog X.w) X xk)
    (hdb : (x == ("__debug__" : Str)) = false := by decide) : PE X (.Call (.Name x p) [] [] pos) (rdE X.K T xk (mCall n φ lNil)) := PE.imp (pe_call0 G hr hg hm hk hb .nil hx hdb) fun σ H Q ⟨F, Z, ρ, μ, G, A⟩ =>
  call_rd (Z := Z) G (show RepL X.K T Z [] [] from rfl) (Le.refl Z) A
end

/-! ### a def -/
def startE (n : Nat) (ds : List D) : Env := ds.map (fun d => some (.val d)) ++ List.replicate (n - ds.length) none
def bodyR : Fl → Rf
  | .next _ μ => .ok .non μ
  | .ret d μ => .ok d μ
  | .exc c d μ => .exc c d μ
  | _ => .bad
theorem slots_start {K : PySem.W.Frag} {T : Tbl} {F : Fm} {Z : Zt} {H : Hp} {N : List Str} {ds : List D} {vs : List V} (r : RepL K T Z ds vs) : Slots K T F Z (startE N.length ds) (L2.start N vs) H := by
  have hl := r.length
  have no : ∀ (i : Nat) d, (startE N.length ds)[i]? ≠ some (some (.own d)) := fun i d h => by
    unfold startE at h
    rcases List.getElem?_eq_some_iff.mp h with ⟨hi, e⟩
    have hm : some (Sl.own d) ∈ ds.map (fun d => some (Sl.val d)) ++ List.replicate (N.length - ds.length) none := e ▸ List.getElem_mem hi
    rcases List.mem_append.mp hm with h | h
    · obtain ⟨d', _, e'⟩ := List.mem_map.mp h
      cases e'
    · have := List.eq_of_mem_replicate h
      cases this
  refine ⟨?_, fun i s h => ?_, fun i j d e a h1 => absurd h1 (no i d)⟩
  · unfold startE L2.start
    simp only [List.length_append, List.length_map, List.length_replicate, hl]
  · unfold startE at h
    by_cases hi : i < ds.length
    · rw [List.getElem?_append_left (by rw [List.length_map]; exact hi), List.getElem?_map, List.getElem?_eq_getElem hi] at h
      cases h
      obtain ⟨v, h1, h2⟩ := r.get (List.getElem?_eq_getElem hi)
      refine ⟨v, ?_, h2⟩
      unfold L2.start
      rw [List.getElem?_append_left (by rw [List.length_map, hl]; exact hi), List.getElem?_map, h1]
      rfl
    · rw [List.getElem?_append_right (by rw [List.length_map]; omega)] at h
      have hm := List.mem_of_getElem? h
      have := List.eq_of_mem_replicate hm
      cases this
/-- what a body stands in -/
structure Bd (X : Cx) (xk : XK) : Prop where
  pass : Passes (L2.CX X.prog X.w) X xk
  own : PassesOwn (model X.prog X.w) X.A X.env X.xe
theorem ok_def {P : Program} {w : World} {K : PySem.W.Frag} {mg : Str → Option Value} {base : Heap} {T : Tbl} {x qual : Str} {st : Stmt} {f : Addr} {fd : FuncData} {N ps : List Str} {k : Nat} {m : MS} {φ : Fn} (F : Fun K x qual st f fd) (S : FnScope N ps (defScope st))
    (hb : ∀ (cdv : Value) (A : Around) (outer : List PySem.Env) (s : Shared) (H : Hp) (E : XK), Room k (A.deeper (PyProof.Rows.envOfC qual (defScope st) s.heap.objs.size f cdv)) → Bd (cxOf (L2.CX P w) P w K mg base N qual (defScope st) f cdv A outer s H E) E →
      PSs (cxOf (L2.CX P w) P w K mg base N qual (defScope st) f cdv A outer s H E) (defBody st) (rdS K T E m))
    (hφ : ∀ ds μ, ds.length = ps.length → φ ds μ = .bad ∨ bodyR (m (startE N.length ds) μ) = φ ds μ) : FnOk P w K mg base (L2.CX P w) (k + 1) f fd ps (spD K T ps.length φ) := by
  refine F.okX S (fun vs H Q E h => ?_) (fun cdv A outer s H vs Q E hr h => ⟨_, hb cdv A outer s H E hr ⟨?_, ?_⟩, ?_⟩)
  · obtain ⟨Z, μ, ds, hl, _, r, _⟩ := h
    rw [r.length]; exact hl
  · exact passes_call (W := fun c d _ H => E c d H) (takes_of rfl rfl rfl rfl) fun _ _ _ _ h => h
  · exact passes_of rfl
  · obtain ⟨Z, μ, ds, hl, b, r, A⟩ := h
    refine ⟨⟨H, Z, [], none⟩, Z, startE N.length ds, μ, ⟨b, slots_start r⟩, ?_⟩
    rcases hφ ds μ hl with e | e
    · rw [e] at A; exact A.elim
    · rw [← e] at A
      cases q : m (startE N.length ds) μ with
      | next ρ1 μ1 => rw [q] at A; exact fun σ' Z' H' G' l => A .non Z' H' G'.base l rfl
      | ret d μ1 => rw [q] at A; exact A
      | brk ρ1 μ1 => rw [q] at A; exact A.elim
      | cont ρ1 μ1 => rw [q] at A; exact A.elim
      | exc c d μ1 => rw [q] at A; exact A
      | bad => rw [q] at A; exact A.elim

/-! ### comprehensions -/
def wipeE (ρ : Env) (vs : List Nat) : Env := vs.foldr (fun v ρ => ρ.set v none) ρ
theorem wipeE_length (ρ : Env) : ∀ vs, (wipeE ρ vs).length = ρ.length
  | [] => rfl
  | v :: vs => by show ((wipeE ρ vs).set v none).length = _; rw [List.length_set, wipeE_length ρ vs]
theorem wipeE_some {ρ : Env} {i : Nat} {s : Sl} : ∀ {vs : List Nat}, (wipeE ρ vs)[i]? = some (some s) → ρ[i]? = some (some s) ∧ i ∉ vs
  | [], h => ⟨h, by simp⟩
  | v :: vs, h => by
    have h' : ((wipeE ρ vs).set v none)[i]? = some (some s) := h
    by_cases hi : v = i
    · subst hi
      by_cases hv : v < (wipeE ρ vs).length
      · rw [List.getElem?_set_self hv] at h'; cases h'
      · rw [List.getElem?_eq_none (by rw [List.length_set]; omega)] at h'; cases h'
    · rw [List.getElem?_set_ne hi] at h'
      obtain ⟨h1, h2⟩ := wipeE_some h'
      exact ⟨h1, by simp only [List.mem_cons, not_or]; exact ⟨fun e => hi e.symm, h2⟩⟩
def lcM (g : MG) (t : M Bool) (me : M D) (own : List Nat) : List D → List D → Env → Mem → Rs D
  | [], acc, ρ, μ => .ok (.lst acc) ρ μ
  | d :: ds, acc, ρ, μ => match g d (wipeE ρ own) with
    | none => .bad
    | some ρ1 => match t ρ1 μ with
      | .ok true ρ2 μ2 => match me ρ2 μ2 with
        | .ok e ρ3 μ3 => if acc.length < sizeLine then lcM g t me own ds (acc ++ [e]) (wipeE ρ3 own) μ3 else .bad
        | _ => .bad
      | .ok false ρ2 μ2 => lcM g t me own ds acc (wipeE ρ2 own) μ2
      | _ => .bad
def mLc (mi : M (List D)) (g : MG) (t : M Bool) (me : M D) (own : List Nat) : M D := bnd mi fun ds ρ μ => lcM g t me own ds [] (wipeE ρ own) μ
def Fm.push (F : Fm) (a : Addr) (o : HO) : Fm := ⟨F.H0, F.Z0, (a, o) :: F.pend, F.slf⟩
section
variable {K : PySem.W.Frag} {T : Tbl} {F : Fm} {Z Z' : Zt} {ρ : Env} {μ μ' : Mem} {σ : St} {H H' : Hp}
/-- slots forgotten, on either side -/
theorem Good.wiped (G : Good K T F Z ρ μ σ H) (vs : List Nat) : Good K T F Z (wipeE ρ vs) μ (wipe σ vs) H := by
  refine ⟨G.base, by rw [wipeE_length, wipe_length]; exact G.slots.len, fun i s h => ?_, fun i j d e a h1 h2 g1 g2 => ?_⟩
  · obtain ⟨h1, h2⟩ := wipeE_some h
    obtain ⟨v, g1, g2⟩ := G.slots.at_ i s h1
    exact ⟨v, by rw [wipe_out h2]; exact g1, g2⟩
  · obtain ⟨e1, n1⟩ := wipeE_some h1
    obtain ⟨e2, n2⟩ := wipeE_some h2
    rw [wipe_out n1] at g1
    rw [wipe_out n2] at g2
    exact G.slots.apart i j d e a e1 e2 g1 g2
theorem Good.unwiped {vs : List Nat} (G : Good K T F Z (wipeE ρ vs) μ (wipe σ vs) H) : Good K T F Z (wipeE ρ vs) μ σ H := by
  refine ⟨G.base, by rw [G.slots.len, wipe_length], fun i s h => ?_, fun i j d e a h1 h2 g1 g2 => ?_⟩
  · obtain ⟨_, h2⟩ := wipeE_some h
    obtain ⟨v, g1, g2⟩ := G.slots.at_ i s h
    exact ⟨v, by rw [← wipe_out h2]; exact g1, g2⟩
  · obtain ⟨_, n1⟩ := wipeE_some h1
    obtain ⟨_, n2⟩ := wipeE_some h2
    exact G.slots.apart i j d e a h1 h2 (by rw [wipe_out n1]; exact g1) (by rw [wipe_out n2]; exact g2)
theorem wipe_agree {σ σ' : St} {ts vs : List Nat} (h : Agr ts σ σ') (sub : ∀ j ∈ ts, j ∈ vs) : wipe σ' vs = wipe σ vs := by
  obtain ⟨hl, h⟩ := h
  refine List.ext_getElem? fun j => ?_
  by_cases hj : j ∈ vs
  · have key : ∀ (τ : St), j < τ.length → (wipe τ vs)[j]? = some none := fun τ hτ => by
      have hs : (wipe τ vs)[j]? ≠ none := by rw [List.getElem?_eq_getElem (by rw [wipe_length]; exact hτ)]; simp
      cases q : (wipe τ vs)[j]? with
      | none => exact absurd q hs
      | some o =>
        cases o with
        | none => rfl
        | some x => exact absurd hj (wipe_some q).2
    by_cases hτ : j < σ.length
    · rw [key σ hτ, key σ' (by rw [hl]; exact hτ)]
    · rw [List.getElem?_eq_none (by rw [wipe_length]; omega), List.getElem?_eq_none (by rw [wipe_length]; omega)]
  · rw [wipe_out hj, wipe_out hj]
    exact h j fun z => hj (sub j z)
/-- a list begins to be made -/
theorem Good.push {a : Addr} {o : HO} (G : Good K T F Z ρ μ σ H) (ha : H a = none) : Good K T (F.push a o) Z ρ μ σ (upd H a o) := by
  have b := G.base
  have nc : a ∉ Z.et := fun h => by
    obtain ⟨n, hn⟩ := List.getElem?_of_mem h
    obtain ⟨_, _, _, vs, hv, _⟩ := b.sto n a hn
    rw [ha] at hv; cases hv
  have n0 : F.H0 a = none := by
    cases q : F.H0 a with
    | none => rfl
    | some u =>
      by_cases hc : a ∈ F.Z0.et
      · exact absurd (et_mem b.le0 hc) nc
      · rw [b.keep a u q hc] at ha; cases ha
  have keep : ∀ x u, H x = some u → upd H a o x = some u := fun x u e => by rw [upd_ne (ne_of_none e ha)]; exact e
  refine ⟨⟨fun x u e => keep x u (b.same x u e), b.le0, b.steal, fun x u e n => keep x u (b.keep x u e n), b.newc, b.nd, fun n x e => ?_, b.lenm, ?_, fun p hp => ?_⟩, G.slots.len, fun i s e => ?_, G.slots.apart⟩
  · obtain ⟨ds, h1, h2, vs, h3, h4⟩ := b.sto n x e
    exact ⟨ds, h1, h2, vs, keep x _ h3, h4⟩
  · show (a :: F.pend.map (·.1)).Nodup
    refine List.nodup_cons.mpr ⟨fun h => ?_, b.pnd⟩
    obtain ⟨p, hp, e⟩ := List.mem_map.mp h
    rw [← e, (b.pend p hp).1] at ha; cases ha
  · rcases List.mem_cons.mp hp with rfl | hp
    · exact ⟨upd_same, b.same.free ha, nc, n0⟩
    · exact ⟨keep _ _ (b.pend p hp).1, (b.pend p hp).2⟩
  · obtain ⟨v, h1, h2⟩ := G.slots.at_ i s e
    refine ⟨v, h1, ?_⟩
    cases s with
    | val d => exact h2
    | own d =>
      obtain ⟨x, ex, w⟩ := h2
      refine ⟨x, ex, w.new, w.free, w.nocell, fun p hp => ?_, w.slf, w.sh.mono (Le.refl Z) fun u q => keep x u q⟩
      rcases List.mem_cons.mp hp with rfl | hp
      · obtain ⟨u, hu⟩ := w.sh.there
        exact fun z => by
          have z' : a = x := z
          rw [z', hu] at ha; cases ha
      · exact w.np p hp
/-- .. grows -/
theorem Good.repush {a : Addr} {o o' : HO} (G : Good K T (F.push a o) Z ρ μ σ H) : Good K T (F.push a o') Z ρ μ σ (upd H a o') := by
  have b := G.base
  obtain ⟨h1, h2, h3, h4⟩ := b.pend (a, o) List.mem_cons_self
  have ne : ∀ x u, Z.hp x = some u → x ≠ a := fun x u e z => by rw [z, h2] at e; cases e
  have pn : a ∉ F.pend.map (·.1) := (List.nodup_cons.mp b.pnd).1
  refine ⟨⟨fun x u e => by rw [upd_ne (ne x u e)]; exact b.same x u e, b.le0, b.steal, fun x u e n => ?_, b.newc, b.nd, fun n x e => ?_, b.lenm, b.pnd, fun p hp => ?_⟩, G.slots.len, fun i s e => ?_, G.slots.apart⟩
  · have nx : x ≠ a := fun z => by
      rw [z] at e
      have h4' : F.H0 a = none := h4
      have e' : F.H0 a = some u := e
      rw [h4'] at e'; cases e'
    rw [upd_ne nx]; exact b.keep x u e n
  · obtain ⟨ds, g1, g2, vs, g3, g4⟩ := b.sto n x e
    have nx : x ≠ a := fun z => h3 (z ▸ List.mem_of_getElem? e)
    exact ⟨ds, g1, g2, vs, by rw [upd_ne nx]; exact g3, g4⟩
  · rcases List.mem_cons.mp hp with rfl | hp
    · exact ⟨upd_same, h2, h3, h4⟩
    · have nx : p.1 ≠ a := fun z => pn (z ▸ List.mem_map_of_mem hp)
      obtain ⟨g1, g2⟩ := b.pend p (List.mem_cons_of_mem _ hp)
      exact ⟨by rw [upd_ne nx]; exact g1, g2⟩
  · obtain ⟨v, g1, g2⟩ := G.slots.at_ i s e
    refine ⟨v, g1, ?_⟩
    cases s with
    | val d => exact g2
    | own d =>
      obtain ⟨x, ex, w⟩ := g2
      have nx : x ≠ a := fun z => w.np (a, o) List.mem_cons_self z.symm
      refine ⟨x, ex, w.new, w.free, w.nocell, fun p hp => ?_, w.slf, w.sh.mono (Le.refl Z) fun u q => by rw [upd_ne nx]; exact q⟩
      rcases List.mem_cons.mp hp with rfl | hp
      · exact Ne.symm nx
      · exact w.np p (List.mem_cons_of_mem _ hp)
/-- .. is done: nobody else holds it -/
theorem Good.pop {a : Addr} {o : HO} {d : D} (G : Good K T (F.push a o) Z ρ μ σ H) (sh : Sh K T Z H a d) (no : ∀ c l, d ≠ .obj c l := by intro _ _ z; cases z) : Good K T F Z ρ μ σ H ∧ OwnAt K T F Z H a d ∧ ∀ (j : Nat) e, ρ[j]? = some (some (.own e)) → σ[j]? ≠ some (some (.ref a)) := by
  have b := G.base
  obtain ⟨h1, h2, h3, h4⟩ := b.pend (a, o) List.mem_cons_self
  have pn := List.nodup_cons.mp b.pnd
  refine ⟨⟨⟨b.same, b.le0, b.steal, b.keep, b.newc, b.nd, b.sto, b.lenm, pn.2, fun p hp => b.pend p (List.mem_cons_of_mem _ hp)⟩, G.slots.len, fun i s e => ?_, G.slots.apart⟩, ⟨h4, h2, h3, fun p hp z => pn.1 (by have hm : p.1 ∈ F.pend.map (·.1) := List.mem_map_of_mem hp; rw [z] at hm; exact hm), fun c l e => absurd e (no c l), sh⟩, fun j e g1 g2 => ?_⟩
  · obtain ⟨v, g1, g2⟩ := G.slots.at_ i s e
    refine ⟨v, g1, ?_⟩
    cases s with
    | val d => exact g2
    | own d => obtain ⟨x, ex, w⟩ := g2; exact ⟨x, ex, w.new, w.free, w.nocell, fun p hp => w.np p (List.mem_cons_of_mem _ hp), w.slf, w.sh⟩
  · obtain ⟨v, k1, x, ex, w⟩ := G.slots.at_ j _ g1
    rw [g2] at k1
    have e1 : v = .ref a := by cases k1; rfl
    have e2 : x = a := by rw [e1] at ex; cases ex; rfl
    exact w.np (a, o) List.mem_cons_self e2.symm
end
/-- tests of a comprehension -/
def tYesM : M Bool := ret true
theorem PTs.imp {X : Cx} {e : List Expr} {t t' : TT} (h : PTs X e t) (i : ∀ σ H Q, t' σ H Q → t σ H Q) : PTs X e t' := ⟨fun pins s σ H Q I hw => h.run pins s σ H Q I (i σ H Q hw)⟩
theorem ts_nil {X : Cx} {T : Tbl} {xk : XK} : PTs X [] (rdT X.K T xk tYesM) := PTs.imp pts_nil fun σ H Q ⟨F, Z, ρ, μ, G, A⟩ => A Z H G (Le.refl Z)
theorem ts_one {X : Cx} {T : Tbl} {xk : XK} {c : Expr} {t : M Bool} (h : PT X c (rdT X.K T xk t)) : PTs X [c] (rdT X.K T xk t) := pts_one h
section
variable {X : Cx} {T : Tbl} {xk : XK} {elt tg iter : Expr} {ifs : List Expr} {scope : Scope} {own : List (Str × Nat)} {pos : Pos} {mi : M (List D)} {g : MG} {ts : List Nat} {t : M Bool} {me : M D}
theorem lc_rd (hts : ∀ j ∈ ts, j ∈ own.map (·.2)) : ∀ σ H Q, rdF X.K T xk (mLc mi g t me (own.map (·.2))) σ H Q → tLc (rdI X.K T xk mi) (rdG X.K T g ts) (rdT X.K T E0 t) (rdE X.K T E0 me) (own.map (·.2)) σ H Q := fun σ H Q ⟨F, Z, ρ, μ, G, A⟩ =>
  ⟨F, Z, ρ, μ, G, A.bnd.imp (Le.refl Z) fun ds ρ1 μ1 A1 J Z1 H1 G1 l1 w => fun L hL => by
    generalize hvs : own.map (·.2) = vs at *
    have G2 : Good X.K T (F.push L (.lst [])) Z1 (wipeE ρ1 vs) μ1 (wipe σ vs) (upd H1 L (.lst [])) := (G1.wiped vs).push hL
    refine ⟨fun i k H' => k = ds.length - i ∧ i ≤ ds.length ∧ ∃ Zi ρi μi acc va, Good X.K T (F.push L (.lst va)) Zi (wipeE ρi vs) μi (wipe σ vs) H' ∧ Le Z1 Zi ∧ RepL X.K T Zi acc va ∧
        After X.K T xk F Zi (lcM g t me vs (ds.drop i) acc (wipeE ρi vs) μi) (fun d ρ' μ' => ∀ a Z' H', Good X.K T F Z' ρ' μ' σ H' → Le Zi Z' → OwnAt X.K T F Z' H' a d → (∀ (j : Nat) e, ρ'[j]? = some (some (.own e)) → σ[j]? ≠ some (some (.ref a))) → Q (.ref a) H'),
      ⟨ds.length, by simp, Nat.zero_le _, Z1, ρ1, μ1, [], [], G2, Le.refl Z1, rfl, A1.imp l1 fun d ρ' μ' q a Z' H' G' l' w' ap => q a Z' H' G' (l1.trans l') w' ap⟩, ?_⟩
    rintro i k H' ⟨rfl, hi, Zi, ρi, μi, acc, va, Gi, li, ra, Ai⟩
    by_cases hlt : i < ds.length
    · rw [List.drop_eq_getElem_cons hlt] at Ai
      unfold lcM at Ai
      obtain ⟨wg, _⟩ := w Zi H' li Gi.base.same i
      obtain ⟨go, yl⟩ := wg ds[i] (List.getElem?_eq_getElem hlt)
      refine .inr ⟨go, fun H2 => i + 1 ≤ ds.length ∧ ∃ Zj ρj μj acc va, Good X.K T (F.push L (.lst va)) Zj (wipeE ρj vs) μj (wipe σ vs) H2 ∧ Le Z1 Zj ∧ RepL X.K T Zj acc va ∧
        After X.K T xk F Zj (lcM g t me vs (ds.drop (i + 1)) acc (wipeE ρj vs) μj) (fun d ρ' μ' => ∀ a Z' H', Good X.K T F Z' ρ' μ' σ H' → Le Zj Z' → OwnAt X.K T F Z' H' a d → (∀ (j : Nat) e, ρ'[j]? = some (some (.own e)) → σ[j]? ≠ some (some (.ref a))) → Q (.ref a) H'),
        fun H2 ⟨h1, h2⟩ => ⟨ds.length - (i + 1), by omega, rfl, h1, h2⟩, fun x H2 y => ?_⟩
      obtain ⟨Z2, gr, rx⟩ := yl x H2 y
      have l2 := gr.le Gi.base.same
      cases qg : g ds[i] (wipeE (wipeE ρi vs) vs) with
      | none => rw [qg] at Ai; exact Ai.elim
      | some ρ' =>
        rw [qg] at Ai
        dsimp only at Ai
        have Gw : Good X.K T (F.push L (.lst va)) Z2 (wipeE (wipeE ρi vs) vs) μi (wipe σ vs) H2 := by
          have G3 := (Gi.grow gr).wiped vs
          rw [wipe_agree (σ := σ) (σ' := wipe σ vs) (ts := vs) (vs := vs) ⟨wipe_length _ _, fun j hj => wipe_out hj⟩ (fun j h => h)] at G3
          exact G3
        refine ⟨F.push L (.lst va), Z2, wipeE (wipeE ρi vs) vs, μi, ds[i], ρ', Gw, rx, qg, fun σ3 Z3 H3 G3 l3 ag => ?_⟩
        have e1 : wipe σ3 vs = wipe σ vs := by
          have e0 : wipe σ3 vs = wipe (wipe σ vs) vs := wipe_agree ag fun j h => hts j h
          rw [e0, wipe_agree (σ := σ) (σ' := wipe σ vs) (ts := vs) (vs := vs) ⟨wipe_length _ _, fun j hj => wipe_out hj⟩ (fun j h => h)]
        refine ⟨e1, F.push L (.lst va), Z3, ρ', μi, G3, ?_⟩
        have lz : Le Zi Z3 := l2.trans l3
        cases qt : t ρ' μi with
        | bad => rw [qt] at Ai; exact Ai.elim
        | exc c d μ2 => rw [qt] at Ai; exact Ai.elim
        | ok bb ρ2 μ2 =>
          rw [qt] at Ai
          cases bb with
          | false =>
            intro Z4 H4 G4 l4
            have G5 := G4.wiped vs
            rw [e1] at G5
            have lw := lz.trans l4
            exact ⟨hlt, Z4, ρ2, μ2, acc, va, G5, li.trans lw, ra.mono lw _, Ai.imp lw fun d ρ' μ' q a Z' H' G' l' w' ap => q a Z' H' G' (lw.trans l') w' ap⟩
          | true =>
            intro Z4 H4 G4 l4
            dsimp only at Ai
            rw [if_pos rfl]
            refine ⟨F.push L (.lst va), Z4, ρ2, μ2, G4, ?_⟩
            cases qe : me ρ2 μ2 with
            | bad => rw [qe] at Ai; exact Ai.elim
            | exc c d μ2 => rw [qe] at Ai; exact Ai.elim
            | ok e ρ3 μ3 =>
              rw [qe] at Ai
              dsimp only at Ai
              intro v Z5 H5 G5 l5 re
              by_cases hz : acc.length < sizeLine
              · rw [if_pos hz] at Ai
                have lw := (lz.trans l4).trans l5
                have G6 := G5.wiped vs
                rw [e1] at G6
                have rb : RepL X.K T Z5 (acc ++ [e]) (va ++ [v]) := (ra.mono lw _).append (.one re)
                refine ⟨va, (G5.base.pend (L, .lst va) List.mem_cons_self).1, by rw [ra.length]; exact hz, hlt, Z5, ρ3, μ3, acc ++ [e], va ++ [v], G6.repush, li.trans lw, rb, Ai.imp lw fun d ρ' μ' q a Z' H' G' l' w' ap => q a Z' H' G' (lw.trans l') w' ap⟩
              · rw [if_neg hz] at Ai; exact Ai.elim
    · have e : i = ds.length := by omega
      subst e
      rw [List.drop_length] at Ai
      obtain ⟨_, ws⟩ := w Zi H' li Gi.base.same ds.length
      have hL' : H' L = some (.lst va) := (Gi.base.pend (L, .lst va) List.mem_cons_self).1
      obtain ⟨G4, w4, ap⟩ := Gi.pop (d := .lst acc) ⟨va, hL', ra⟩
      refine .inl ⟨ws (Nat.le_refl _) rfl, Ai L Zi H' G4.unwiped (Le.refl Zi) w4 fun j e h1 h2 => ap j e h1 ?_⟩
      rw [wipe_out (wipeE_some h1).2]; exact h2⟩
end
end Pv

/-! Pv6: comprehensions as expressions, lists that change, objects. -/
namespace Pv
open PySem L2

section
variable {X : Cx} {T : Tbl} {xk : XK} {elt tg iter : Expr} {ifs : List Expr} {scope : Scope} {own : List (Str × Nat)} {pos : Pos} {mi : M (List D)} {g : MG} {ts : List Nat} {t : M Bool} {me : M D}
theorem f_lc (hc : X.calm = true) (hN : X.N.Nodup) (hi : PI X tg iter (rdI X.K T xk mi)) (ok : BlkOk X.N X.env.scope scope own) (hts : ∀ j ∈ ts, j ∈ own.map (·.2))
    (hg : ∀ (s : Shared) (H : Hp) (C : Addr) (cl : List (Str × Addr)) (fp : List Addr), PG (X.blk s H scope (compEnvC scope cl C X.env) fp) tg (rdG X.K T g ts)) (ht : ∀ (s : Shared) (H : Hp) (C : Addr) (cl : List (Str × Addr)) (fp : List Addr), PTs (X.blk s H scope (compEnvC scope cl C X.env) fp) ifs (rdT X.K T E0 t))
    (he : ∀ (s : Shared) (H : Hp) (C : Addr) (cl : List (Str × Addr)) (fp : List Addr), PE (X.blk s H scope (compEnvC scope cl C X.env) fp) elt (rdE X.K T E0 me)) (hs : ∀ x, foldedSetIterable iter X.env x = pure x := by intro _; rfl) :
    PE X (.ListComp elt [⟨tg, iter, ifs, 0⟩] scope pos) (rdF X.K T xk (mLc mi g t me (own.map (·.2)))) := PE.imp (pe_lc hc hN hi ok hg ht he hs) (lc_rd hts)
theorem s_ownLc {i : Nat} {y : Str} {py spos : Pos} (hc : X.calm = true) (hN : X.N.Nodup) (hy : X.N[i]? = some y) (hyl : X.env.scope.names.lookup y = some .local)
    (hsw : swapsWith (.ListComp elt [⟨tg, iter, ifs, 0⟩] scope pos) (some (.Name y py)) spos.line X.env = pure true) (hi : PI X tg iter (rdI X.K T xk mi)) (ok : BlkOk X.N X.env.scope scope own) (hts : ∀ j ∈ ts, j ∈ own.map (·.2))
    (hg : ∀ (s : Shared) (H : Hp) (C : Addr) (cl : List (Str × Addr)) (fp : List Addr), PG (X.blk s H scope (compEnvC scope cl C X.env) fp) tg (rdG X.K T g ts)) (ht : ∀ (s : Shared) (H : Hp) (C : Addr) (cl : List (Str × Addr)) (fp : List Addr), PTs (X.blk s H scope (compEnvC scope cl C X.env) fp) ifs (rdT X.K T E0 t))
    (he : ∀ (s : Shared) (H : Hp) (C : Addr) (cl : List (Str × Addr)) (fp : List Addr), PE (X.blk s H scope (compEnvC scope cl C X.env) fp) elt (rdE X.K T E0 me)) (hs : ∀ x, foldedSetIterable iter X.env x = pure x := by intro _; rfl) :
    PS X (.Assign [.Name y py] (.ListComp elt [⟨tg, iter, ifs, 0⟩] scope pos) spos) (rdS X.K T xk (sOwn i (mLc mi g t me (own.map (·.2))))) := PS.imp (ps_setLc hc hN hy hyl hsw hi ok hg ht he hs) fun E σ H ⟨F, Z, ρ, μ, G, A⟩ =>
  lc_rd hts σ H _ ⟨F, Z, ρ, μ, G, (After.ofS A).imp (Le.refl Z) fun d ρ1 μ1 q a Z1 H1 G1 l1 w ap => q (σ.set i (some (.ref a))) Z1 H1 (G1.setOwn w ap) l1⟩
theorem bd_blk {s : Shared} {H : Hp} {cenv : PySem.Env} {fp : List Addr} : Bd (X.blk s H scope cenv fp) E0 := ⟨passL, PassesOwn.never⟩
end

/-! ### lists that change -/
section
variable {K : PySem.W.Frag} {T : Tbl} {F : Fm} {Z Z' : Zt} {ρ : Env} {μ : Mem} {σ : St} {H : Hp} {a : Addr} {i n : Nat} {d d' : D} {o : HO} {l l' : List D} {vs' : List V}
/-- what a name alone holds is changed -/
theorem Good.mutOwn (G : Good K T F Z ρ μ σ H) (hi : ρ[i]? = some (some (.own d))) (ha : σ[i]? = some (some (.ref a))) (sh : Sh K T Z (upd H a o) a d') (ho : ∀ c l, d' = .obj c l → ∃ c0 l0, d = .obj c0 l0 := by intro _ _ z; cases z) : Good K T F Z (ρ.set i (some (.own d'))) μ σ (upd H a o) := by
  have b := G.base
  have hl : i < ρ.length := (List.getElem?_eq_some_iff.mp hi).1
  obtain ⟨v, g1, a', ea, w⟩ := G.slots.at_ i _ hi
  rw [ha] at g1
  have ev : v = .ref a := by cases g1; rfl
  have e' : a' = a := by rw [ev] at ea; cases ea; rfl
  subst e'
  have nz : ∀ x u, Z.hp x = some u → x ≠ a' := fun x u e z => by rw [z, w.free] at e; cases e
  refine ⟨⟨fun x u e => by rw [upd_ne (nz x u e)]; exact b.same x u e, b.le0, b.steal, fun x u e nx => ?_, b.newc, b.nd, fun m x e => ?_, b.lenm, b.pnd, fun p hp => ?_⟩, by rw [List.length_set]; exact G.slots.len, fun j s e => ?_, fun j k d1 d2 y e1 e2 h1 h2 => ?_⟩
  · have ne : x ≠ a' := fun z => by rw [z, w.new] at e; cases e
    rw [upd_ne ne]; exact b.keep x u e nx
  · obtain ⟨ds, h1, h2, vs, h3, h4⟩ := b.sto m x e
    have ne : x ≠ a' := fun z => w.nocell (z ▸ List.mem_of_getElem? e)
    exact ⟨ds, h1, h2, vs, by rw [upd_ne ne]; exact h3, h4⟩
  · obtain ⟨h1, h2⟩ := b.pend p hp
    exact ⟨by rw [upd_ne (w.np p hp)]; exact h1, h2⟩
  · by_cases ji : j = i
    · subst ji
      rw [List.getElem?_set_self hl] at e
      cases e
      exact ⟨.ref a', ha, a', rfl, w.new, w.free, w.nocell, w.np, fun c l e => by obtain ⟨c0, l0, e0⟩ := ho c l e; exact w.slf c0 l0 e0, sh⟩
    · rw [List.getElem?_set_ne (Ne.symm ji)] at e
      obtain ⟨v', h1, h2⟩ := G.slots.at_ j s e
      refine ⟨v', h1, ?_⟩
      cases s with
      | val d => exact h2
      | own d =>
        obtain ⟨y, ey, wy⟩ := h2
        subst ey
        have ne : y ≠ a' := fun z => by
          subst z
          exact ji (G.slots.apart j i _ _ y e hi h1 ha)
        exact ⟨y, rfl, wy.new, wy.free, wy.nocell, wy.np, wy.slf, wy.sh.mono (Le.refl Z) fun u q => by rw [upd_ne ne]; exact q⟩
  · have key : ∀ {x : Nat} {dd : D}, (ρ.set i (some (Sl.own d')))[x]? = some (some (Sl.own dd)) → ∃ d2, ρ[x]? = some (some (Sl.own d2)) := fun {x dd} e => by
      by_cases xi : x = i
      · subst xi; exact ⟨_, hi⟩
      · rw [List.getElem?_set_ne (Ne.symm xi)] at e; exact ⟨_, e⟩
    obtain ⟨_, k1⟩ := key e1
    obtain ⟨_, k2⟩ := key e2
    exact G.slots.apart j k _ _ y k1 k2 h1 h2
/-- a boxed list is changed -/
theorem Good.mutRef (G : Good K T F Z ρ μ σ H) (ha : Z.et[n]? = some a) (r : RepL K T Z l' vs') : Good K T F Z ρ (μ.set n l') σ (upd H a (.lst vs')) := by
  have b := G.base
  have hm : a ∈ Z.et := List.mem_of_getElem? ha
  have az := b.cellz hm
  have hn : n < μ.length := by rw [b.lenm]; exact (List.getElem?_eq_some_iff.mp ha).1
  have nz : ∀ x u, Z.hp x = some u → x ≠ a := fun x u e z => by rw [z, az] at e; cases e
  refine ⟨⟨fun x u e => by rw [upd_ne (nz x u e)]; exact b.same x u e, b.le0, b.steal, fun x u e nx => ?_, b.newc, b.nd, fun m x e => ?_, by rw [List.length_set]; exact b.lenm, b.pnd, fun p hp => ?_⟩, G.slots.len, fun j s e => ?_, G.slots.apart⟩
  · have ne : x ≠ a := fun z => by
      subst z
      rcases b.newc x hm with h | h
      · exact nx h
      · rw [h] at e; cases e
    rw [upd_ne ne]; exact b.keep x u e nx
  · by_cases mn : m = n
    · subst mn
      rw [ha] at e
      cases e
      exact ⟨l', List.getElem?_set_self hn, az, vs', upd_same, r⟩
    · obtain ⟨ds, h1, h2, vs, h3, h4⟩ := b.sto m x e
      have ne : x ≠ a := fun z => by
        subst z
        obtain ⟨k1, e1⟩ := List.getElem?_eq_some_iff.mp e
        obtain ⟨k2, e2⟩ := List.getElem?_eq_some_iff.mp ha
        exact mn ((List.getElem_inj b.nd).mp (e1.trans e2.symm))
      exact ⟨ds, by rw [List.getElem?_set_ne (Ne.symm mn)]; exact h1, h2, vs, by rw [upd_ne ne]; exact h3, h4⟩
  · obtain ⟨h1, h2, h3, h4⟩ := b.pend p hp
    exact ⟨by rw [upd_ne (fun z => h3 (by rw [z]; exact hm))]; exact h1, h2, h3, h4⟩
  · obtain ⟨v, h1, h2⟩ := G.slots.at_ j s e
    refine ⟨v, h1, ?_⟩
    cases s with
    | val d => exact h2
    | own d =>
      obtain ⟨y, ey, w⟩ := h2
      have ne : y ≠ a := fun z => w.nocell (z ▸ hm)
      exact ⟨y, ey, w.new, w.free, w.nocell, w.np, w.slf, w.sh.mono (Le.refl Z) fun u q => by rw [upd_ne ne]; exact q⟩
end
/-- the list that a name holds: its own, or a boxed one -/
def lstAt (ρ : Env) (μ : Mem) (i : Nat) : Option (List D) := match ρ[i]? with
  | some (some (.own (.lst l))) => some l
  | some (some (.val (.ref n))) => μ[n]?
  | _ => none
def putAt (ρ : Env) (μ : Mem) (i : Nat) (l : List D) (r : D) : Rs D := match ρ[i]? with
  | some (some (.own (.lst _))) => .ok r (ρ.set i (some (.own (.lst l)))) μ
  | some (some (.val (.ref n))) => .ok r ρ (μ.set n l)
  | _ => .bad
def mMut (i : Nat) (f : List D → List D → Option (D × List D)) (ml : M (List D)) : M D := fun ρ μ => match lstAt ρ μ i with
  | none => .bad
  | some _ => bnd ml (fun ds ρ' μ' => match lstAt ρ' μ' i with
    | none => .bad
    | some l => match f l ds with
      | none => .bad
      | some (r, l') => putAt ρ' μ' i l' r) ρ μ
section
variable {K : PySem.W.Frag} {T : Tbl} {xk : XK} {F : Fm} {Z Z1 : Zt} {ρ : Env} {μ : Mem} {σ : St} {H : Hp} {i : Nat} {l l' : List D}
theorem Good.lstAt (G : Good K T F Z ρ μ σ H) (h : lstAt ρ μ i = some l) : ∃ a vs, σ[i]? = some (some (.ref a)) ∧ H a = some (.lst vs) ∧ RepL K T Z l vs := by
  unfold Pv.lstAt at h
  cases q : ρ[i]? with
  | none => rw [q] at h; cases h
  | some o =>
    cases o with
    | none => rw [q] at h; cases h
    | some s =>
      obtain ⟨v, h1, h2⟩ := G.slots.at_ i s q
      rw [q] at h
      cases s with
      | own d =>
        obtain ⟨a, ea, w⟩ := h2
        subst ea
        cases d with
        | lst x =>
          cases h
          obtain ⟨vs, k1, k2⟩ := w.sh
          exact ⟨a, vs, h1, k1, k2⟩
        | _ => cases h
      | val d =>
        cases d with
        | ref n =>
          obtain ⟨a, ea, hn⟩ := h2
          subst ea
          obtain ⟨ds, k1, _, vs, k2, k3⟩ := G.base.sto n a hn
          have h' : μ[n]? = some l := h
          rw [k1] at h'
          cases h'
          exact ⟨a, vs, h1, k2, k3⟩
        | _ => cases h
theorem Good.putAt {r : D} {v : V} {a : Addr} {vs' : List V} {Q : D → Env → Mem → Prop} (G : Good K T F Z1 ρ μ σ H) (h : Pv.lstAt ρ μ i = some l) (ha : σ[i]? = some (some (.ref a))) (rl : RepL K T Z1 l' vs')
    (A : After K T xk F Z (Pv.putAt ρ μ i l' r) Q) : ∃ ρ' μ', Q r ρ' μ' ∧ Good K T F Z1 ρ' μ' σ (upd H a (.lst vs')) := by
  unfold Pv.lstAt at h
  unfold Pv.putAt at A
  cases q : ρ[i]? with
  | none => rw [q] at h; cases h
  | some o =>
    cases o with
    | none => rw [q] at h; cases h
    | some s =>
      obtain ⟨v, h1, h2⟩ := G.slots.at_ i s q
      rw [q] at h A
      cases s with
      | own d =>
        cases d with
        | lst x => exact ⟨_, _, A, G.mutOwn q ha ⟨vs', upd_same, rl⟩⟩
        | _ => cases h
      | val d =>
        cases d with
        | ref n =>
          obtain ⟨a', ea, hn⟩ := h2
          rw [ha] at h1
          have : a' = a := by cases h1; cases ea; rfl
          subst this
          exact ⟨_, _, A, G.mutRef hn rl⟩
        | _ => cases h
end
/-- a method of lists, by values -/
def MtS (K : PySem.W.Frag) (T : Tbl) (r : V → List V → Hp → VK → Prop) (f : List D → List D → Option (D × List D)) : Prop :=
  ∀ Z H a l ds vs xs z l' Q, Same Z.hp H → H a = some (.lst vs) → RepL K T Z l vs → RepL K T Z ds xs → f l ds = some (z, l') → (∀ v vs', Rep K T Z z v → RepL K T Z l' vs' → Q v (upd H a (.lst vs'))) → r (.ref a) xs H Q
theorem mut_rd {K : PySem.W.Frag} {T : Tbl} {xk : XK} {i : Nat} {r : V → List V → Hp → VK → Prop} {f : List D → List D → Option (D × List D)} {ml : M (List D)} (hs : MtS K T r f) : ∀ σ H Q, rdE K T xk (mMut i f ml) σ H Q → tBM K "list" r (tVar i) (rdL K T xk ml) σ H Q := fun σ H Q ⟨F, Z, ρ, μ, G, A⟩ => by
  unfold mMut at A
  cases q : lstAt ρ μ i with
  | none => rw [q] at A; exact A.elim
  | some l0 =>
    rw [q] at A
    obtain ⟨a, vs, h1, h2, h3⟩ := G.lstAt q
    refine ⟨.ref a, h1, .inl ⟨rfl, _, .inl (.inl h2)⟩, F, Z, ρ, μ, G, A.bnd.imp (Le.refl Z) fun ds ρ1 μ1 A1 xs Z1 H1 G1 l1 r1 => ?_⟩
    cases q1 : lstAt ρ1 μ1 i with
    | none => rw [q1] at A1; exact A1.elim
    | some l =>
      rw [q1] at A1
      dsimp only at A1
      cases q2 : f l ds with
      | none => rw [q2] at A1; exact A1.elim
      | some p =>
        obtain ⟨z, l'⟩ := p
        rw [q2] at A1
        dsimp only at A1
        obtain ⟨a', vs1, k1, k2, k3⟩ := G1.lstAt q1
        rw [h1] at k1
        cases k1
        refine hs Z1 H1 a l ds vs1 xs z l' Q G1.base.same k2 k3 r1 q2 fun v vs' rv rl => ?_
        obtain ⟨ρ2, μ2, Q2, G2⟩ := G1.putAt (v := v) q1 h1 rl A1
        exact Q2 v Z1 _ G2 l1 rv
def fAppend : List D → List D → Option (D × List D) := fun l ds => match ds with
  | [d] => if l.length < sizeLine then some (.non, l ++ [d]) else none
  | _ => none
theorem ms_append {K : PySem.W.Frag} {T : Tbl} : MtS K T rAppend fAppend := fun Z H a l ds vs xs z l' Q s h rl rd e k => by
  unfold fAppend at e
  split at e
  · rename_i d
    obtain ⟨v, ev, r⟩ := rd.get1
    split at e
    · rename_i hl
      cases e
      exact ⟨a, vs, v, rfl, ev, h, by rw [rl.length]; exact hl, k .non _ rfl (rl.append (.one r))⟩
    · cases e
  · cases e
/-- extend by a list or a tuple? lists alone here -/
def fExtend : List D → List D → Option (D × List D) := fun l ds => match ds with
  | [.lst e] => if l.length + e.length ≤ sizeLine then some (.non, l ++ e) else none
  | _ => none
theorem ms_extend {K : PySem.W.Frag} {T : Tbl} : MtS K T rExtend fExtend := fun Z H a l ds vs xs z l' Q s h rl rd e k => by
  unfold fExtend at e
  split at e
  · rename_i d
    obtain ⟨v, ev, b, ws, eb, hb, rb⟩ := rd.get1
    subst eb
    split at e
    · rename_i hl
      cases e
      exact ⟨a, b, vs, ws, rfl, ev, h, s _ _ hb, by rw [rl.length, rb.length]; exact hl, k .non _ rfl (rl.append rb)⟩
    · cases e
  · cases e
def fPopAt : List D → List D → Option (D × List D) := fun l ds => match ds with
  | [.int i] => if -(2 ^ 63) ≤ i ∧ i < 2 ^ 63 then (ixN l.length i).bind fun j => (l[j]?).map fun d => (d, l.eraseIdx j) else none
  | _ => none
theorem ms_popAt {K : PySem.W.Frag} {T : Tbl} : MtS K T rPopAt fPopAt := fun Z H a l ds vs xs z l' Q s h rl rd e k => by
  unfold fPopAt at e
  split at e
  · rename_i i
    obtain ⟨v, ev, r⟩ := rd.get1
    split at e
    · rename_i hb
      cases q : ixN l.length i with
      | none => rw [q] at e; cases e
      | some j =>
        rw [q] at e
        simp only [Option.bind_some] at e
        cases q2 : l[j]? with
        | none => rw [q2] at e; cases e
        | some d =>
          rw [q2] at e
          cases e
          obtain ⟨y, hy, ry⟩ := rl.get q2
          obtain ⟨hs, _⟩ := ixN_seq q
          exact ⟨a, vs, i, j, y, rfl, by rw [ev, show v = .int i from r], h, hb.1, hb.2, by rw [rl.length]; exact hs, hy, k y _ ry (rl.eraseIdx j)⟩
    · cases e
  · cases e
def fPop : List D → List D → Option (D × List D) := fun l ds => match ds with
  | [] => (l[l.length - 1]?).map fun d => (d, l.dropLast)
  | _ => none
theorem ms_pop {K : PySem.W.Frag} {T : Tbl} : MtS K T rPop fPop := fun Z H a l ds vs xs z l' Q s h rl rd e k => by
  unfold fPop at e
  split at e
  · cases q2 : l[l.length - 1]? with
    | none => rw [q2] at e; cases e
    | some d =>
      rw [q2] at e
      cases e
      obtain ⟨y, hy, ry⟩ := rl.get q2
      refine ⟨a, vs, y, rfl, rd, h, by rw [rl.length]; exact hy, k y _ ry ?_⟩
      rw [List.dropLast_eq_take, List.dropLast_eq_take, rl.length]
      exact rl.take _
  · cases e
section
variable {X : Cx} {T : Tbl} {xk : XK} {i : Nat} {o e : Expr} {es : List Expr} {ml : M (List D)} {apos cpos pos : Pos} {name : Str} {id : String} {r : V → List V → Hp → VK → Prop} {f : List D → List D → Option (D × List D)}
/-- x.m(e, ..), x a name that holds a list -/
theorem e_mut (slot : Slot "list" name id) (hty : typeOf (.builtin id) = pure (.type "method_descriptor")) (hm : MtR X id r) (hs : MtS X.K T r f) (ho : PE X o (tVar i)) (ha : PA X (e :: es) (rdL X.K T xk ml))
    (hbase : attributeBase o name X.env (eval o X.env) = eval o X.env := by rfl)
    (hfew : ((backTo cpos (starEach (e :: es) X.env)).all (fun x => !x.1) && (backToKw cpos (keywordEach [] X.env)).all (fun x => x.1.isSome)
      && decide ((e :: es).length + ([] : List Keyword).length + (if ([] : List Keyword).isEmpty then 0 else 1) < 30)) = true := by rfl)
    (hline : (apos.endLine == cpos.line) = true := by rfl) (hse : starEach (e :: es) X.env = (false, eval e X.env) :: starEach es X.env := by rfl) (hplain : (backTo cpos (starEach es X.env)).any (·.1) = false := by rfl) :
    PE X (.Call (.Attribute o name apos) (e :: es) [] cpos) (rdE X.K T xk (mMut i f ml)) := PE.imp (pe_bm PySem.F.plainAttrs_list slot hty hm ho ha hbase hfew hline hse hplain) (mut_rd hs)
def mMut0 (i : Nat) (f : List D → List D → Option (D × List D)) : M D := fun ρ μ => match lstAt ρ μ i with
  | none => .bad
  | some l => match f l [] with
    | none => .bad
    | some (r, l') => putAt ρ μ i l' r
theorem e_mut0 (slot : Slot "list" name id) (hty : typeOf (.builtin id) = pure (.type "method_descriptor")) (hm : MtR X id r) (hs : MtS X.K T r f) (ho : PE X o (tVar i))
    (hbase : attributeBase o name X.env (eval o X.env) = eval o X.env := by rfl) (hline : (apos.endLine == cpos.line) = true := by rfl) : PE X (.Call (.Attribute o name apos) [] [] cpos) (rdE X.K T xk (mMut0 i f)) :=
  PE.imp (pe_bm0 PySem.F.plainAttrs_list slot hty hm ho hbase hline) fun σ H Q ⟨F, Z, ρ, μ, G, A⟩ => by
    unfold mMut0 at A
    cases q : lstAt ρ μ i with
    | none => rw [q] at A; exact A.elim
    | some l =>
      rw [q] at A
      dsimp only at A
      obtain ⟨a, vs, h1, h2, h3⟩ := G.lstAt q
      cases q2 : f l [] with
      | none => rw [q2] at A; exact A.elim
      | some p =>
        obtain ⟨z, l'⟩ := p
        rw [q2] at A
        dsimp only at A
        refine ⟨.ref a, h1, .inl ⟨rfl, _, .inl (.inl h2)⟩, hs Z H a l [] vs [] z l' Q G.base.same h2 h3 rfl q2 fun v vs' rv rl => ?_⟩
        obtain ⟨ρ2, μ2, Q2, G2⟩ := G.putAt (v := v) q h1 rl A
        exact Q2 v Z _ G2 (Le.refl Z) rv
/-- x[k] = e, x a name that holds a list -/
def fSetAt : List D → List D → Option (D × List D) := fun l ds => match ds with
  | [.int k, d] => (ixN l.length k).map fun j => (.non, l.set j d)
  | _ => none
def sSetAt (i : Nat) (mk : M D) (m : M D) : MS := sOf m fun d ρ μ => match lstAt ρ μ i with
  | none => .bad
  | some _ => sOf mk (fun k ρ' μ' => match lstAt ρ' μ' i with
    | none => .bad
    | some l => match fSetAt l [k, d] with
      | none => .bad
      | some (r, l') => match putAt ρ' μ' i l' r with
        | .ok _ ρ2 μ2 => .next ρ2 μ2
        | _ => .bad) ρ μ
theorem s_setAt {k : Expr} {me mk : M D} (he : PE X e (rdE X.K T xk me)) (ho : PE X o (tVar i)) (hk : PE X k (rdE X.K T xk mk))
    (ha : ∀ v, assign (.Subscript o k apos) X.env v = (do
      let ov ← holding [v] (eval o X.env)
      let iv ← holding [v, ov] (eval k X.env)
      standAt apos
      holding [v, ov, iv] (setItem ov iv v)
      release [v, ov, iv] []) := by intro _; rfl)
    (hs : swapsWithSole [.Subscript o k apos] e pos.line X.env = pure false := by rfl) (hw : swappedStores [.Subscript o k apos] e X.env = pure none := by rfl)
    (h1 : (assignEach [.Subscript o k apos] X.env).map (·.2) = [assign (.Subscript o k apos) X.env] := by rfl) :
    PS X (.Assign [.Subscript o k apos] e pos) (rdS X.K T xk (sSetAt i mk me)) := PS.imp (ps_asg he (pg_sub ho hk set_list ha) hs hw h1) fun E σ H ⟨F, Z, ρ, μ, G, A⟩ =>
  ⟨F, Z, ρ, μ, G, (After.ofS A).imp (Le.refl Z) fun d ρ1 μ1 A1 v Z1 H1 G1 l1 r1 => by
    cases q : lstAt ρ1 μ1 i with
    | none => rw [q] at A1; exact A1.elim
    | some l0 =>
      rw [q] at A1
      obtain ⟨a, vs, h1, h2, h3⟩ := G1.lstAt q
      refine ⟨.ref a, h1, F, Z1, ρ1, μ1, G1, (After.ofS (AfterS.mono A1 l1)).imp (Le.refl Z1) fun kd ρ2 μ2 A2 kv Z2 H2 G2 l2 rk => ?_⟩
      cases q2 : lstAt ρ2 μ2 i with
      | none => rw [q2] at A2; exact A2.elim
      | some l =>
        rw [q2] at A2
        dsimp only at A2
        unfold fSetAt at A2
        cases kd with
        | int kk =>
          dsimp only at A2
          cases q3 : ixN l.length kk with
          | none => rw [q3] at A2; exact A2.elim
          | some j =>
            rw [q3] at A2
            dsimp only [Option.map_some] at A2
            obtain ⟨a', vs1, k1, k2, k3⟩ := G2.lstAt q2
            rw [h1] at k1
            cases k1
            have rl : RepL X.K T Z2 (l.set j d) (vs1.set j v) := RepL.set (Rep.mono l2 d r1) j k3
            refine ⟨a, vs1, kk, j, rfl, rk, k2, by rw [k3.length]; exact q3, ?_⟩
            have A3 : After X.K T xk F Z1 (putAt ρ2 μ2 i (l.set j d) .non) fun _ ρ3 μ3 => AfterS X.K T xk F Z1 (.next ρ3 μ3) E := by
              cases q4 : putAt ρ2 μ2 i (l.set j d) .non with
              | ok z ρ3 μ3 => rw [q4] at A2; exact A2
              | exc c dd μ3 => rw [q4] at A2; exact A2.elim
              | bad => rw [q4] at A2; exact A2.elim
            obtain ⟨ρ3, μ3, Q3, G3⟩ := G2.putAt (v := .non) q2 h1 rl A3
            exact Q3 σ Z2 _ G3 l2
        | _ => exact A2.elim⟩
end
end Pv

/-! Pv7: objects: __init__, making, fields, methods, properties; isinstance. -/
namespace Pv
open PySem L2

/-! ### fields -/
theorem zip_lookup {f : Str} : ∀ {fl : List Str} {vs : List V} {i : Nat} {v : V}, fl.Nodup → fl[i]? = some f → vs[i]? = some v → (fl.zip vs).lookup f = some v
  | [], _, i, _, _, h, _ => by simp at h
  | g :: fl, [], i, _, _, _, h => by simp at h
  | g :: fl, w :: vs, 0, v, _, h1, h2 => by
    have e1 : g = f := by simpa using h1
    have e2 : w = v := by simpa using h2
    subst e1; subst e2
    simp
  | g :: fl, w :: vs, i + 1, v, nd, h1, h2 => by
    have h1' : fl[i]? = some f := by simpa using h1
    have ne : ¬ f = g := fun z => (List.nodup_cons.mp nd).1 (z ▸ List.mem_of_getElem? h1')
    have hb : (f == g) = false := by simpa using ne
    rw [List.zip_cons_cons, List.lookup_cons, hb]
    exact zip_lookup (List.nodup_cons.mp nd).2 h1' (by simpa using h2)
theorem zip_none {f : Str} : ∀ {fl : List Str} {vs : List V}, f ∉ fl → (fl.zip vs).lookup f = none
  | [], _, _ => by simp
  | g :: fl, [], _ => by simp
  | g :: fl, w :: vs, h => by
    have ne : ¬ f = g := fun z => h (by rw [z]; exact List.mem_cons_self)
    have hb : (f == g) = false := by simpa using ne
    rw [List.zip_cons_cons, List.lookup_cons, hb]
    exact zip_none fun z => h (List.mem_cons_of_mem _ z)
theorem zip_putF {f : Str} {v : V} : ∀ {fl : List Str} {vs : List V}, fl.Nodup → fl[vs.length]? = some f → putF f v (fl.zip vs) = fl.zip (vs ++ [v])
  | [], vs, _, h => by simp at h
  | g :: fl, [], _, h => by
    have e1 : g = f := by simpa using h
    subst e1
    show putF g v [] = (g, v) :: fl.zip []
    rw [List.zip_nil_right]
    rfl
  | g :: fl, w :: vs, nd, h => by
    have h1' : fl[vs.length]? = some f := by simpa using h
    have ne : ¬ g = f := fun z => (List.nodup_cons.mp nd).1 (z ▸ List.mem_of_getElem? h1')
    show putF f v ((g, w) :: fl.zip vs) = (g, w) :: fl.zip (vs ++ [v])
    rw [← zip_putF (List.nodup_cons.mp nd).2 h1']
    show (if g = f then (g, v) :: fl.zip vs else (g, w) :: putF f v (fl.zip vs)) = _
    rw [if_neg ne]
/-- the facts of a class -/
structure ClsF (K : PySem.W.Frag) (T : Tbl) (c : Nat) : Prop where
  cl : Cls K (T.cls c)
  nd : (T.flds c).Nodup
  few : (T.flds c).length < 1000
  noat : ∀ f ∈ T.flds c, NoAttr K (T.cls c) f
/-- o.f: fx tells the place of f among the fields of a class -/
def fldD (fx : Nat → Option Nat) : D → Option D
  | .obj c l => (fx c).bind fun i => l[i]?
  | _ => none
section
variable {X : Cx} {T : Tbl} {xk : XK} {e : Expr} {f : Str} {pos : Pos} {fx : Nat → Option Nat} {ma : M Ar}
theorem e_fld (hf : ∀ c i, fx c = some i → ClsF X.K T c ∧ (T.flds c)[i]? = some f) (he : PE X e (rdA X.K T xk ma)) (hb : attributeBase e f X.env (eval e X.env) = eval e X.env := by rfl) : PE X (.Attribute e f pos) (rdE X.K T xk (mUn (fldD fx) ma)) :=
  PE.imp (pe_fld he hb) fun σ H Q h => un_rd (X := X) (r := fun x H1 Q => ∃ a C dx fs v, x = .ref a ∧ H1 a = some (.ins C dx fs) ∧ Cls X.K C ∧ NoAttr X.K C f ∧ fs.lookup f = some v ∧ Q v H1) (fun Z H d x z Q s p e o => by
    cases d with
    | obj c l =>
      unfold fldD at e
      dsimp only at e
      cases q : fx c with
      | none => rw [q] at e; cases e
      | some i =>
        rw [q] at e
        obtain ⟨F, hi⟩ := hf c i q
        obtain ⟨a, dx, vs, ea, ha, r⟩ := p.obj s
        obtain ⟨v, h1, h2⟩ := r.get (show l[i]? = some z from e)
        exact ⟨a, _, dx, _, v, ea, ha, F.cl, F.noat f (List.mem_of_getElem? hi), zip_lookup F.nd hi h1, o.at s h2⟩
    | _ => cases e) σ H Q h
end

/-! ### __init__ -/
/-- self.f = e: the n-th field of the object of class c that is being made -/
def sFldM (i c n : Nat) (m : M D) : MS := sOf m fun d ρ μ => match ρ[i]? with
  | some (some (.own (.obj c' l))) => if c' = c ∧ l.length = n then .next (ρ.set i (some (.own (.obj c (l ++ [d]))))) μ else .bad
  | _ => .bad
theorem s_fld {X : Cx} {T : Tbl} {xk : XK} {i n c : Nat} {o value : Expr} {f : Str} {pos pos' : Pos} {m : M D} (Fc : ClsF X.K T c) (hcf : (T.flds c)[n]? = some f) (ha : PE X o (tVar i)) (hv : PE X value (rdE X.K T xk m))
    (hs : swapsWith value (some (.Attribute o f pos')) pos.line X.env = pure false := by rfl) : PS X (.Assign [.Attribute o f pos'] value pos) (rdS X.K T xk (sFldM i c n m)) := PS.imp (ps_fld ha hv hs) fun E σ H ⟨F, Z, ρ, μ, G, A⟩ =>
  ⟨F, Z, ρ, μ, G, (After.ofS A).imp (Le.refl Z) fun d ρ1 μ1 q v Z1 H1 G1 l1 r1 => by
    split at q
    · rename_i c' l hi
      split at q
      · rename_i hl
        obtain ⟨rfl, hl⟩ := hl
        obtain ⟨w, g1, a, ea, ow⟩ := G1.slots.at_ i _ hi
        subst ea
        obtain ⟨dx, vs, hs, rs⟩ := ow.sh
        have hlen : vs.length = n := by rw [rs.length]; exact hl
        have hp : putF f v ((T.flds c').zip vs) = (T.flds c').zip (vs ++ [v]) := zip_putF Fc.nd (by rw [hlen]; exact hcf)
        refine ⟨.ref a, g1, a, T.cls c', dx, _, rfl, hs, Fc.cl, Fc.noat f (List.mem_of_getElem? hcf), ?_, ?_⟩
        · rw [List.length_zip]; exact Nat.lt_of_le_of_lt (Nat.min_le_left _ _) Fc.few
        · refine q σ Z1 _ (G1.mutOwn hi g1 ⟨dx, vs ++ [v], ?_, rs.append (.one r1)⟩ (fun _ _ _ => ⟨_, _, rfl⟩)) l1
          rw [upd_same, hp]
      · exact q.elim
    · exact q.elim⟩
def startI (n c : Nat) (ds : List D) : Env := some (.own (.obj c [])) :: startE (n - 1) ds
def initR : Fl → Rf
  | .next ρ μ => match ρ[0]? with
    | some (some (Sl.own (.obj c l))) => .ok (.obj c l) μ
    | _ => .bad
  | .exc c d μ => .exc c d μ
  | _ => .bad
/-- the promise of an __init__ with n parameters besides self -/
def spI (K : PySem.W.Frag) (T : Tbl) (c n : Nat) (φ : Fn) : Sp := fun vs H Q E => ∃ (H1 : Hp) (x dx : Addr) (vs' : List V) (Z : Zt) (μ : Mem) (ds : List D), vs = .ref x :: vs' ∧ ds.length = n ∧ H = upd (upd H1 dx (.own x)) x (.ins (T.cls c) dx []) ∧ H1 x = none ∧ H1 dx = none ∧ dx ≠ x ∧
  Base K T ⟨H1, Z, [], some x⟩ Z μ H1 ∧ RepL K T Z ds vs' ∧ match φ ds μ with
    | .ok d μ' => ∀ Z' H', Base K T ⟨H1, Z, [], some x⟩ Z' μ' H' → Le Z Z' → OwnAt K T ⟨H1, Z, [], some x⟩ Z' H' x d → Q .non H'
    | .exc c d μ' => Exok K T E ⟨H1, Z, [], some x⟩ Z c d μ'
    | .bad => False
theorem ok_init {P : Program} {w : World} {K : PySem.W.Frag} {mg : Str → Option Value} {base : Heap} {T : Tbl} {x qual : Str} {st : Stmt} {f : Addr} {fd : FuncData} {N ps : List Str} {s0 : Str} {k c : Nat} {m : MS} {φ : Fn} (F : Fun K x qual st f fd) (S : FnScope N (s0 :: ps) (defScope st))
    (hb : ∀ (cdv : Value) (A : Around) (outer : List PySem.Env) (s : Shared) (H : Hp) (E : XK), Room k (A.deeper (PyProof.Rows.envOfC qual (defScope st) s.heap.objs.size f cdv)) → Bd (cxOf (L2.CX P w) P w K mg base N qual (defScope st) f cdv A outer s H E) E →
      PSs (cxOf (L2.CX P w) P w K mg base N qual (defScope st) f cdv A outer s H E) (defBody st) (rdS K T E m))
    (hφ : ∀ ds μ, ds.length = ps.length → φ ds μ = .bad ∨ initR (m (startI N.length c ds) μ) = φ ds μ) : FnOk P w K mg base (L2.CX P w) (k + 1) f fd (s0 :: ps) (spI K T c ps.length φ) := by
  refine F.okX S (fun vs H Q E h => ?_) (fun cdv A outer s H vs Q E hr h => ⟨_, hb cdv A outer s H E hr ⟨?_, ?_⟩, ?_⟩)
  · obtain ⟨H1, x, dx, vs', Z, μ, ds, e, hl, _, _, _, _, _, r, _⟩ := h
    rw [e, List.length_cons, r.length, hl]; rfl
  · exact passes_call (W := fun c d _ H => E c d H) (takes_of rfl rfl rfl rfl) fun _ _ _ _ h => h
  · exact passes_of rfl
  · obtain ⟨H1, x, dx, vs', Z, μ, ds, e, hl, eH, nx, ndx, ne, b, r, A⟩ := h
    subst e
    have keep : ∀ a o, H1 a = some o → H a = some o := fun a o q => by
      rw [eH, upd_ne (ne_of_none q nx), upd_ne (ne_of_none q ndx)]; exact q
    have hx : H x = some (.ins (T.cls c) dx []) := by rw [eH, upd_same]
    have nc : x ∉ Z.et := fun h => by
      obtain ⟨n, hn⟩ := List.getElem?_of_mem h
      obtain ⟨_, _, _, vs, hv, _⟩ := b.sto n x hn
      rw [nx] at hv; cases hv
    have b' : Base K T ⟨H1, Z, [], some x⟩ Z μ H := ⟨fun a o q => keep a o (b.same a o q), b.le0, b.steal, fun a o q n => keep a o (b.keep a o q n), b.newc, b.nd, fun n a q => by
      obtain ⟨ds, h1, h2, vs, h3, h4⟩ := b.sto n a q
      exact ⟨ds, h1, h2, vs, keep a _ h3, h4⟩, b.lenm, b.pnd, fun p hp => nomatch hp⟩
    have hN : N.length ≥ 1 := by
      have := S.pre
      cases N with
      | nil => simp at this
      | cons n N => simp
    obtain ⟨n0, N', rfl⟩ : ∃ n0 N', N = n0 :: N' := by
      cases N with
      | nil => simp at hN
      | cons n N => exact ⟨n, N, rfl⟩
    have sl : Slots K T ⟨H1, Z, [], some x⟩ Z (startE N'.length ds) (L2.start N' vs') H := slots_start r
    have est : L2.start (n0 :: N') (.ref x :: vs') = some (.ref x) :: L2.start N' vs' := by
      unfold L2.start
      simp only [List.map_cons, List.cons_append, List.length_cons, Nat.add_sub_add_right]
    have eE : startI (n0 :: N').length c ds = some (.own (.obj c [])) :: startE N'.length ds := rfl
    have noown : ∀ (i : Nat) d, (startE N'.length ds)[i]? ≠ some (some (.own d)) := fun i d h => by
      unfold startE at h
      rcases List.getElem?_eq_some_iff.mp h with ⟨hi, e⟩
      have hm : some (Sl.own d) ∈ ds.map (fun d => some (Sl.val d)) ++ List.replicate (N'.length - ds.length) none := e ▸ List.getElem_mem hi
      rcases List.mem_append.mp hm with h | h
      · obtain ⟨d', _, e'⟩ := List.mem_map.mp h
        cases e'
      · have := List.eq_of_mem_replicate h
        cases this
    have G : Good K T ⟨H1, Z, [], some x⟩ Z (startI (n0 :: N').length c ds) μ (L2.start (n0 :: N') (.ref x :: vs')) H := by
      rw [est, eE]
      refine ⟨b', by rw [List.length_cons, List.length_cons, sl.len], fun i s h => ?_, fun i j d e a h1 h2 => ?_⟩
      · cases i with
        | zero =>
          cases h
          exact ⟨.ref x, rfl, x, rfl, nx, b.same.free nx, nc, (fun p hp => nomatch hp), (fun _ _ _ => rfl), dx, [], by rw [hx, List.zip_nil_right], rfl⟩
        | succ i =>
          obtain ⟨v, g1, g2⟩ := sl.at_ i s (by simpa using h)
          exact ⟨v, by simpa using g1, g2⟩
      · cases i with
        | zero =>
          cases j with
          | zero => exact fun _ _ => rfl
          | succ j => exact absurd (by simpa using h2) (noown j e)
        | succ i => exact absurd (by simpa using h1) (noown i d)
    refine ⟨⟨H1, Z, [], some x⟩, Z, startI (n0 :: N').length c ds, μ, G, ?_⟩
    rcases hφ ds μ hl with e | e
    · rw [e] at A; exact A.elim
    · rw [← e] at A
      cases q : m (startI (n0 :: N').length c ds) μ with
      | next ρ1 μ1 =>
        rw [q] at A
        intro σ' Z' H' G' l
        unfold initR at A
        dsimp only at A
        cases q0 : ρ1[0]? with
        | none => rw [q0] at A; exact A.elim
        | some o =>
          cases o with
          | none => rw [q0] at A; exact A.elim
          | some s =>
            rw [q0] at A
            cases s with
            | val d => exact A.elim
            | own d =>
              cases d with
              | obj c' l' =>
                obtain ⟨v, g1, a, ea, ow⟩ := G'.slots.at_ 0 _ q0
                have e1 : a = x := Option.some.inj ((ow.slf c' l' rfl).symm.trans rfl)
                subst e1
                exact A Z' H' G'.base l ow
              | _ => exact A.elim
      | ret d μ1 => rw [q] at A; exact A.elim
      | brk ρ1 μ1 => rw [q] at A; exact A.elim
      | cont ρ1 μ1 => rw [q] at A; exact A.elim
      | exc c d μ1 => rw [q] at A; exact A
      | bad => rw [q] at A; exact A.elim
/-! ### making -/
theorem Base.slf {K : PySem.W.Frag} {T : Tbl} {H0 : Hp} {Z0 Z : Zt} {p : List (Addr × HO)} {s s' : Option Addr} {μ : Mem} {H : Hp} (b : Base K T ⟨H0, Z0, p, s⟩ Z μ H) : Base K T ⟨H0, Z0, p, s'⟩ Z μ H :=
  ⟨b.same, b.le0, b.steal, b.keep, b.newc, b.nd, b.sto, b.lenm, b.pnd, b.pend⟩
def mMake (n : Nat) (φ : Fn) (ml : M (List D)) : M D := bnd ml fun ds ρ μ => if ds.length = n then liftF (φ ds μ) ρ μ else .bad
section
variable {X : Cx} {T : Tbl} {xk : XK} {k n c : Nat} {f C : Addr} {fd : FuncData} {ps : List Str} {φ : Fn} {x : Str} {p pos : Pos} {e : Expr} {es : List Expr} {ml : M (List D)}
theorem e_make (hC : C = T.cls c) (Mk : Mk X.K C f) (G : FnOk X.prog X.w X.K X.mg X.base (L2.CX X.prog X.w) k f fd ps (spI X.K T c n φ)) (hr : Room (k + 1) X.A) (hg : Gl X x) (hm : X.mg x = some (.ref C)) (hb : Binds X.K fd ps []) (hx : Passes (L2.CX X.prog X.w) X xk)
    (ha : PA X (e :: es) (rdL X.K T xk ml)) (hdb : (x == ("__debug__" : Str)) = false := by decide) (he : starEach (e :: es) X.env = (false, eval e X.env) :: starEach es X.env := by rfl) (hpl : (backTo pos (starEach es X.env)).any (·.1) = false := by rfl) :
    PE X (.Call (.Name x p) (e :: es) [] pos) (rdE X.K T xk (mMake n φ ml)) := PE.imp (pe_make Mk G hr hg hm hb .nil hx ha hdb he hpl) fun σ H Q ⟨F, Z, ρ, μ, G, A⟩ =>
  ⟨F, Z, ρ, μ, G, A.bnd.imp (Le.refl Z) fun ds ρ1 μ1 q vs Z1 H1 G1 l1 r1 => fun y dx ny ndx ne => by
    subst hC
    by_cases hn : ds.length = n
    · simp only [if_pos hn] at q
      refine ⟨H1, y, dx, vs ++ [], Z1, μ1, ds, rfl, hn, rfl, ny, ndx, ne, G1.base.entry.slf, by rw [List.append_nil]; exact r1, ?_⟩
      unfold liftF at q
      cases qq : φ ds μ1 with
      | ok d μ2 =>
        rw [qq] at q
        intro Z' H' b l2 ow
        refine ⟨rfl, ?_⟩
        have G2 : Good X.K T F Z' ρ1 μ2 σ H' := G1.after b.slf
        have b1 := G1.base
        obtain ⟨o, ho⟩ := ow.sh.there
        have n0 : F.H0 y = none := by
          cases q0 : F.H0 y with
          | none => rfl
          | some u =>
            by_cases hc : y ∈ F.Z0.et
            · obtain ⟨m, hm⟩ := List.getElem?_of_mem hc
              obtain ⟨_, _, _, ws, hv, _⟩ := b1.sto m y (b1.le0.et m y hm)
              rw [ny] at hv; cases hv
            · rw [b1.keep y u q0 hc] at ny; cases ny
        have np : ∀ q ∈ F.pend, q.1 ≠ y := fun q hq => ne_of_none (b1.pend q hq).1 ny
        have ap : ∀ (j : Nat) e, ρ1[j]? = some (some (.own e)) → σ[j]? ≠ some (some (.ref y)) := fun j e h1 h2 => by
          obtain ⟨v, g1, a, ea, w⟩ := G1.slots.at_ j _ h1
          rw [h2] at g1
          have e1 : v = .ref y := by cases g1; rfl
          have e2 : a = y := by rw [e1] at ea; cases ea; rfl
          obtain ⟨u, hu⟩ := w.sh.there
          rw [e2, ny] at hu; cases hu
        have G3 : Good X.K T F (Z'.put y o) ρ1 μ2 σ H' := by
          refine ⟨G2.base.freeze ho n0 ow.free ow.nocell np, G2.slots.len, fun i s h => ?_, G2.slots.apart⟩
          obtain ⟨v, h1, h2⟩ := G2.slots.at_ i s h
          refine ⟨v, h1, ?_⟩
          cases s with
          | val d' => exact Rep.mono (le_put ow.free) d' h2
          | own d' =>
            obtain ⟨b', eb, ob⟩ := h2
            refine ⟨b', eb, ob.freeze ow.free fun z => ?_⟩
            subst z; subst eb
            exact ap i d' h h1
        exact q (.ref y) (Z'.put y o) H' G3 ((l1.trans l2).trans (le_put ow.free)) (ow.rep ho)
      | exc c' d μ2 => rw [qq] at q; exact fun Z' H' dx' v b l2 e rv => q Z' H' dx' v (G1.base.after b.slf) (l1.trans l2) e rv
      | bad => rw [qq] at q; exact q
    · simp only [if_neg hn] at q; exact q.elim⟩

/-! ### methods, properties -/
def isObjC (c : Nat) : D → Bool
  | .obj c' _ => c' == c
  | _ => false
/-- o.m(e, ..), o's class known -/
def mMeth (c n : Nat) (φ : Fn) (mo : M D) (ml : M (List D)) : M D := bnd mo fun d => if isObjC c d then bnd ml fun ds ρ μ => if (d :: ds).length = n then liftF (φ (d :: ds) μ) ρ μ else .bad else fun _ _ => .bad
theorem e_meth {o : Expr} {m : Str} {apos : Pos} {mo : M D} {pl : Sem Bool} (hC : C = T.cls c) (he : PE X o (rdE X.K T xk mo)) (cl : Cls X.K C) (hm : Meth X.K C m f) (hnf : m ∉ T.flds c) (G : FnOk X.prog X.w X.K X.mg X.base (L2.CX X.prog X.w) k f fd ps (spD X.K T n φ)) (hr : Room k X.A) (hb : Binds X.K fd ps []) (hx : Passes (L2.CX X.prog X.w) X xk) (ha : PA X (e :: es) (rdL X.K T xk ml))
    (hst : starEach (e :: es) X.env = (false, eval e X.env) :: starEach es X.env := by rfl) (hpl : (backTo pos (starEach es X.env)).any (·.1) = false := by rfl)
    (ht : eval (.Call (.Attribute o m apos) (e :: es) [] pos) X.env = (do
      let ov ← eval o X.env
      standAt apos.atName
      let (f, first) ← holding [ov] (getMethod ov m pl)
      callWith pos f first (backTo pos (starEach (e :: es) X.env)) (backToKw pos (keywordEach [] X.env))) := by rfl) :
    PE X (.Call (.Attribute o m apos) (e :: es) [] pos) (rdE X.K T xk (mMeth c n φ mo ml)) := PE.imp (pe_meth he cl hm G hr hb .nil hx ha hst hpl ht) fun σ H Q ⟨F, Z, ρ, μ, G, A⟩ =>
  ⟨F, Z, ρ, μ, G, A.bnd.imp (Le.refl Z) fun d ρ1 μ1 q v Z1 H1 G1 l1 r1 => by
    cases hd : isObjC c d with
    | false => rw [hd] at q; exact q.elim
    | true =>
      rw [hd, if_pos rfl] at q
      cases d with
      | obj c' l =>
        have ec : c' = c := by simpa [isObjC] using hd
        subst ec
        obtain ⟨a, dx, vs, ea, ha, r⟩ := id r1
        refine ⟨a, dx, _, ea, by rw [hC]; exact G1.base.same _ _ ha, zip_none hnf, F, Z1, ρ1, μ1, G1, (After.imp q l1 fun _ _ _ q => q).bnd.imp (Le.refl Z1) fun ds ρ2 μ2 q2 ws Z2 H2 G2 l2 r2 => ?_⟩
        show spD X.K T n φ (v :: (ws ++ [])) H2 Q xk
        rw [List.append_nil]
        exact call_rd (ds := .obj c' l :: ds) (Z := Z1) G2 ⟨v, ws, rfl, Rep.mono l2 _ r1, r2⟩ l2 (After.imp q2 (Le.refl Z1) fun d ρ' μ' qq v' Z' H' G' l' => qq v' Z' H' G' (l1.trans l'))
      | _ => exact absurd hd (by simp [isObjC])⟩
/-- e.f, a property -/
def mProp (c : Nat) (φ : Fn) (mo : M D) : M D := bnd mo fun d => if isObjC c d then fun ρ μ => liftF (φ [d] μ) ρ μ else fun _ _ => .bad
theorem e_prop {o : Expr} {m : Str} {pr : Addr} {mo : M D} (hC : C = T.cls c) (he : PE X o (rdE X.K T xk mo)) (cl : Cls X.K C) (hp : PropOf X.K C m pr f) (G : FnOk X.prog X.w X.K X.mg X.base (L2.CX X.prog X.w) k f fd ps (spD X.K T 1 φ)) (hr : Room (k + 1) X.A) (hb : Binds X.K fd ps [])
    (hno : ∀ d μ c' d' μ', φ [d] μ ≠ .exc c' d' μ') (hab : attributeBase o m X.env (eval o X.env) = eval o X.env := by rfl) : PE X (.Attribute o m pos) (rdE X.K T xk (mProp c φ mo)) :=
  PE.imp (pe_prop (E := E0) he cl hp G hr hb .nil passL hab) fun σ H Q ⟨F, Z, ρ, μ, G, A⟩ =>
  ⟨F, Z, ρ, μ, G, A.bnd.imp (Le.refl Z) fun d ρ1 μ1 q v Z1 H1 G1 l1 r1 => by
    cases hd : isObjC c d with
    | false => rw [hd] at q; exact q.elim
    | true =>
      rw [hd, if_pos rfl] at q
      cases d with
      | obj c' l =>
        have ec : c' = c := by simpa [isObjC] using hd
        subst ec
        obtain ⟨a, dx, vs, ea, ha, r⟩ := id r1
        refine ⟨a, dx, _, ea, by rw [hC]; exact G1.base.same _ _ ha, Z1, μ1, [.obj c' l], rfl, G1.base.entry, ⟨v, [], by rw [ea], r1, rfl⟩, ?_⟩
        unfold liftF at q
        cases qq : φ [.obj c' l] μ1 with
        | ok d μ2 => rw [qq] at q; exact fun v Z' H' b l2 rv => q v Z' H' (G1.after b) (l1.trans l2) rv
        | exc c2 d2 μ2 => exact absurd qq (hno _ _ _ _ _)
        | bad => rw [qq] at q; exact q
      | _ => exact absurd hd (by simp [isObjC])⟩
end
end Pv

/-! Pv8: operators and built-ins over data. -/
namespace Pv
open PySem L2

/-! ### + - * // % ** -/
def wide (i : Int) : Bool := decide (i.natAbs < 2 ^ 1100000)
def fits (n : Nat) : Bool := decide (n ≤ sizeLine)
def addD : D → D → Option D
  | .int a, .int b => some (.int (a + b))
  | .str a, .str b => if fits (a.length + b.length) then some (.str (a ++ b)) else none
  | .tup a, .tup b => if fits (a.length + b.length) then some (.tup (a ++ b)) else none
  | .lst a, .lst b => if fits (a.length + b.length) then some (.lst (a ++ b)) else none
  | _, _ => none
def rAddA (K : PySem.W.Frag) : R2 := fun x y H Q => (rI0 fun i j => .int (i + j)) x y H Q ∨ (∃ i j, x = .str i ∧ y = .str j ∧ i.length + j.length ≤ sizeLine ∧ Q (.str (i ++ j)) H) ∨ rCatA K x y H Q ∨ rCat x y H Q
theorem or_add {X : Cx} : OpR X (binaryOp .Add) (rAddA X.K) := OpR.or op_add (OpR.or op_add_str (OpR.or op_catA op_cat))
theorem fits_of {n : Nat} (h : fits n = true) : n ≤ sizeLine := of_decide_eq_true h
theorem os_add {K : PySem.W.Frag} {T : Tbl} : OpS K T (rAddA K) addD := fun Z H d e x y z Q s p q h o => by
  unfold addD at h
  split at h
  · cases h
    exact .inl ⟨_, _, p.int, q.int, o.at s rfl⟩
  · split at h
    · rename_i hf
      cases h
      exact .inr (.inl ⟨_, _, p.str, q.str, fits_of hf, o.at s rfl⟩)
    · cases h
  · split at h
    · rename_i a b hf
      cases h
      obtain ⟨a1, vs, e1, h1, r1⟩ := p.tup s
      obtain ⟨a2, ws, e2, h2, r2⟩ := q.tup s
      refine .inr (.inr (.inl ⟨a1, a2, vs, ws, e1, e2, h1, h2, by rw [r1.length, r2.length]; exact fits_of hf, fun e => ?_, fun _ e => ?_, fun _ _ => o.tup s (r1.append r2)⟩))
      · subst e
        have ea : a = [] := by
          cases a with
          | nil => rfl
          | cons d l => obtain ⟨_, _, z, _⟩ := r1; cases z
        subst ea
        rcases q with q | ⟨_, _, q⟩
        · rw [← e2]; exact o.at s q
        · exact q.elim
      · subst e
        have ea : b = [] := by
          cases b with
          | nil => rfl
          | cons d l => obtain ⟨_, _, z, _⟩ := r2; cases z
        subst ea
        rcases p with p | ⟨_, _, p⟩
        · rw [← e1]
          rw [List.append_nil] at o
          exact o.at s p
        · exact p.elim
    · cases h
  · split at h
    · rename_i hf
      cases h
      obtain ⟨a1, vs, e1, h1, r1⟩ := p.lst s
      obtain ⟨a2, ws, e2, h2, r2⟩ := q.lst s
      exact .inr (.inr (.inr ⟨a1, a2, vs, ws, e1, e2, h1, h2, by rw [r1.length, r2.length]; exact fits_of hf, o.lst s (r1.append r2)⟩))
    · cases h
  · cases h
/-- an operation of two ints that makes an int -/
def iiD (C : Int → Int → Bool) (f : Int → Int → Int) : D → D → Option D
  | .int a, .int b => if C a b then some (.int (f a b)) else none
  | _, _ => none
theorem os_ii {K : PySem.W.Frag} {T : Tbl} {C : Int → Int → Prop} {Cb : Int → Int → Bool} {f : Int → Int → Int} (hC : ∀ a b, Cb a b = true → C a b) : OpS K T (rI C fun i j => .int (f i j)) (iiD Cb f) := fun Z H d e x y z Q s p q h o => by
  unfold iiD at h
  split at h
  · split at h
    · rename_i a b hc
      cases h
      exact ⟨a, b, p.int, q.int, hC a b hc, o.at s rfl⟩
    · cases h
  · cases h
theorem os_ii0 {K : PySem.W.Frag} {T : Tbl} {f : Int → Int → Int} : OpS K T (rI0 fun i j => .int (f i j)) (iiD (fun _ _ => true) f) := fun Z H d e x y z Q s p q h o => by
  unfold iiD at h
  split at h
  · cases h
    exact ⟨_, _, p.int, q.int, o.at s rfl⟩
  · cases h
def subD : D → D → Option D := iiD (fun _ _ => true) fun a b => a - b
def cMul (a b : Int) : Bool := decide (a.natAbs < 2 ^ 60000 ∧ b.natAbs < 2 ^ 60000)
def mulD : D → D → Option D := iiD cMul fun a b => a * b
def cDiv (_ b : Int) : Bool := decide (0 < b ∧ b.natAbs < 2 ^ 8000)
def fdivD : D → D → Option D := iiD cDiv fun a b => a / b
def cMod (_ b : Int) : Bool := decide (0 < b)
def modD : D → D → Option D := iiD cMod fun a b => a % b
def cPow (a b : Int) : Bool := decide (0 ≤ b ∧ b ≤ 100 ∧ a.natAbs < 2 ^ 60000)
def powD : D → D → Option D := iiD cPow fun a b => a ^ b.toNat
section
variable {X : Cx} {K : PySem.W.Frag} {T : Tbl}
theorem os_sub : OpS K T (rI0 fun i j => .int (i - j)) subD := os_ii0
theorem os_mul : OpS K T (rI CMulX fun i j => .int (i * j)) mulD := os_ii fun a b h => mulx_ok (of_decide_eq_true h).1 (of_decide_eq_true h).2 (by decide)
theorem os_fdiv : OpS K T (rI CDivW fun i j => .int (i / j)) fdivD := os_ii fun a b h => wide_div (of_decide_eq_true h).1 (of_decide_eq_true h).2 (by decide) (by decide)
theorem os_mod : OpS K T (rI (fun _ j => 0 < j) fun i j => .int (i % j)) modD := os_ii fun a b h => of_decide_eq_true h
def CPowX (i j : Int) : Prop := 0 ≤ j ∧ (Builtin.Int.intBits i : Int) * j ≤ 2 ^ 27
theorem op_powX : OpR X (binaryOp .Pow) (rI CPowX fun i j => .int (i ^ j.toNat)) := opI fun _ _ _ _ _ _ _ hc q => PyProof.Rows.pow_int hc.1 hc.2 q
theorem os_pow : OpS K T (rI CPowX fun i j => .int (i ^ j.toNat)) powD := os_ii fun a b h => by
  obtain ⟨h1, h2, h3⟩ := of_decide_eq_true h
  refine ⟨h1, ?_⟩
  have h4 : (Builtin.Int.intBits a : Int) ≤ 60000 := by
    have := PyProof.Rows.intBits_le h3
    omega
  have h5 : (Builtin.Int.intBits a : Int) * b ≤ 60000 * 100 := Int.mul_le_mul h4 h2 h1 (by decide)
  have h6 : (60000 * 100 : Int) ≤ 2 ^ 27 := by decide
  exact Int.le_trans h5 h6
end
/-! ### comparisons of ints -/
def ibD (f : Int → Int → Bool) : D → D → Option D
  | .int a, .int b => some (.bl (f a b))
  | _, _ => none
theorem os_ib {K : PySem.W.Frag} {T : Tbl} {f : Int → Int → Bool} : OpS K T (rI0 fun i j => .bl (f i j)) (ibD f) := fun Z H d e x y z Q s p q h o => by
  unfold ibD at h
  split at h
  · cases h
    exact ⟨_, _, p.int, q.int, o.at s rfl⟩
  · cases h
def ltD : D → D → Option D := ibD fun i j => decide (i < j)
def leD : D → D → Option D := ibD fun i j => decide (i ≤ j)
def gtD : D → D → Option D := ibD fun i j => decide (j < i)
def geD : D → D → Option D := ibD fun i j => decide (j ≤ i)
/-! ### is None -/
def isND : D → D → Option D := fun d e => match e with
  | .non => match d with
    | .non => some (.bl true)
    | .frl _ => none
    | _ => some (.bl false)
  | _ => none
def notND : D → D → Option D := fun d e => match e with
  | .non => match d with
    | .non => some (.bl false)
    | .frl _ => none
    | _ => some (.bl true)
  | _ => none
theorem Pk.nonon {K : PySem.W.Frag} {T : Tbl} {Z : Zt} {H : Hp} {d : D} {v : V} (h : Pk K T Z H d v) (hd : d ≠ .non) : v ≠ .non := by
  rcases h with h | ⟨a, e, h⟩
  · cases d with
    | non => exact absurd rfl hd
    | bl b => intro z; rw [z] at h; cases h
    | int i => intro z; rw [z] at h; cases h
    | str i => intro z; rw [z] at h; cases h
    | tup l => obtain ⟨_, _, e, _⟩ := h; rw [e]; intro z; cases z
    | lst l => obtain ⟨_, _, e, _⟩ := h; rw [e]; intro z; cases z
    | frl l => obtain ⟨_, e, _⟩ := h; rw [e]; intro z; cases z
    | dK l => obtain ⟨_, _, e, _⟩ := h; rw [e]; intro z; cases z
    | dT l => obtain ⟨_, _, e, _⟩ := h; rw [e]; intro z; cases z
    | obj c l => obtain ⟨_, _, _, e, _⟩ := h; rw [e]; intro z; cases z
    | ref n => obtain ⟨_, e, _⟩ := h; rw [e]; intro z; cases z
    | exc c d => obtain ⟨_, _, _, e, _⟩ := h; rw [e]; intro z; cases z
  · rw [e]; intro z; cases z
theorem os_isN {K : PySem.W.Frag} {T : Tbl} : OpS K T (fun x y H Q => y = .non ∧ Q (.bl (decide (x = .non))) H) isND := fun Z H d e x y z Q s p q h o => by
  unfold isND at h
  split at h
  · refine ⟨q.non, ?_⟩
    split at h
    · cases h
      rw [p.non]; exact o.at s rfl
    · cases h
    · rename_i h1 _
      cases h
      rw [decide_eq_false (p.nonon h1)]; exact o.at s rfl
  · cases h
theorem os_notN {K : PySem.W.Frag} {T : Tbl} : OpS K T (fun x y H Q => y = .non ∧ Q (.bl (!decide (x = .non))) H) notND := fun Z H d e x y z Q s p q h o => by
  unfold notND at h
  split at h
  · refine ⟨q.non, ?_⟩
    split at h
    · cases h
      rw [p.non]; exact o.at s rfl
    · cases h
    · rename_i h1 _
      cases h
      rw [decide_eq_false (p.nonon h1)]; exact o.at s rfl
  · cases h
/-! ### == of data -/
mutual
def toP : D → Option PyData
  | .non => some .none
  | .bl b => some (.bool b)
  | .int i => some (.int i)
  | .str s => some (.str s)
  | .tup l => (toPL l).map .tuple
  | .lst l => (toPL l).map .list
  | _ => none
def toPL : List D → Option (List PyData)
  | [] => some []
  | d :: ds => match toP d with
    | none => none
    | some p => match toPL ds with
      | none => none
      | some ps => some (p :: ps)
end
mutual
theorem rep_dp {K : PySem.W.Frag} {T : Tbl} {Z : Zt} : ∀ (d : D) {p : PyData} {v : V}, toP d = some p → Rep K T Z d v → Dp K Z.hp v p
  | .non, _, _, e, r => by cases e; rw [show _ = V.non from r]; exact .non
  | .bl b, _, _, e, r => by cases e; rw [show _ = V.bl b from r]; exact .bl b
  | .int b, _, _, e, r => by cases e; rw [show _ = V.int b from r]; exact .int b
  | .str b, _, _, e, r => by cases e; rw [show _ = V.str b from r]; exact .str b
  | .tup l, p, _, e, ⟨a, vs, ev, h, r⟩ => by
    simp only [toP, Option.map_eq_some_iff] at e
    obtain ⟨ps, e1, e2⟩ := e
    subst e2; subst ev
    exact .tup h (rep_dpL l e1 r)
  | .lst l, p, _, e, ⟨a, vs, ev, h, r⟩ => by
    simp only [toP, Option.map_eq_some_iff] at e
    obtain ⟨ps, e1, e2⟩ := e
    subst e2; subst ev
    exact .lst (.of h) (rep_dpL l e1 r)
  | .frl _, _, _, e, _ => by cases e
  | .dK _, _, _, e, _ => by cases e
  | .dT _, _, _, e, _ => by cases e
  | .obj _ _, _, _, e, _ => by cases e
  | .ref _, _, _, e, _ => by cases e
theorem rep_dpL {K : PySem.W.Frag} {T : Tbl} {Z : Zt} : ∀ (ds : List D) {ps : List PyData} {vs : List V}, toPL ds = some ps → RepL K T Z ds vs → DpAll K Z.hp vs ps
  | [], _, _, e, r => by cases e; rw [show _ = [] from r]; exact .nil
  | d :: ds, _, _, e, ⟨v, vs, ev, r1, r2⟩ => by
    simp only [toPL] at e
    cases q1 : toP d with
    | none => rw [q1] at e; cases e
    | some p =>
      rw [q1] at e
      dsimp only at e
      cases q2 : toPL ds with
      | none => rw [q2] at e; cases e
      | some ps =>
        rw [q2] at e
        cases e
        subst ev
        exact .cons (rep_dp d q1 r1) (rep_dpL ds q2 r2)
end
def shapedD (d : D) : Option PyData := (toP d).bind fun p => if SeqAt.shaped p then some p else none
theorem shapedD_ok {d : D} {p : PyData} (h : shapedD d = some p) : toP d = some p ∧ SeqAt.shaped p = true := by
  unfold shapedD at h
  cases q : toP d with
  | none => rw [q] at h; cases h
  | some p' =>
    rw [q] at h
    simp only [Option.bind_some] at h
    split at h
    · cases h; exact ⟨rfl, by assumption⟩
    · cases h
def eqD : D → D → Option D := fun d e => (shapedD d).bind fun p => (shapedD e).map fun q => .bl (PyData.eqv p q)
def neD : D → D → Option D := fun d e => (shapedD d).bind fun p => (shapedD e).map fun q => .bl (!PyData.eqv p q)
theorem os_eq {K : PySem.W.Frag} {T : Tbl} : OpS K T (rEqD K) eqD := fun Z H d e x y z Q s p q h o => by
  unfold eqD at h
  cases h1 : shapedD d with
  | none => rw [h1] at h; cases h
  | some a =>
    cases h2 : shapedD e with
    | none => rw [h1, h2] at h; cases h
    | some b =>
      rw [h1, h2] at h
      cases h
      obtain ⟨t1, s1⟩ := shapedD_ok h1
      obtain ⟨t2, s2⟩ := shapedD_ok h2
      exact ⟨a, b, rep_dp d t1 (p.full s), rep_dp e t2 (q.full s), s1, s2, o.at s rfl⟩
theorem os_ne {K : PySem.W.Frag} {T : Tbl} : OpS K T (rNeD K) neD := fun Z H d e x y z Q s p q h o => by
  unfold neD at h
  cases h1 : shapedD d with
  | none => rw [h1] at h; cases h
  | some a =>
    cases h2 : shapedD e with
    | none => rw [h1, h2] at h; cases h
    | some b =>
      rw [h1, h2] at h
      cases h
      obtain ⟨t1, s1⟩ := shapedD_ok h1
      obtain ⟨t2, s2⟩ := shapedD_ok h2
      exact ⟨a, b, rep_dp d t1 (p.full s), rep_dp e t2 (q.full s), s1, s2, o.at s rfl⟩
end Pv

/-! Pv9: items, slices, in, calls of built-ins. -/
namespace Pv
open PySem L2

/-! ### items -/
def ixD : D → D → Option D
  | .lst l, .int i => atI l i
  | .tup l, .int i => atI l i
  | .frl l, .int i => (atI l i).map .int
  | .str z, .int i => if fits z.length then (atI z.cps.toList i).map fun c => .str ⟨#[c]⟩ else none
  | _, _ => none
theorem atI_rep {K : PySem.W.Frag} {T : Tbl} {Z : Zt} {l : List D} {vs : List V} {i : Int} {d : D} (r : RepL K T Z l vs) (h : atI l i = some d) : ∃ v, atI vs i = some v ∧ Rep K T Z d v := by
  unfold atI at h ⊢
  rw [r.length]
  cases q : ixN l.length i with
  | none => rw [q] at h; cases h
  | some j =>
    rw [q] at h
    exact r.get h
theorem atI_map {α β : Type} (f : α → β) (l : List α) (i : Int) : atI (l.map f) i = (atI l i).map f := by
  unfold atI
  rw [List.length_map]
  cases ixN l.length i with
  | none => rfl
  | some j => simp
theorem os_ix {K : PySem.W.Frag} {T : Tbl} : OpS K T (rIx K) ixD := fun Z H d e x y z Q s p q h o => by
  unfold ixD at h
  split at h
  · rename_i l i
    obtain ⟨a, vs, e1, h1, r1⟩ := p.lst s
    obtain ⟨v, hv, rv⟩ := atI_rep r1 h
    exact .inl ⟨a, vs, i, v, e1, q.int, .of h1, hv, o.at s rv⟩
  · rename_i l i
    obtain ⟨a, vs, e1, h1, r1⟩ := p.tup s
    obtain ⟨v, hv, rv⟩ := atI_rep r1 h
    exact .inr (.inl ⟨a, vs, i, v, e1, q.int, h1, hv, o.at s rv⟩)
  · rename_i l i
    obtain ⟨a, e1, h1⟩ := p.frl s
    cases q1 : atI l i with
    | none => rw [q1] at h; cases h
    | some n =>
      rw [q1] at h
      cases h
      exact .inl ⟨a, _, i, .int n, e1, q.int, h1, by rw [atI_map, q1]; rfl, o.at s rfl⟩
  · split at h
    · rename_i z i hf
      cases q1 : atI z.cps.toList i with
      | none => rw [q1] at h; cases h
      | some c =>
        rw [q1] at h
        cases h
        exact .inr (.inr ⟨z, i, c, p.str, q.int, fits_of hf, q1, o.at s rfl⟩)
    · cases h
  · cases h
theorem e_ix {X : Cx} {T : Tbl} {xk : XK} {a b : Expr} {ma mb : M Ar} {pos : Pos} (ha : PE X a (rdA X.K T xk ma)) (hb : PE X b (rdA X.K T xk mb)) (hs : PlainIx b) : PE X (.Subscript a b pos) (rdE X.K T xk (mBin ixD ma mb)) :=
  PE.imp (pe_ix ix_seq ha hb hs) (bin_rd os_ix)
/-! ### slices -/
def cutD (xs : List D) (lo hi : Option Int) : List D := (xs.drop (HT.sIx xs.length 0 lo)).take (HT.sIx xs.length xs.length hi - HT.sIx xs.length 0 lo)
theorem cut_rep {K : PySem.W.Frag} {T : Tbl} {Z : Zt} {l : List D} {vs : List V} (r : RepL K T Z l vs) (lo hi : Option Int) : RepL K T Z (cutD l lo hi) (cutV vs lo hi) := by
  unfold cutD cutV
  rw [r.length]
  exact (r.drop _).take _
/-- the bounds of a slice: names or values that are ints -/
def moNone : M (Option Ar) := ret none
def moSome (m : M Ar) : M (Option Ar) := bnd m fun x => ret (some x)
def rdO (K : PySem.W.Frag) (T : Tbl) (xk : XK) (m : M (Option Int)) : TO := fun σ H Q => ∃ F Z ρ μ, Good K T F Z ρ μ σ H ∧ After K T xk F Z (m ρ μ) fun o ρ' μ' => ∀ Z' H', Good K T F Z' ρ' μ' σ H' → Le Z Z' → Q o H'
def poN : M (Option Int) := ret none
def poS (m : M D) : M (Option Int) := bnd m fun d => match d with
  | .int i => ret (some i)
  | _ => fun _ _ => .bad
theorem PO.imp {X : Cx} {e : Option Expr} {t t' : TO} (h : PO X e t) (i : ∀ σ H Q, t' σ H Q → t σ H Q) : PO X e t' := ⟨fun pins s σ H Q I hw => h.run pins s σ H Q I (i σ H Q hw)⟩
section
variable {X : Cx} {T : Tbl} {xk : XK} {e : Expr} {m : M D}
theorem o_none : PO X none (rdO X.K T xk poN) := PO.imp po_none fun σ H Q ⟨F, Z, ρ, μ, G, A⟩ => A Z H G (Le.refl Z)
theorem o_some (h : PE X e (rdE X.K T xk m)) : PO X (some e) (rdO X.K T xk (poS m)) := PO.imp (po_some h) fun σ H Q ⟨F, Z, ρ, μ, G, A⟩ =>
  ⟨F, Z, ρ, μ, G, A.bnd.imp (Le.refl Z) fun d ρ1 μ1 A1 v Z1 H1 G1 l1 r1 => by
    cases d with
    | int i => exact ⟨i, r1, A1 Z1 H1 G1 l1⟩
    | _ => exact A1.elim⟩
end
def sliceD : D → Option Int → Option Int → Option D
  | .lst l, lo, hi => some (.lst (cutD l lo hi))
  | .tup l, lo, hi => some (.tup (cutD l lo hi))
  | .str z, lo, hi => if fits z.length then some (.str (cutS z lo hi)) else none
  | _, _, _ => none
def mSlice (ma : M Ar) (ml mh : M (Option Int)) : M D := bnd ma fun x => bnd ml fun lo => bnd mh fun hi => fun ρ μ => match pk x ρ μ with
  | some d => opt (sliceD d lo hi) ρ μ
  | none => .bad
def rSlAll (K : PySem.W.Frag) : V → Option Int → Option Int → Hp → VK → Prop := fun x lo hi H Q => rSlL K x lo hi H Q ∨ rSlA K x lo hi H Q ∨ (∃ z, x = .str z ∧ z.length ≤ sizeLine ∧ Q (.str (cutS z lo hi)) H)
theorem whole_cut {K : PySem.W.Frag} {T : Tbl} {Z : Zt} {l : List D} {vs : List V} (r : RepL K T Z l vs) {lo hi : Option Int} (h : HT.sIx vs.length 0 lo = 0 ∧ HT.sIx vs.length vs.length hi = vs.length) : cutD l lo hi = l := by
  unfold cutD
  rw [← r.length, h.1, h.2, List.drop_zero, Nat.sub_zero, r.length, List.take_length]
section
variable {X : Cx} {T : Tbl} {xk : XK} {e : Expr} {lo hi : Option Expr} {ma : M Ar} {ml mh : M (Option Int)} {pos p2 : Pos}
theorem e_slice (hstr : SlR X (fun x lo hi H Q => ∃ z, x = .str z ∧ z.length ≤ sizeLine ∧ Q (.str (cutS z lo hi)) H)) (he : PE X e (rdA X.K T xk ma)) (hl : PO X lo (rdO X.K T xk ml)) (hu : PO X hi (rdO X.K T xk mh)) : PE X (.Subscript e (.Slice lo hi none p2) pos) (rdE X.K T xk (mSlice ma ml mh)) :=
  PE.imp (pe_slice (SlR.or sl_list (SlR.or sl_tupA hstr)) he hl hu) fun σ H Q ⟨F, Z, ρ, μ, G, A⟩ =>
  ⟨F, Z, ρ, μ, G, A.bnd.imp (Le.refl Z) fun x ρ1 μ1 A1 v1 Z1 H1 G1 l1 r1 => ⟨F, Z1, ρ1, μ1, G1, (A1.imp l1 fun _ _ _ q => q).bnd.imp (Le.refl Z1) fun lo' ρ2 μ2 A2 Z2 H2 G2 l2 => ⟨F, Z2, ρ2, μ2, G2, (A2.imp l2 fun _ _ _ q => q).bnd.imp (Le.refl Z2) fun hi' ρ3 μ3 A3 Z3 H3 G3 l3 => by
    cases e1 : pk x ρ3 μ3 with
    | none => rw [e1] at A3; exact A3.elim
    | some d =>
      rw [e1] at A3
      dsimp only at A3
      have p := pk_ok G3 (r1.mono (l2.trans l3)) e1
      have s := G3.base.same
      have lz := (l1.trans l2).trans l3
      cases d with
      | lst l =>
        obtain ⟨a, vs, ea, h1, rl⟩ := p.lst s
        have o : Out X.K T Z3 H3 (.lst (cutD l lo' hi')) Q := fun v Z' H' g rz => A3 v Z' H' (G3.grow g) (lz.trans (g.le s)) rz
        exact .inl ⟨a, vs, ea, .of h1, o.lst s (cut_rep rl lo' hi')⟩
      | tup l =>
        obtain ⟨a, vs, ea, h1, rl⟩ := p.tup s
        have o : Out X.K T Z3 H3 (.tup (cutD l lo' hi')) Q := fun v Z' H' g rz => A3 v Z' H' (G3.grow g) (lz.trans (g.le s)) rz
        refine .inr (.inl ⟨a, vs, ea, h1, fun hw => ?_, fun _ => o.tup s (cut_rep rl lo' hi')⟩)
        rw [whole_cut rl hw] at o
        rcases p with p | ⟨_, _, p⟩
        · rw [← ea]; exact o.at s p
        · exact p.elim
      | str z =>
        unfold sliceD at A3
        dsimp only at A3
        by_cases hf : fits z.length = true
        · rw [if_pos hf] at A3
          have o : Out X.K T Z3 H3 (.str (cutS z lo' hi')) Q := fun v Z' H' g rz => A3 v Z' H' (G3.grow g) (lz.trans (g.le s)) rz
          exact .inr (.inr ⟨z, p.str, fits_of hf, o.at s rfl⟩)
        · rw [if_neg hf] at A3; exact A3.elim
      | _ => exact A3.elim⟩⟩⟩
end
/-! ### in, not in: flat things in a list or tuple -/
def flatT : D → Option V
  | .non => some .non
  | .bl b => some (.bl b)
  | .int i => some (.int i)
  | .str s => some (.str s)
  | _ => none
def flatL : List D → Option (List V)
  | [] => some []
  | d :: ds => (flatT d).bind fun v => (flatL ds).map fun vs => v :: vs
theorem flatT_rep {K : PySem.W.Frag} {T : Tbl} {Z : Zt} {d : D} {v w : V} (h : flatT d = some v) (r : Rep K T Z d w) : w = v ∧ flatV v = true := by
  cases d with
  | non => cases h; exact ⟨r, rfl⟩
  | bl b => cases h; exact ⟨r, rfl⟩
  | int b => cases h; exact ⟨r, rfl⟩
  | str b => cases h; exact ⟨r, rfl⟩
  | _ => cases h
theorem flatL_rep {K : PySem.W.Frag} {T : Tbl} {Z : Zt} : ∀ {ds : List D} {vs ws : List V}, flatL ds = some vs → RepL K T Z ds ws → ws = vs ∧ vs.all flatV = true
  | [], _, _, h, r => by cases h; exact ⟨r, rfl⟩
  | d :: ds, _, _, h, ⟨w, ws, e, r1, r2⟩ => by
    unfold flatL at h
    cases q1 : flatT d with
    | none => rw [q1] at h; cases h
    | some v =>
      cases q2 : flatL ds with
      | none => rw [q1, q2] at h; cases h
      | some vs =>
        rw [q1, q2] at h
        cases h
        obtain ⟨e1, f1⟩ := flatT_rep q1 r1
        obtain ⟨e2, f2⟩ := flatL_rep q2 r2
        subst e e1 e2
        exact ⟨rfl, by simp [f1, f2]⟩
def inS (d e : D) : Option Bool := match e with
  | .lst l => (flatT d).bind fun v => (flatL l).map fun vs => inV v vs
  | .tup l => (flatT d).bind fun v => (flatL l).map fun vs => inV v vs
  | _ => none
def inD : D → D → Option D := fun d e => (inS d e).map .bl
def notInD : D → D → Option D := fun d e => (inS d e).map fun b => .bl (!b)
theorem flatPk {K : PySem.W.Frag} {T : Tbl} {Z : Zt} {H : Hp} {d : D} {v w : V} (h : flatT d = some v) (p : Pk K T Z H d w) : w = v ∧ flatV v = true := by
  rcases p with p | ⟨_, _, p⟩
  · exact flatT_rep h p
  · cases d <;> first | exact p.elim | cases h
theorem os_inS {K : PySem.W.Frag} {T : Tbl} {neg : Bool} : OpS K T (rIn K neg) (fun d e => (inS d e).map fun b => .bl (if neg then !b else b)) := fun Z H d e x y z Q s p q h o => by
  dsimp only at h
  cases hi : inS d e with
  | none => rw [hi] at h; cases h
  | some b =>
    rw [hi] at h
    cases h
    unfold inS at hi
    split at hi
    · rename_i l
      cases q1 : flatT d with
      | none => rw [q1] at hi; cases hi
      | some v =>
        cases q2 : flatL l with
        | none => rw [q1, q2] at hi; cases hi
        | some vs =>
          rw [q1, q2] at hi
          cases hi
          obtain ⟨e1, f1⟩ := flatPk q1 p
          obtain ⟨a, ws, ea, h1, rl⟩ := q.lst s
          obtain ⟨e2, f2⟩ := flatL_rep q2 rl
          subst e1 e2
          exact ⟨a, ws, ea, .inl (.of h1), f1, f2, o.at s rfl⟩
    · rename_i l
      cases q1 : flatT d with
      | none => rw [q1] at hi; cases hi
      | some v =>
        cases q2 : flatL l with
        | none => rw [q1, q2] at hi; cases hi
        | some vs =>
          rw [q1, q2] at hi
          cases hi
          obtain ⟨e1, f1⟩ := flatPk q1 p
          obtain ⟨a, ws, ea, h1, rl⟩ := q.tup s
          obtain ⟨e2, f2⟩ := flatL_rep q2 rl
          subst e1 e2
          exact ⟨a, ws, ea, .inr h1, f1, f2, o.at s rfl⟩
    · cases hi
theorem os_in {K : PySem.W.Frag} {T : Tbl} : OpS K T (rIn K false) inD := os_inS (neg := false)
theorem os_notIn {K : PySem.W.Frag} {T : Tbl} : OpS K T (rIn K true) notInD := os_inS (neg := true)

/-! ### calls of built-ins -/
def pkL : List Ar → Env → Mem → Option (List D)
  | [], _, _ => some []
  | x :: xs, ρ, μ => match pk x ρ μ with
    | none => none
    | some d => match pkL xs ρ μ with
      | none => none
      | some ds => some (d :: ds)
def PkL (K : PySem.W.Frag) (T : Tbl) (Z : Zt) (H : Hp) : List D → List V → Prop
  | [], vs => vs = []
  | d :: ds, vs => ∃ v r, vs = v :: r ∧ Pk K T Z H d v ∧ PkL K T Z H ds r
theorem pkL_ok {K : PySem.W.Frag} {T : Tbl} {F : Fm} {Z : Zt} {ρ : Env} {μ : Mem} {σ : St} {H : Hp} (G : Good K T F Z ρ μ σ H) : ∀ {xs : List Ar} {ds : List D} {vs : List V}, ArRepL K T σ Z xs vs → pkL xs ρ μ = some ds → PkL K T Z H ds vs
  | [], _, _, r, e => by cases e; exact r
  | x :: xs, _, _, ⟨v, r, ev, r1, r2⟩, e => by
    unfold pkL at e
    cases q1 : pk x ρ μ with
    | none => rw [q1] at e; cases e
    | some d =>
      rw [q1] at e
      dsimp only at e
      cases q2 : pkL xs ρ μ with
      | none => rw [q2] at e; cases e
      | some ds =>
        rw [q2] at e
        cases e
        exact ⟨v, r, ev, pk_ok G r1 q1, pkL_ok G r2 q2⟩
def mB (f : List D → Option D) (ml : M (List Ar)) : M D := bnd ml fun xs ρ μ => match pkL xs ρ μ with
  | some ds => opt (f ds) ρ μ
  | none => .bad
def CallS (K : PySem.W.Frag) (T : Tbl) (r : List V → Hp → VK → Prop) (f : List D → Option D) : Prop := ∀ Z H ds vs z Q, Same Z.hp H → PkL K T Z H ds vs → f ds = some z → Out K T Z H z Q → r vs H Q
theorem cb_rd {K : PySem.W.Frag} {T : Tbl} {xk : XK} {r : List V → Hp → VK → Prop} {f : List D → Option D} {ml : M (List Ar)} (hs : CallS K T r f) : ∀ σ H Q, rdE K T xk (mB f ml) σ H Q → tCB r (rdAL K T xk ml) σ H Q := fun σ H Q ⟨F, Z, ρ, μ, G, A⟩ =>
  ⟨F, Z, ρ, μ, G, A.bnd.imp (Le.refl Z) fun xs ρ1 μ1 A1 vs Z1 H1 G1 l1 r1 => by
    cases e1 : pkL xs ρ1 μ1 with
    | none => rw [e1] at A1; exact A1.elim
    | some ds =>
      rw [e1] at A1
      dsimp only at A1
      cases e2 : f ds with
      | none => rw [e2] at A1; exact A1.elim
      | some z =>
        rw [e2] at A1
        exact hs Z1 H1 ds vs z Q G1.base.same (pkL_ok G1 r1 e1) e2 fun v Z' H' g rz => A1 v Z' H' (G1.grow g) (l1.trans (g.le G1.base.same)) rz⟩
/-- .. that make a new list -/
def mBF (f : List D → Option (List D)) (ml : M (List Ar)) : M D := bnd ml fun xs ρ μ => match pkL xs ρ μ with
  | some ds => opt ((f ds).map .lst) ρ μ
  | none => .bad
def CallSF (K : PySem.W.Frag) (T : Tbl) (r : List V → Hp → VK → Prop) (f : List D → Option (List D)) : Prop := ∀ Z H ds vs l Q, Same Z.hp H → PkL K T Z H ds vs → f ds = some l → (∀ p ws, H p = none → RepL K T Z l ws → Q (.ref p) (upd H p (.lst ws))) → r vs H Q
theorem cbf_rd {K : PySem.W.Frag} {T : Tbl} {xk : XK} {r : List V → Hp → VK → Prop} {f : List D → Option (List D)} {ml : M (List Ar)} (hs : CallSF K T r f) : ∀ σ H Q, rdF K T xk (mBF f ml) σ H Q → tCB r (rdAL K T xk ml) σ H Q := fun σ H Q ⟨F, Z, ρ, μ, G, A⟩ =>
  ⟨F, Z, ρ, μ, G, A.bnd.imp (Le.refl Z) fun xs ρ1 μ1 A1 vs Z1 H1 G1 l1 r1 => by
    cases e1 : pkL xs ρ1 μ1 with
    | none => rw [e1] at A1; exact A1.elim
    | some ds =>
      rw [e1] at A1
      dsimp only at A1
      cases e2 : f ds with
      | none => rw [e2] at A1; exact A1.elim
      | some l =>
        rw [e2] at A1
        refine hs Z1 H1 ds vs l Q G1.base.same (pkL_ok G1 r1 e1) e2 fun p ws hp rl => ?_
        obtain ⟨G2, w, ap⟩ := own_new (o := .lst ws) (d := .lst l) G1 hp ⟨ws, upd_same, rl⟩
        exact A1 p Z1 _ G2 l1 w ap⟩
theorem PkL.one {K : PySem.W.Frag} {T : Tbl} {Z : Zt} {H : Hp} {d : D} {vs : List V} (h : PkL K T Z H [d] vs) : ∃ v, vs = [v] ∧ Pk K T Z H d v := by
  obtain ⟨v, r, e, h1, h2⟩ := h
  rw [show r = [] from h2] at e
  exact ⟨v, e, h1⟩
theorem PkL.two {K : PySem.W.Frag} {T : Tbl} {Z : Zt} {H : Hp} {d d' : D} {vs : List V} (h : PkL K T Z H [d, d'] vs) : ∃ v v', vs = [v, v'] ∧ Pk K T Z H d v ∧ Pk K T Z H d' v' := by
  obtain ⟨v, r, e, h1, h2⟩ := h
  obtain ⟨v', e', h3⟩ := h2.one
  subst e'
  exact ⟨v, v', e, h1, h3⟩
section
variable {X : Cx} {T : Tbl} {xk : XK} {x : Str} {p pos : Pos} {e : Expr} {es : List Expr} {ml : M (List Ar)} {id Ty : String} {r : List V → Hp → VK → Prop} {f : List D → Option D} {fl : List D → Option (List D)}
theorem e_callB (hc : CallR X (.builtin id) r) (hs : CallS X.K T r f) (hg : Gl X x) (hm : X.mg x = none) (hv : bootBuiltins x = some (.builtin id)) (ha : PA X (e :: es) (rdAL X.K T xk ml)) (hn : x ≠ "__name__" := by decide) (hdb : (x == ("__debug__" : Str)) = false := by decide)
    (hst : starEach (e :: es) X.env = (false, eval e X.env) :: starEach es X.env := by rfl) (hpl : (backTo pos (starEach es X.env)).any (·.1) = false := by rfl) : PE X (.Call (.Name x p) (e :: es) [] pos) (rdE X.K T xk (mB f ml)) := PE.imp (pe_callB hc hg hm hv ha hn hdb hst hpl) (cb_rd hs)
theorem e_callTy (hc : CallR X (.type Ty) r) (hs : CallS X.K T r f) (hg : Gl X x) (hm : X.mg x = none) (hv : bootBuiltins x = some (.type Ty)) (ha : PA X (e :: es) (rdAL X.K T xk ml)) (hn : x ≠ "__name__" := by decide) (hdb : (x == ("__debug__" : Str)) = false := by decide)
    (hst : starEach (e :: es) X.env = (false, eval e X.env) :: starEach es X.env := by rfl) (hpl : (backTo pos (starEach es X.env)).any (·.1) = false := by rfl) : PE X (.Call (.Name x p) (e :: es) [] pos) (rdE X.K T xk (mB f ml)) := PE.imp (pe_callTy hc hg hm hv ha hn hdb hst hpl) (cb_rd hs)
theorem f_callTy (hc : CallR X (.type Ty) r) (hs : CallSF X.K T r fl) (hg : Gl X x) (hm : X.mg x = none) (hv : bootBuiltins x = some (.type Ty)) (ha : PA X (e :: es) (rdAL X.K T xk ml)) (hn : x ≠ "__name__" := by decide) (hdb : (x == ("__debug__" : Str)) = false := by decide)
    (hst : starEach (e :: es) X.env = (false, eval e X.env) :: starEach es X.env := by rfl) (hpl : (backTo pos (starEach es X.env)).any (·.1) = false := by rfl) : PE X (.Call (.Name x p) (e :: es) [] pos) (rdF X.K T xk (mBF fl ml)) := PE.imp (pe_callTy hc hg hm hv ha hn hdb hst hpl) (cbf_rd hs)
end
/-- len -/
def lenD : List D → Option D
  | [.lst l] => some (.int l.length)
  | [.tup l] => some (.int l.length)
  | [.frl l] => some (.int l.length)
  | [.str z] => if fits z.length then some (.int z.length) else none
  | _ => none
def rLenA (K : PySem.W.Frag) : List V → Hp → VK → Prop := fun xs H Q => (∃ p ys, xs = [.ref p] ∧ (SqL K H p ys ∨ SqT K H p ys) ∧ Q (.int ys.length) H) ∨ ∃ z, xs = [.str z] ∧ z.length ≤ sizeLine ∧ Q (.int z.length) H
theorem cr_len {X : Cx} : CallR X (.builtin "len") (rLenA X.K) := CallR.or call_len_seq call_len_str
theorem cs_len {K : PySem.W.Frag} {T : Tbl} : CallS K T (rLenA K) lenD := fun Z H ds vs z Q s p h o => by
  unfold lenD at h
  split at h
  · rename_i l
    cases h
    obtain ⟨v, e, q⟩ := p.one
    obtain ⟨a, ws, ea, h1, r⟩ := q.lst s
    subst ea
    exact .inl ⟨a, ws, e, .inl (.of h1), by rw [r.length]; exact o.at s rfl⟩
  · rename_i l
    cases h
    obtain ⟨v, e, q⟩ := p.one
    obtain ⟨a, ws, ea, h1, r⟩ := q.tup s
    subst ea
    exact .inl ⟨a, ws, e, .inr h1, by rw [r.length]; exact o.at s rfl⟩
  · rename_i l
    cases h
    obtain ⟨v, e, q⟩ := p.one
    obtain ⟨a, ea, h1⟩ := q.frl s
    subst ea
    exact .inl ⟨a, _, e, .inl h1, by rw [List.length_map]; exact o.at s rfl⟩
  · split at h
    · rename_i z hf
      cases h
      obtain ⟨v, e, q⟩ := p.one
      exact .inr ⟨z, by rw [e, q.str], fits_of hf, o.at s rfl⟩
    · cases h
  · cases h
/-- int(n), int(flag) -/
def intD : List D → Option D
  | [.int i] => some (.int i)
  | [.bl k] => some (.int (if k then 1 else 0))
  | _ => none
theorem cs_int {K : PySem.W.Frag} {T : Tbl} : CallS K T (fun xs H Q => (∃ i, xs = [.int i] ∧ Q (.int i) H) ∨ ∃ k, xs = [.bl k] ∧ Q (.int (if k then 1 else 0)) H) intD := fun Z H ds vs z Q s p h o => by
  unfold intD at h
  split at h
  · cases h
    obtain ⟨v, e, q⟩ := p.one
    exact .inl ⟨_, by rw [e, q.int], o.at s rfl⟩
  · cases h
    obtain ⟨v, e, q⟩ := p.one
    exact .inr ⟨_, by rw [e, q.bl], o.at s rfl⟩
  · cases h
def absD : List D → Option D
  | [.int i] => some (.int (if i < 0 then -i else i))
  | _ => none
theorem cs_abs {K : PySem.W.Frag} {T : Tbl} : CallS K T (fun xs H Q => ∃ i, xs = [.int i] ∧ Q (.int (if i < 0 then -i else i)) H) absD := fun Z H ds vs z Q s p h o => by
  unfold absD at h
  split at h
  · cases h
    obtain ⟨v, e, q⟩ := p.one
    exact ⟨_, by rw [e, q.int], o.at s rfl⟩
  · cases h
def max2D : List D → Option D
  | [.int i, .int j] => some (.int (if j > i then j else i))
  | _ => none
theorem cs_max2 {K : PySem.W.Frag} {T : Tbl} : CallS K T (fun xs H Q => ∃ i j, xs = [.int i, .int j] ∧ Q (.int (if j > i then j else i)) H) max2D := fun Z H ds vs z Q s p h o => by
  unfold max2D at h
  split at h
  · cases h
    obtain ⟨v, v', e, q, q'⟩ := p.two
    exact ⟨_, _, by rw [e, q.int, q'.int], o.at s rfl⟩
  · cases h
def min2D : List D → Option D
  | [.int i, .int j] => some (.int (if j < i then j else i))
  | _ => none
theorem cs_min2 {K : PySem.W.Frag} {T : Tbl} : CallS K T (fun xs H Q => ∃ i j, xs = [.int i, .int j] ∧ Q (.int (if j < i then j else i)) H) min2D := fun Z H ds vs z Q s p h o => by
  unfold min2D at h
  split at h
  · cases h
    obtain ⟨v, v', e, q, q'⟩ := p.two
    exact ⟨_, _, by rw [e, q.int, q'.int], o.at s rfl⟩
  · cases h
/-- all, any of a list of bools; sum of ints -/
def blsD : List D → Option (List Bool)
  | [] => some []
  | .bl b :: ds => (blsD ds).map fun bs => b :: bs
  | _ => none
theorem blsD_eq : ∀ {ds : List D} {bs : List Bool}, blsD ds = some bs → ds = bs.map D.bl
  | [], _, h => by cases h; rfl
  | d :: ds, bs, h => by
    cases d with
    | bl b =>
      unfold blsD at h
      cases q : blsD ds with
      | none => rw [q] at h; cases h
      | some cs => rw [q] at h; cases h; rw [blsD_eq q]; rfl
    | _ => cases h
def intsD : List D → Option (List Int)
  | [] => some []
  | .int b :: ds => (intsD ds).map fun bs => b :: bs
  | _ => none
theorem intsD_eq : ∀ {ds : List D} {bs : List Int}, intsD ds = some bs → ds = bs.map D.int
  | [], _, h => by cases h; rfl
  | d :: ds, bs, h => by
    cases d with
    | int b =>
      unfold intsD at h
      cases q : intsD ds with
      | none => rw [q] at h; cases h
      | some cs => rw [q] at h; cases h; rw [intsD_eq q]; rfl
    | _ => cases h
def strsD : List D → Option (List Str)
  | [] => some []
  | .str b :: ds => (strsD ds).map fun bs => b :: bs
  | _ => none
theorem strsD_eq : ∀ {ds : List D} {bs : List Str}, strsD ds = some bs → ds = bs.map D.str
  | [], _, h => by cases h; rfl
  | d :: ds, bs, h => by
    cases d with
    | str b =>
      unfold strsD at h
      cases q : strsD ds with
      | none => rw [q] at h; cases h
      | some cs => rw [q] at h; cases h; rw [strsD_eq q]; rfl
    | _ => cases h
def allD : List D → Option D
  | [.lst l] => (blsD l).map fun bs => .bl (bs.all id)
  | _ => none
def anyD : List D → Option D
  | [.lst l] => (blsD l).map fun bs => .bl (bs.any id)
  | _ => none
def sumD : List D → Option D
  | [.lst l] => (intsD l).map fun bs => .int bs.sum
  | _ => none
theorem cs_all {K : PySem.W.Frag} {T : Tbl} : CallS K T (rAll K) allD := fun Z H ds vs z Q s p h o => by
  unfold allD at h
  split at h
  · rename_i l
    cases q1 : blsD l with
    | none => rw [q1] at h; cases h
    | some bs =>
      rw [q1] at h
      cases h
      obtain ⟨v, e, q⟩ := p.one
      obtain ⟨a, ws, ea, h1, r⟩ := q.lst s
      subst ea
      rw [blsD_eq q1] at r
      rw [r.bls] at h1
      exact ⟨a, bs, e, .of h1, o.at s rfl⟩
  · cases h
theorem cs_any {K : PySem.W.Frag} {T : Tbl} : CallS K T (rAny K) anyD := fun Z H ds vs z Q s p h o => by
  unfold anyD at h
  split at h
  · rename_i l
    cases q1 : blsD l with
    | none => rw [q1] at h; cases h
    | some bs =>
      rw [q1] at h
      cases h
      obtain ⟨v, e, q⟩ := p.one
      obtain ⟨a, ws, ea, h1, r⟩ := q.lst s
      subst ea
      rw [blsD_eq q1] at r
      rw [r.bls] at h1
      exact ⟨a, bs, e, .of h1, o.at s rfl⟩
  · cases h
theorem cs_sum {K : PySem.W.Frag} {T : Tbl} : CallS K T (rSum K) sumD := fun Z H ds vs z Q s p h o => by
  unfold sumD at h
  split at h
  · rename_i l
    cases q1 : intsD l with
    | none => rw [q1] at h; cases h
    | some bs =>
      rw [q1] at h
      cases h
      obtain ⟨v, e, q⟩ := p.one
      obtain ⟨a, ws, ea, h1, r⟩ := q.lst s
      subst ea
      rw [intsD_eq q1] at r
      rw [r.ints] at h1
      exact ⟨a, bs, e, .of h1, o.at s rfl⟩
  · cases h
/-- list(xs), tuple(xs) -/
def listD : List D → Option (List D)
  | [.lst l] => some l
  | [.tup l] => some l
  | _ => none
theorem cs_list {K : PySem.W.Frag} {T : Tbl} : CallSF K T (fun xs H Q => ∃ p ys, xs = [.ref p] ∧ (SqL K H p ys ∨ SqT K H p ys) ∧ ∀ l, H l = none → Q (.ref l) (upd H l (.lst ys))) listD := fun Z H ds vs l Q s p h o => by
  unfold listD at h
  split at h
  · cases h
    obtain ⟨v, e, q⟩ := p.one
    obtain ⟨a, ws, ea, h1, r⟩ := q.lst s
    subst ea
    exact ⟨a, ws, e, .inl (.of h1), fun p hp => o p ws hp r⟩
  · cases h
    obtain ⟨v, e, q⟩ := p.one
    obtain ⟨a, ws, ea, h1, r⟩ := q.tup s
    subst ea
    exact ⟨a, ws, e, .inr h1, fun p hp => o p ws hp r⟩
  · cases h
def tupleD : List D → Option D
  | [.lst l] => some (.tup l)
  | [.tup l] => some (.tup l)
  | _ => none
theorem cs_tuple {K : PySem.W.Frag} {T : Tbl} : CallS K T (fun xs H Q => ∃ p ys, xs = [.ref p] ∧ ((SqL K H p ys ∧ ∀ l, H l = none → Q (.ref l) (upd H l (.tup ys))) ∨ (SqT K H p ys ∧ Q (.ref p) H))) tupleD := fun Z H ds vs z Q s p h o => by
  unfold tupleD at h
  split at h
  · cases h
    obtain ⟨v, e, q⟩ := p.one
    obtain ⟨a, ws, ea, h1, r⟩ := q.lst s
    subst ea
    exact ⟨a, ws, e, .inl ⟨.of h1, o.tup s r⟩⟩
  · cases h
    obtain ⟨v, e, q⟩ := p.one
    obtain ⟨a, ws, ea, h1, r⟩ := q.tup s
    subst ea
    rcases q with q | ⟨_, _, q⟩
    · exact ⟨a, ws, e, .inr ⟨h1, o.at s q⟩⟩
    · exact q.elim
  · cases h
/-- list(range(n)) -/
def mListR (ml : M (List D)) : M D := bnd ml fun ds => match ds with
  | [.int n] => if decide (0 ≤ n ∧ n ≤ 16777216) then ret (.lst (rangeD 0 n)) else fun _ _ => .bad
  | _ => fun _ _ => .bad
theorem f_listR {X : Cx} {T : Tbl} {xk : XK} {a : Expr} {m : M D} {p p2 pos pos2 : Pos} (hc : X.calm = true) (hg : Gl X "list") (hm : X.mg "list" = none) (hg2 : Gl X "range") (hm2 : X.mg "range" = none) (ha : PE X a (rdE X.K T xk m))
    (na : starEach [a] X.env = (false, eval a X.env) :: starEach [] X.env := by rfl) (nb : starEach [Expr.Call (.Name "range" p2) [a] [] pos2] X.env = (false, eval (Expr.Call (.Name "range" p2) [a] [] pos2) X.env) :: starEach [] X.env := by rfl) :
    PE X (.Call (.Name "list" p) [.Call (.Name "range" p2) [a] [] pos2] [] pos) (rdF X.K T xk (mListR (lCons m lNil))) := PE.imp (pe_listRg hc hg hm (prg_1 hg2 hm2 ha na) nb) fun σ H Q ⟨F, Z, ρ, μ, G, A⟩ =>
  ⟨F, Z, ρ, μ, G, A.bnd.bnd.imp (Le.refl Z) fun d ρ1 μ1 A1 v Z1 H1 G1 l1 r1 => by
    cases d with
    | int n =>
      have A2 : After X.K T xk F Z ((if decide (0 ≤ n ∧ n ≤ 16777216) then ret (.lst (rangeD 0 n)) else fun _ _ => .bad : M D) ρ1 μ1) _ := A1
      by_cases hn : 0 ≤ n ∧ n ≤ 16777216
      · rw [if_pos (decide_eq_true hn)] at A2
        refine ⟨n, r1, RgOk.of_le (by decide) hn.2 (by decide) hn.1, fun p hp => ?_⟩
        have rl : RepL X.K T Z1 (rangeD 0 n) (rgV 0 n) := by
          unfold rangeD rgV
          generalize (n - 0).toNat = k
          have key : ∀ l : List Nat, RepL X.K T Z1 (l.map fun (k : Nat) => D.int (0 + (k : Nat))) (l.map fun i => V.int (0 + (i : Nat))) := fun l => by
            induction l with
            | nil => rfl
            | cons a l ih => exact ⟨_, _, rfl, rfl, ih⟩
          exact key _
        obtain ⟨G2, w, ap⟩ := own_new (o := .lst (rgV 0 n)) (d := .lst (rangeD 0 n)) G1 hp ⟨_, upd_same, rl⟩
        exact A2 p Z1 _ G2 l1 w ap
      · rw [if_neg (fun z => hn (of_decide_eq_true z))] at A2; exact A2.elim
    | _ => exact A1.elim⟩
end Pv

/-! Pv10: callees, module constants, boxes, isinstance, repr; what a law's text stands on. -/
namespace Pv
open PySem L2

/-- a def of the module that computes φ -/
def Callee (P : Program) (w : World) (K : PySem.W.Frag) (mg : Str → Option Value) (base : Heap) (T : Tbl) (x : Str) (k n : Nat) (φ : Fn) : Prop :=
  ∃ f fd ps, FnOk P w K mg base (L2.CX P w) k f fd ps (spD K T n φ) ∧ mg x = some (.ref f) ∧ PySem.W.keepIn K (.ref f) = true ∧ Binds K fd ps []
theorem Callee.mk {P : Program} {w : World} {K : PySem.W.Frag} {mg : Str → Option Value} {base : Heap} {T : Tbl} {x qual : Str} {st : Stmt} {k n : Nat} {φ : Fn} {f : Addr} {fd : FuncData} {ps : List Str} (F : Fun K x qual st f fd) (G : FnOk P w K mg base (L2.CX P w) k f fd ps (spD K T n φ)) (hm : mg x = some (.ref f)) (hb : Binds K fd ps []) :
    Callee P w K mg base T x k n φ := ⟨f, fd, ps, G, hm, F.kp, hb⟩
theorem Callee.imp {P : Program} {w : World} {K : PySem.W.Frag} {mg : Str → Option Value} {base : Heap} {T : Tbl} {x : Str} {k n : Nat} {φ ψ : Fn} (C : Callee P w K mg base T x k n φ) (h : ∀ ds μ, ds.length = n → ψ ds μ = .bad ∨ φ ds μ = ψ ds μ) : Callee P w K mg base T x k n ψ := by
  obtain ⟨f, fd, ps, G, r⟩ := C
  refine ⟨f, fd, ps, G.imp fun vs H Q E q => ?_, r⟩
  obtain ⟨Z, μ, ds, hl, b, rr, A⟩ := q
  refine ⟨Z, μ, ds, hl, b, rr, ?_⟩
  rcases h ds μ hl with e | e
  · rw [e] at A; exact A.elim
  · rw [e]; exact A
theorem Callee.up {P : Program} {w : World} {K : PySem.W.Frag} {mg : Str → Option Value} {base : Heap} {T : Tbl} {x : Str} {j k n : Nat} {φ : Fn} (C : Callee P w K mg base T x j n φ) (h : j ≤ k) : Callee P w K mg base T x k n φ := by
  obtain ⟨f, fd, ps, G, r⟩ := C
  exact ⟨f, fd, ps, G.mono h, r⟩
section
variable {X : Cx} {T : Tbl} {xk : XK} {k n : Nat} {φ : Fn} {x : Str} {p pos : Pos} {e : Expr} {es : List Expr} {ml : M (List D)}
theorem e_fn (C : Callee X.prog X.w X.K X.mg X.base T x k n φ) (hr : Room k X.A) (bd : Bd X xk) (hg : Gl X x) (ha : PA X (e :: es) (rdL X.K T xk ml)) (hdb : (x == ("__debug__" : Str)) = false := by decide) (he : starEach (e :: es) X.env = (false, eval e X.env) :: starEach es X.env := by rfl) (hpl : (backTo pos (starEach es X.env)).any (·.1) = false := by rfl) :
    PE X (.Call (.Name x p) (e :: es) [] pos) (rdE X.K T xk (mCall n φ ml)) := by
  obtain ⟨f, fd, ps, G, hm, hk, hb⟩ := C
  exact e_call G hr hg hm hk hb bd.pass ha hdb he hpl
theorem e_fn0 (C : Callee X.prog X.w X.K X.mg X.base T x k n φ) (hr : Room k X.A) (bd : Bd X xk) (hg : Gl X x) (hdb : (x == ("__debug__" : Str)) = false := by decide) : PE X (.Call (.Name x p) [] [] pos) (rdE X.K T xk (mCall n φ lNil)) := by
  obtain ⟨f, fd, ps, G, hm, hk, hb⟩ := C
  exact e_call0 G hr hg hm hk hb bd.pass hdb
end
/-- a constant of the module -/
def Const (K : PySem.W.Frag) (T : Tbl) (mg : Str → Option Value) (x : Str) (d : D) : Prop := ∃ v u, mg x = some u ∧ RelV v u ∧ ∀ Z, Rep K T Z d v
theorem e_glob {X : Cx} {T : Tbl} {xk : XK} {x : Str} {d : D} {pos : Pos} (C : Const X.K T X.mg x d) (hg : Gl X x) (hd : (x == ("__debug__" : Str)) = false := by decide) : PE X (.Name x pos) (rdE X.K T xk (mC d)) := by
  obtain ⟨v, u, hm, r, h⟩ := C
  exact PE.imp (pe_glob hg hm r hd) fun σ H Q ⟨F, Z, ρ, μ, G, A⟩ => A v Z H G (Le.refl Z) (h Z)
/-- -n -/
def negD : D → Option D
  | .int i => some (.int (-i))
  | _ => none
theorem us_neg {K : PySem.W.Frag} {T : Tbl} : UnS K T (rU fun i => .int (-i)) negD := fun Z H d x z Q s p h o => by
  unfold negD at h
  split at h
  · cases h
    exact ⟨_, p.int, o.at s rfl⟩
  · cases h
/-- [a, b, ..] as a boxed list -/
def mBox (ml : M (List D)) : M D := bnd ml fun ds ρ μ => if ds.length ≤ sizeLine then .ok (.ref μ.length) ρ (μ ++ [ds]) else .bad
theorem e_box {X : Cx} {T : Tbl} {xk : XK} {es : List Expr} {ml : M (List D)} {pos : Pos} (h : PA X es (rdL X.K T xk ml)) : PE X (.List es pos) (rdE X.K T xk (mBox ml)) :=
  PE.imp (pe_lst h) fun σ H Q ⟨F, Z, ρ, μ, G, A⟩ => ⟨F, Z, ρ, μ, G, A.bnd.imp (Le.refl Z) fun ds ρ1 μ1 A1 vs Z1 H1 G1 l1 r1 => by
    by_cases hl : ds.length ≤ sizeLine
    · rw [if_pos hl] at A1
      refine ⟨by rw [r1.length]; exact hl, fun p hp => ?_⟩
      have b := G1.base
      have nz : Z1.hp p = none := b.same.free hp
      have nc : p ∉ Z1.et := fun h => by
        obtain ⟨n, hn⟩ := List.getElem?_of_mem h
        obtain ⟨_, _, _, vs, hv, _⟩ := b.sto n p hn
        rw [hp] at hv; cases hv
      have n0 : F.H0 p = none := by
        cases q : F.H0 p with
        | none => rfl
        | some u =>
          by_cases hc : p ∈ F.Z0.et
          · exact absurd (et_mem b.le0 hc) nc
          · rw [b.keep p u q hc] at hp; cases hp
      have keep : ∀ a u, H1 a = some u → upd H1 p (.lst vs) a = some u := fun a u e => by rw [upd_ne (ne_of_none e hp)]; exact e
      have le : Le Z1 ⟨Z1.hp, Z1.et ++ [p]⟩ := ⟨Same.refl _, fun n a e => by
        have hn : n < Z1.et.length := (List.getElem?_eq_some_iff.mp e).1
        show (Z1.et ++ [p])[n]? = some a
        rw [List.getElem?_append_left hn]; exact e⟩
      have en : (Z1.et ++ [p])[μ1.length]? = some p := by rw [b.lenm, List.getElem?_append_right (Nat.le_refl _), Nat.sub_self]; rfl
      refine A1 (.ref p) ⟨Z1.hp, Z1.et ++ [p]⟩ _ ⟨⟨fun a u e => keep a u (b.same a u e), b.le0.trans le, b.steal, fun a u e n => keep a u (b.keep a u e n), fun a ha => ?_, ?_, fun n a e => ?_, by rw [List.length_append, List.length_append, b.lenm]; rfl, b.pnd, fun q hq => ?_⟩, G1.slots.len, fun i s e => ?_, G1.slots.apart⟩ (l1.trans le) ⟨p, rfl, en⟩
      · rcases List.mem_append.mp ha with h | h
        · exact b.newc a h
        · rw [List.mem_singleton.mp h]; exact .inr n0
      · refine List.nodup_append.mpr ⟨b.nd, by simp, fun a ha c hc z => ?_⟩
        rw [List.mem_singleton.mp hc] at z
        exact nc (z ▸ ha)
      · by_cases hn : n < Z1.et.length
        · have e' : Z1.et[n]? = some a := by
            have e2 : (Z1.et ++ [p])[n]? = some a := e
            rw [List.getElem?_append_left hn] at e2; exact e2
          obtain ⟨ds', h1, h2, ws, h3, h4⟩ := b.sto n a e'
          exact ⟨ds', by rw [List.getElem?_append_left (by rw [b.lenm]; exact hn)]; exact h1, h2, ws, keep a _ h3, h4.mono le _⟩
        · have hle : Z1.et.length ≤ n := Nat.le_of_not_lt hn
          have e2 : (Z1.et ++ [p])[n]? = some a := e
          rw [List.getElem?_append_right hle] at e2
          have hn0 : n - Z1.et.length = 0 := by
            have := (List.getElem?_eq_some_iff.mp e2).1
            simp at this
            omega
          rw [hn0] at e2
          have ea : p = a := by simpa using e2
          subst ea
          have en : n = μ1.length := by rw [b.lenm]; omega
          subst en
          exact ⟨ds, by rw [List.getElem?_append_right (Nat.le_refl _), Nat.sub_self]; rfl, nz, vs, upd_same, r1.mono le _⟩
      · obtain ⟨h1, h2, h3, h4⟩ := b.pend q hq
        refine ⟨keep _ _ h1, h2, fun z => ?_, h4⟩
        rcases List.mem_append.mp z with h | h
        · exact h3 h
        · rw [List.mem_singleton.mp h, hp] at h1; cases h1
      · obtain ⟨v, h1, h2⟩ := G1.slots.at_ i s e
        refine ⟨v, h1, ?_⟩
        cases s with
        | val d => exact Rep.mono le d h2
        | own d =>
          obtain ⟨a, ea, w⟩ := h2
          refine ⟨a, ea, w.new, w.free, fun z => ?_, w.np, w.slf, w.sh.mono le fun u q => keep a u q⟩
          rcases List.mem_append.mp z with h | h
          · exact w.nocell h
          · obtain ⟨u, hu⟩ := w.sh.there
            rw [List.mem_singleton.mp h, hp] at hu; cases hu
    · rw [if_neg hl] at A1; exact A1.elim⟩
/-! ### two names at once: a, b = e, [] -/
/-- x, y = e, []: y holds a new list -/
def sPar0 (i j : Nat) (m : M D) : MS := sOf m fun d ρ μ => .next ((ρ.set i (some (.val d))).set j (some (.own (.lst [])))) μ
/-- x, y = e, []: both hold new lists -/
def sPar1 (i j : Nat) (m : M D) : MS := sOf m fun d ρ μ => .next ((ρ.set i (some (.own d))).set j (some (.own (.lst [])))) μ
/-- x, y = e, f: values -/
def sPar (i j : Nat) (ml : M (List D)) : MS := sOf ml fun ds ρ μ => match ds with
  | [d, e] => .next ((ρ.set i (some (.val d))).set j (some (.val e))) μ
  | _ => .bad
section
variable {X : Cx} {T : Tbl} {xk : XK} {i j : Nat} {x y : Str} {a b : Expr} {ml : M (List D)} {m : M D} {px py pt pos pl : Pos} {kt k2 pt2}
theorem s_par (hc : X.calm = true) (hN : X.N.Nodup) (hi : X.N[i]? = some x) (hj : X.N[j]? = some y) (hij : i ≠ j) (hx : X.env.scope.names.lookup x = some .local) (hy : X.env.scope.names.lookup y = some .local) (ha : PA X [a, b] (rdL X.K T xk ml))
    (hw : swappedStores [.Tuple [.Name x px, .Name y py] kt pt] (.Tuple [a, b] k2 pt2) X.env = pure (some [x, y]))
    (hs : swapsWithSole [.Tuple [.Name x px, .Name y py] kt pt] (.Tuple [a, b] k2 pt2) pos.line X.env = pure false := by rfl) :
    PS X (.Assign [.Tuple [.Name x px, .Name y py] kt pt] (.Tuple [a, b] k2 pt2) pos) (rdS X.K T xk (sPar i j ml)) := PS.imp (ps_par hc hN hi hj hij hx hy ha hw hs) fun E σ H ⟨F, Z, ρ, μ, G, A⟩ =>
  ⟨F, Z, ρ, μ, G, (After.ofS A).imp (Le.refl Z) fun ds ρ1 μ1 q vs Z1 H1 G1 l1 r1 => by
    split at q
    · rename_i d e
      obtain ⟨v, w, ev, rv, rw'⟩ := r1.get2
      exact ⟨v, w, ev, q _ Z1 H1 ((G1.setVal rv).setVal rw') l1⟩
    · exact q.elim⟩
theorem s_par0 (hc : X.calm = true) (hN : X.N.Nodup) (hi : X.N[i]? = some x) (hj : X.N[j]? = some y) (hij : i ≠ j) (hx : X.env.scope.names.lookup x = some .local) (hy : X.env.scope.names.lookup y = some .local) (ha : PE X a (rdE X.K T xk m))
    (hw : swappedStores [.Tuple [.Name x px, .Name y py] kt pt] (.Tuple [a, .List [] pl] k2 pt2) X.env = pure (some [x, y]))
    (h1 : starEach [a, .List [] pl] X.env = (false, eval a X.env) :: starEach [.List [] pl] X.env := by rfl)
    (hs : swapsWithSole [.Tuple [.Name x px, .Name y py] kt pt] (.Tuple [a, .List [] pl] k2 pt2) pos.line X.env = pure false := by rfl) :
    PS X (.Assign [.Tuple [.Name x px, .Name y py] kt pt] (.Tuple [a, .List [] pl] k2 pt2) pos) (rdS X.K T xk (sPar0 i j m)) := PS.imp (ps_par hc hN hi hj hij hx hy (pa_cons ha (pa_cons (pe_lst pa_nil) pa_nil) h1) hw hs) fun E σ H ⟨F, Z, ρ, μ, G, A⟩ =>
  ⟨F, Z, ρ, μ, G, (After.ofS A).imp (Le.refl Z) fun d ρ1 μ1 q v Z1 H1 G1 l1 r1 => ⟨Nat.zero_le _, fun p hp => by
    obtain ⟨G2, w, ap⟩ := own_new (o := .lst []) (d := .lst []) G1 hp ⟨[], upd_same, rfl⟩
    refine ⟨v, .ref p, rfl, q _ Z1 _ ((G2.setVal r1).setOwn w fun k e h1 h2 => ?_) l1⟩
    by_cases hk : k = i
    · subst hk
      have hl : k < ρ1.length := by
        have := (List.getElem?_eq_some_iff.mp h1).1
        rw [List.length_set] at this; exact this
      rw [List.getElem?_set_self hl] at h1; cases h1
    · rw [List.getElem?_set_ne (Ne.symm hk)] at h1 h2
      exact ap k e h1 h2⟩⟩
theorem s_par1 (hc : X.calm = true) (hN : X.N.Nodup) (hi : X.N[i]? = some x) (hj : X.N[j]? = some y) (hij : i ≠ j) (hx : X.env.scope.names.lookup x = some .local) (hy : X.env.scope.names.lookup y = some .local) (ha : PE X a (rdF X.K T xk m))
    (hw : swappedStores [.Tuple [.Name x px, .Name y py] kt pt] (.Tuple [a, .List [] pl] k2 pt2) X.env = pure (some [x, y]))
    (h1 : starEach [a, .List [] pl] X.env = (false, eval a X.env) :: starEach [.List [] pl] X.env := by rfl)
    (hs : swapsWithSole [.Tuple [.Name x px, .Name y py] kt pt] (.Tuple [a, .List [] pl] k2 pt2) pos.line X.env = pure false := by rfl) :
    PS X (.Assign [.Tuple [.Name x px, .Name y py] kt pt] (.Tuple [a, .List [] pl] k2 pt2) pos) (rdS X.K T xk (sPar1 i j m)) := PS.imp (ps_par hc hN hi hj hij hx hy (pa_cons ha (pa_cons (pe_lst pa_nil) pa_nil) h1) hw hs) fun E σ H ⟨F, Z, ρ, μ, G, A⟩ =>
  ⟨F, Z, ρ, μ, G, (After.ofS A).imp (Le.refl Z) fun d ρ1 μ1 q a Z1 H1 G1 l1 w0 ap0 => ⟨Nat.zero_le _, fun p hp => by
    obtain ⟨o0, h0⟩ := w0.sh.there
    have pa : p ≠ a := fun z => by rw [z, h0] at hp; cases hp
    have G1' := G1.setOwn (i := i) w0 ap0
    obtain ⟨G2, w, ap⟩ := own_new (o := .lst []) (d := .lst []) G1' hp ⟨[], upd_same, rfl⟩
    exact ⟨.ref a, .ref p, rfl, q _ Z1 _ (G2.setOwn w ap) l1⟩⟩⟩
end
end Pv

/-! Pv11: dicts with int and text keys. -/
namespace Pv
open PySem L2

/-- {} -/
def mD0 : M D := ret (.dK [])
theorem f_d0 {X : Cx} {T : Tbl} {xk : XK} {pos : Pos} : PE X (.Dict [] [] pos) (rdF X.K T xk mD0) := PE.imp pe_dnewK fun σ H Q ⟨F, Z, ρ, μ, G, A⟩ => fun p hp => by
  obtain ⟨G2, w, ap⟩ := own_new (o := .dK []) (d := .dK []) G hp ⟨[], upd_same, rfl⟩
  exact A p Z _ G2 (Le.refl Z) w ap
def mD0T : M D := ret (.dT [])
theorem f_d0T {X : Cx} {T : Tbl} {xk : XK} {pos : Pos} : PE X (.Dict [] [] pos) (rdF X.K T xk mD0T) := PE.imp pe_dnewT fun σ H Q ⟨F, Z, ρ, μ, G, A⟩ => fun p hp => by
  obtain ⟨G2, w, ap⟩ := own_new (o := .dT []) (d := .dT []) G hp ⟨[], upd_same, rfl⟩
  exact A p Z _ G2 (Le.refl Z) w ap
/-! ### keys and stores -/
def putKD {κ : Type} [DecidableEq κ] (l : List (κ × D)) (k : κ) (d : D) : List (κ × D) :=
  if (l.any fun kv => decide (kv.1 = k)) = true then l.map (fun kv => if kv.1 = k then (kv.1, d) else kv) else l ++ [(k, d)]
def valD {κ : Type} [DecidableEq κ] (l : List (κ × D)) (k : κ) : Option D := (l.find? fun kv => decide (kv.1 = k)).map (·.2)
section
variable {K : PySem.W.Frag} {T : Tbl} {Z : Zt}
theorem RepK.any {p : Key → Bool} : ∀ {l : List (Key × D)} {kvs : List (Key × V)}, RepK K T Z l kvs → (kvs.any fun kv => p kv.1) = l.any fun kv => p kv.1
  | [], _, r => by rw [show _ = [] from r]; rfl
  | (k, d) :: l, _, ⟨v, r, e, _, h⟩ => by rw [e, List.any_cons, List.any_cons, RepK.any h]
theorem RepK.append : ∀ {l l' : List (Key × D)} {kvs kvs' : List (Key × V)}, RepK K T Z l kvs → RepK K T Z l' kvs' → RepK K T Z (l ++ l') (kvs ++ kvs')
  | [], _, _, _, r, q => by rw [show _ = [] from r]; exact q
  | (k, d) :: l, _, _, _, ⟨v, r, e, h1, h2⟩, q => ⟨v, r ++ _, by rw [e]; rfl, h1, RepK.append h2 q⟩
theorem RepK.maps {k : Key} {d : D} {v : V} (hv : Rep K T Z d v) : ∀ {l : List (Key × D)} {kvs : List (Key × V)}, RepK K T Z l kvs → RepK K T Z (l.map fun kv => if kv.1 = k then (kv.1, d) else kv) (kvs.map fun kv => if kv.1 = k then (kv.1, v) else kv)
  | [], _, r => by rw [show _ = [] from r]; rfl
  | (k', d') :: l, _, ⟨v', r, e, h1, h2⟩ => by
    subst e
    by_cases hk : k' = k
    · subst hk
      have e1 : ((k', d') :: l).map (fun kv => if kv.1 = k' then (kv.1, d) else kv) = (k', d) :: l.map (fun kv => if kv.1 = k' then (kv.1, d) else kv) := by rw [List.map_cons, if_pos rfl]
      rw [e1]
      exact ⟨v, _, by rw [List.map_cons, if_pos rfl], hv, RepK.maps hv h2⟩
    · have e1 : ((k', d') :: l).map (fun kv => if kv.1 = k then (kv.1, d) else kv) = (k', d') :: l.map (fun kv => if kv.1 = k then (kv.1, d) else kv) := by rw [List.map_cons, if_neg hk]
      rw [e1]
      exact ⟨v', _, by rw [List.map_cons, if_neg hk], h1, RepK.maps hv h2⟩
theorem RepK.put {l : List (Key × D)} {kvs : List (Key × V)} {k : Key} {d : D} {v : V} (h : RepK K T Z l kvs) (hv : Rep K T Z d v) : RepK K T Z (putKD l k d) (putK kvs k v) := by
  unfold putKD putK
  rw [RepK.any (p := fun x => decide (x = k)) h]
  split
  · exact RepK.maps hv h
  · exact h.append ⟨v, [], rfl, hv, rfl⟩
theorem RepK.length : ∀ {l : List (Key × D)} {kvs : List (Key × V)}, RepK K T Z l kvs → kvs.length = l.length
  | [], _, r => by rw [show _ = [] from r]; rfl
  | (k, d) :: l, _, ⟨v, r, e, _, h⟩ => by rw [e, List.length_cons, List.length_cons, RepK.length h]
theorem RepK.val {k : Key} : ∀ {l : List (Key × D)} {kvs : List (Key × V)}, RepK K T Z l kvs → match valD l k with | some d => ∃ v, valV kvs k = some v ∧ Rep K T Z d v | none => valV kvs k = none
  | [], _, r => by rw [show _ = [] from r]; rfl
  | (k', d') :: l, _, ⟨v, r, e, h1, h2⟩ => by
    subst e
    have ih := RepK.val (k := k) h2
    by_cases hk : k' = k
    · have e1 : valD ((k', d') :: l) k = some d' := by simp [valD, List.find?_cons, hk]
      rw [e1]
      exact ⟨v, valV_pos hk, h1⟩
    · have e1 : valD ((k', d') :: l) k = valD l k := by simp [valD, List.find?_cons, hk]
      rw [e1, valV_neg (p := (k', v)) hk]
      exact ih
end
def keyD : D → Option Key
  | .int i => some (.inl i)
  | .str s => some (.inr s)
  | _ => none
theorem keyD_rep {K : PySem.W.Frag} {T : Tbl} {Z : Zt} {d : D} {k : Key} {v : V} (h : keyD d = some k) (r : Rep K T Z d v) : v = kV k := by
  cases d with
  | int i => cases h; exact r
  | str i => cases h; exact r
  | _ => cases h
/-! ### displays -/
def mPairs : List (M D × M D) → M (List (Key × D))
  | [] => ret []
  | (mk, mv) :: r => bnd mk fun k => bnd mv fun d => bnd (mPairs r) fun ps => match keyD k with
    | some kk => ret ((kk, d) :: ps)
    | none => fun _ _ => .bad
def mergeD (l more : List (Key × D)) : List (Key × D) := more.foldl (fun acc kv => putKD acc kv.1 kv.2) l
def mDisp (ms : List (M D × M D)) : M D := bnd (mPairs ms) fun ps => if ps.length ≤ 15 then ret (.dK (mergeD [] ps)) else fun _ _ => .bad
section
variable {K : PySem.W.Frag} {T : Tbl} {xk : XK}
theorem RepK.merge {Z : Zt} : ∀ {more : List (Key × D)} {mv : List (Key × V)} {l : List (Key × D)} {kvs : List (Key × V)}, RepK K T Z more mv → RepK K T Z l kvs → RepK K T Z (mergeD l more) (mergeK kvs mv)
  | [], _, _, _, r, h => by rw [show _ = [] from r]; exact h
  | (k, d) :: more, _, _, _, ⟨v, r, e, h1, h2⟩, h => by
    subst e
    show RepK K T Z (mergeD (putKD _ k d) more) (mergeK (putK _ k v) r)
    exact RepK.merge h2 (h.put h1)
theorem pairs_rd : ∀ (ms : List (M D × M D)) (σ : St) (H : Hp) (Q : List (V × V) → Hp → Prop),
    (∃ F Z ρ μ, Good K T F Z ρ μ σ H ∧ After K T xk F Z (mPairs ms ρ μ) fun ps ρ' μ' => ∀ kvs Z' H', Good K T F Z' ρ' μ' σ H' → Le Z Z' → RepK K T Z' ps kvs → Q (kvs.map fun kv => (kV kv.1, kv.2)) H') →
    tPairs (ms.map fun m => (rdE K T xk m.1, rdE K T xk m.2)) σ H Q
  | [], σ, H, Q, ⟨F, Z, ρ, μ, G, A⟩ => A [] Z H G (Le.refl Z) rfl
  | (mk, mv) :: ms, σ, H, Q, ⟨F, Z, ρ, μ, G, A⟩ =>
    ⟨F, Z, ρ, μ, G, A.bnd.imp (Le.refl Z) fun k ρ1 μ1 A1 vk Z1 H1 G1 l1 r1 => ⟨F, Z1, ρ1, μ1, G1, (A1.imp l1 fun _ _ _ q => q).bnd.imp (Le.refl Z1) fun d ρ2 μ2 A2 vd Z2 H2 G2 l2 r2 =>
      pairs_rd ms σ H2 _ ⟨F, Z2, ρ2, μ2, G2, (A2.imp l2 fun _ _ _ q => q).bnd.imp (Le.refl Z2) fun ps ρ3 μ3 A3 kvs Z3 H3 G3 l3 r3 => by
        cases e : keyD k with
        | none => rw [e] at A3; exact A3.elim
        | some kk =>
          rw [e] at A3
          have ek := keyD_rep e r1
          have := A3 ((kk, vd) :: kvs) Z3 H3 G3 ((l1.trans l2).trans l3) ⟨vd, kvs, rfl, Rep.mono l3 d r2, r3⟩
          rw [ek]
          exact this⟩⟩⟩
theorem f_disp {X : Cx} {pos : Pos} {keys : List (Option Expr)} {values : List Expr} {ms : List (M D × M D)} (h : PPs X pos keys values (ms.map fun m => (rdE X.K T xk m.1, rdE X.K T xk m.2))) (hall : keys.all (·.isSome) = true) (hl : keys.length = values.length) (h0 : keys ≠ [])
    (h15 : keys.length ≤ 15) : PE X (.Dict keys values pos) (rdF X.K T xk (mDisp ms)) := PE.imp (pe_disp h hall hl h0 h15) fun σ H Q ⟨F, Z, ρ, μ, G, A⟩ => fun p hp => by
  have Gp : Good X.K T (F.push p (.dK [])) Z ρ μ σ (upd H p (.dK [])) := G.push hp
  refine pairs_rd (xk := xk) ms σ _ _ ⟨F.push p (.dK []), Z, ρ, μ, Gp, ?_⟩
  have A' := A.bnd
  cases q : mPairs ms ρ μ with
  | bad => rw [q] at A'; exact A'
  | exc c d μ1 => rw [q] at A'; exact fun Z' H' dx v b l e r => A' Z' H' dx v ⟨b.same, b.le0, b.steal, b.keep, b.newc, b.nd, b.sto, b.lenm, (List.nodup_cons.mp b.pnd).2, fun x hx => b.pend x (List.mem_cons_of_mem _ hx)⟩ l e r
  | ok ps ρ1 μ1 =>
    rw [q] at A'
    intro kvs Z' H' G' l r
    have A2 : After X.K T xk F Z ((if ps.length ≤ 15 then ret (.dK (mergeD [] ps)) else fun _ _ => .bad : M D) ρ1 μ1) _ := A'
    by_cases hn : ps.length ≤ 15
    · rw [if_pos hn] at A2
      have e1 : H' p = some (.dK []) := (G'.base.pend (p, .dK []) List.mem_cons_self).1
      refine ⟨e1, kvs, rfl, by rw [r.length]; exact hn, ?_⟩
      have G2 : Good X.K T (F.push p (.dK (mergeK [] kvs))) Z' ρ1 μ1 σ (upd H' p (.dK (mergeK [] kvs))) := G'.repush
      obtain ⟨G3, w, ap⟩ := G2.pop (d := .dK (mergeD [] ps)) ⟨_, upd_same, RepK.merge r (show RepK X.K T Z' [] [] from rfl)⟩
      exact A2 p Z' _ G3 l w ap
    · rw [if_neg hn] at A2; exact A2.elim
end
theorem pp_nil {X : Cx} {T : Tbl} {xk : XK} {pos : Pos} : PPs X pos [] [] (([] : List (M D × M D)).map fun m => (rdE X.K T xk m.1, rdE X.K T xk m.2)) := pps_nil
theorem pp_cons {X : Cx} {T : Tbl} {xk : XK} {pos : Pos} {k v : Expr} {ks : List (Option Expr)} {vs : List Expr} {mk mv : M D} {ms : List (M D × M D)} (hk : PE X k (rdE X.K T xk mk)) (hv : PE X v (rdE X.K T xk mv)) (hr : PPs X pos ks vs (ms.map fun m => (rdE X.K T xk m.1, rdE X.K T xk m.2))) :
    PPs X pos (some k :: ks) (v :: vs) (((mk, mv) :: ms).map fun m => (rdE X.K T xk m.1, rdE X.K T xk m.2)) := pps_cons hk hv hr
end Pv

/-! Pv12: own exceptions whose __init__ says super().__init__(value); self.value = value. -/
namespace Pv
open PySem PySem.W PySem.Calls PyProof.Rows PySem.Spec L2

abbrev xiScope : Scope := { kind := .function, names := [("self", .local), ("value", .local), ("__class__", .free), ("super", .globalImplicit)], isGenerator := false, isCoroutine := false, more := [] }
abbrev xiArgs : Arguments := { posonlyargs := [], args := [{ arg := "self", annotation := none, pos := ⟨4, 17, 4, 21⟩ }, { arg := "value", annotation := none, pos := ⟨4, 23, 4, 28⟩ }], vararg := none, kwonlyargs := [], kw_defaults := [], kwarg := none, defaults := [] }
abbrev xiBody : List Stmt :=
  [.Expr (.Call (.Attribute (.Call (.Name "super" ⟨5, 8, 5, 13⟩) [] [] ⟨5, 8, 5, 15⟩) "__init__" ⟨5, 8, 5, 24⟩) [.Name "value" ⟨5, 25, 5, 30⟩] [] ⟨5, 8, 5, 31⟩) ⟨5, 8, 5, 31⟩, .Assign [.Attribute (.Name "self" ⟨6, 8, 6, 12⟩) "value" ⟨6, 8, 6, 18⟩] (.Name "value" ⟨6, 21, 6, 26⟩) ⟨6, 8, 6, 26⟩]
/-- the __init__ at fI, of the class at D -/
structure XInit (P : Program) (K : Frag) (fI D : Addr) : Prop where
  ex : ∃ (qual : Str) (kV doc pm : Value) (an : Option Addr) (cda cc : Addr) (ct oc : Value) (od : Option Addr) (osl : Array (Option Value)) (vs : Array Value) (ccl : Value) (cdd : Option Addr) (ccs : Array (Option Value)) (file : Str) (tf : Tok) (cl : Value) (cld : Option Addr) (csl : Array (Option Value)),
    K.lookup fI = some ⟨oc, od, .func (ksFn "__init__" qual xiArgs xiBody xiScope .none kV doc pm an (.ref cda) ct cc), osl⟩ ∧ codeIn K (.ref cda) qual = true ∧
    K.lookup cda = some ⟨ccl, cdd, .fields vs, ccs⟩ ∧ vs[2]? = some (.str file tf) ∧ ((P.main.file : Str) == file) = true ∧ K.lookup cc = some ⟨cl, cld, .cell (some (.ref D)), csl⟩
  cD : ∃ cdD, clsIn K D = some cdD
  top : (P.main.scope.names.lookup ("super" : Str)).isSome = false
  opq : nsIn K cStatics "thirdparty.any" = some none
  tI : typeIn K (.ref fI) = some (.type "function")
/-- an exception class over D -/
structure XCls (K : Frag) (C fI D : Addr) : Prop where
  oex : OexC K C
  ini : findIn K (.ref C) "__init__" = some (some (.ref fI))
  sub : mroIn K C (.ref D) = some true
  sup : ks_superIn K C D "__init__" = some (some (.builtin "ValueError.__init__"))
  ve : subIn K (.ref C) (.type "ValueError") = some true
  noV : findIn K (.ref C) "value" = some none
  ic : ExcC K C

section
variable {P : Program} {w : World} {K : Frag} {A : Around} {E : Value → Shared → Prop} {h : Heap} {g : Array GenState} {d : Drawn} {t : Nat} {os : OsState} {C fI D : Addr} {u : Value} {mg : Str → Option Value} {R : Result → Shared → Prop}
theorem xc_init {e t0 : Addr} (XI : XInit P K fI D) (XC : XCls K C fI D) (X : K.In h) (hg : h.Ns mainGlobals mg) (hm : mg "super" = none) (hb : ∃ mb, h.Ns builtinsNs mb ∧ ∀ x : Str, x ≠ "__name__" → mb x = bootBuiltins x) (nl : h.NoLimit)
    (room : A.depth < recursionLimit) (he : h.get? e = some (HandSPX.excO C t0)) (hKe : ∀ o, K.lookup e ≠ some o)
    (hq : ∀ h' tk' dx t1, (∀ b o, b ≠ e → h.get? b = some o → h'.get? b = some o) → h.objs.size ≤ dx → dx ≠ e → h'.get? e = some ({ cls := .ref C, dict := some dx, data := .fields #[.ref t1, .none, .none, .none, .bool false, .none] } : Obj) →
      h'.Ns1 dx (fun y => if y = "value" then some u else none) → R (.ok (.ret .none)) ⟨h', g, d, tk', os⟩) :
    codeAny (model P w) A (.call (.ref fI) ⟨[.ref e, u], []⟩) R ⟨h, g, d, t, os⟩ := by
  obtain ⟨qual, kV, doc, pm, an, cda, cc, ct, oc, od, osl, vs, ccl, cdd, ccs, file, tf, cl, cld, csl, lf, hcode, lc, hvs, hfile, lcc⟩ := XI.ex
  obtain ⟨nm, q, N, bs, bm, sn, sub, ab, col, dd, k0, k1, k2, k3, k5, hC, hbm⟩ := XC.oex.cls
  obtain ⟨cdD, hD⟩ := XI.cD
  obtain ⟨oD, hD1, hD2⟩ : ∃ oD, h.get? D = some oD ∧ oD.data = .cls cdD := by
    unfold clsIn at hD
    split at hD
    · rename_i c d cd' sl ho
      cases hD
      exact ⟨_, X _ _ ho, rfl⟩
    · cases hD
  have hcl : clsIn K C = some { name := nm, bases := bs, mro := .ref C :: bm, ns := N, qualname := q, hasDict := true, slotNames := sn, subclasses := sub, abstract := ab, collection := col, hasDel := false } := by unfold clsIn; rw [hC] <;> rfl
  have hsp := XC.sup
  unfold ks_superIn at hsp
  rw [hcl, Option.bind_some] at hsp
  refine ks_codeAny_call_defAt (s := ⟨h, g, d, t, os⟩) (binds := [("self", .ref e), ("value", u)]) (body := xiBody) room (X _ _ lf) rfl nl (codeRec_of X hcode) rfl (BindsTo.of_eq rfl) (show ∀ x ∈ xiScope.names, x.2 ≠ .cell by decide) (by intro x hx; simp only [List.mem_cons, List.not_mem_nil, or_false] at hx; rcases hx with rfl | rfl <;> rfl) (fun h₀ hns hk => ?_)
  have X0 : K.In h₀ := X.keeps hk
  obtain ⟨mb, hmb, hbb⟩ := hb
  have heE : h₀.get? e = some (HandSPX.excO C t0) := hk _ _ he
  have hxC : e ≠ C := fun z => by
    have := X _ _ hC
    rw [← z, he] at this
    cases this
  have hsz : h.objs.size ≤ h₀.objs.size := Nat.le_of_lt hns.lt
  have nlt : ∀ {b : Addr} {o : Obj}, h.get? b = some o → b ≠ h.objs.size := fun z => Nat.ne_of_lt (Heap.lt_size z)
  refine ks_wpAt_execs_cons (ks_wpAt_Expr_any (ks_wpAt_MethodCall ?_))
  refine ks_wpAt_super_base (env := ksEnv qual xiScope h.objs.size fI (.ref cda) cc) (s := ⟨h₀, g, d, t + 2, os⟩) rfl rfl (by decide) rfl (X0 _ _ lf) rfl rfl rfl (X0 _ _ lc) rfl hvs hfile XI.top ?_
  refine ks_loadName_global rfl rfl (loadGlobal_builtin (env := ksEnv qual xiScope h.objs.size fI (.ref cda) cc) (hg.keeps hk) hm (hmb.keeps hk) ((hbb _ (by decide)).trans (by first | boot_by_name | rfl | kernel_rfl)) ⟨rfl, ?_⟩)
  refine wpAny_loadName_free rfl rfl rfl ⟨_, X0 _ _ lcc, rfl⟩ ?_
  refine wpAny_loadName_local rfl rfl hns rfl ?_
  refine ks_wpAny_isType_cls (hk _ _ hD1) hD2 ⟨rfl, ?_⟩
  refine ks_wpAny_call_super (hk _ _ hD1) hD2 heE rfl (fun c z => nomatch z) (looks_mroIn X0 XC.sub) (fun h1 hso k1 => ?_)
  have X1 : K.In h1 := X0.keeps k1
  have hI : Looks (model P w) h1 (isInstance (.ref e) (.type "ValueError")) true :=
    (InstAt.type (⟨k1 _ _ heE, rfl, rfl, trivial⟩ : InstAt h1 e (HandSPX.excO C t0) C none)).andThen (looks_subIn X1 XC.ve)
  refine kxs_getMethod kxs_ValueError hso (looks_opaque X1 XI.opq) (l₀ := .ref C :: bm) (fun A Q E s k q => wpAny_bind ((looks_clsIn X1 hcl) A _ E s k (wpAny_pure q))) rfl X1 hsp hI hxC (by decide) ?_
  have k2 : ∀ b o, h1.get? b = some o → (h1.push (kxs_mw "ValueError.__init__" e)).get? b = some o := fun b o z => Heap.get?_push_of_some _ z
  have hu : (h1.push (kxs_mw "ValueError.__init__" e)).get? h1.objs.size = some (kxs_mw "ValueError.__init__" e) := Heap.get?_push_at rfl rfl
  have n2 : (h1.push (kxs_mw "ValueError.__init__" e)).Ns h.objs.size (fun x => ([("self", Value.ref e), ("value", u)] : List (Str × Value)).reverse.lookup x) := (hns.keeps k1).keeps k2
  refine kxs_callWith (i := "ValueError.__init__") (x := e) rfl (evalArgs_plain ?_)
  refine Calls.spliced_cons (ESX.ldL n2 rfl ?_)
  refine Calls.spliced_nil ⟨hu, ?_⟩
  have he2 : (h1.push (kxs_mw "ValueError.__init__" e)).get? e = some (HandSPX.excO C t0) := k2 _ _ (k1 _ _ heE)
  have hC2 := k2 _ _ (k1 _ _ (hk _ _ (X _ _ hC)))
  refine wpAny_call (codeAny_of_tree ?_)
  show wpAny _ _ (callAny (.ref h1.objs.size) ⟨[u], []⟩) _ _ _
  simp only [callAny]
  refine wpAny_bind (wpAny_load hu ?_)
  simp only [kxs_mw, show (Value.type "method-wrapper" == Value.type "method" || Value.type "method-wrapper" == Value.type "builtin_function_or_method" || Value.type "method-wrapper" == Value.type "method-wrapper") = true by decide, if_true]
  refine KFB.if_so (by decide) ?_
  refine wpAny_bind (check_bound_init F.excBase_ValueError.toExcCallFacts hC2 he2 rfl ?_)
  refine wpAny_bind (wpAny_pure (wpAny_pure ?_))
  refine ⟨plainId_quiet F.excBase_ValueError.init.plain _, codeAny_builtin F.excBase_ValueError.initEntry ?_⟩
  refine exc_init_tree (cls := .ref C) (t0 := t0) (dv := none) (c2 := .none) (c3 := .none) (b4 := .bool false) he2 (by show 1 ≤ sizeLine; rw [sizeLine_eq]; omega) (fun h3 k3 e3 t3 => ?_)
  have neL : h.objs.size ≠ e := fun z => nlt he z.symm
  have n3 : h3.Ns h.objs.size (fun x => ([("self", Value.ref e), ("value", u)] : List (Str × Value)).reverse.lookup x) := by
    obtain ⟨o, es, ep, ho, r⟩ := n2
    exact ⟨o, es, ep, k3 _ _ neL ho, r⟩
  have k03 : ∀ b o, b ≠ e → h.get? b = some o → h3.get? b = some o := fun b o nb z => k3 b o nb (k2 _ _ (k1 _ _ (hk _ _ z)))
  have X3 : K.In h3 := fun b o z => k03 b o (fun y => hKe o (y ▸ z)) (X _ _ z)
  have sz3 : h.objs.size ≤ h3.objs.size := Nat.le_of_lt n3.lt
  show _root_.PySem.wpAt _ _ _ (execs _ _) _ _ _
  refine ks_wpAt_execs_cons (ks_wpAt_Assign_Attr (wpAt_of_wpAny (ESX.ldL n3 rfl (ESX.ldL n3 rfl ?_))))
  refine set_plain X3 (ox := HandSPX.excO C _) (od := none) ⟨e3, rfl, rfl, trivial⟩ XC.oex.sa ?_
  refine HandSPX.exc_osa X3 e3 hcl (show HandSPX.refsVE (.ref C :: bm) = true from hbm) rfl XC.noV (fun h' tk' dx k dn dne hx hn => ?_)
  refine wpAt_of_wpAny (wpAny_execs_nil ?_)
  exact hq h' tk' dx _ (fun b o nb z => k b o nb (k03 b o nb z)) (Nat.le_trans sz3 dn) dne hx hn
/-- C(u) -/
theorem xc_call {Q : Value → Shared → Prop} (XI : XInit P K fI D) (XC : XCls K C fI D) (X : K.In h) (hg : h.Ns mainGlobals mg) (hm : mg "super" = none) (hb : ∃ mb, h.Ns builtinsNs mb ∧ ∀ x : Str, x ≠ "__name__" → mb x = bootBuiltins x) (nl : h.NoLimit)
    (room : A.depth + 1 < recursionLimit)
    (hq : ∀ h' tk' e dx t1, (∀ b o, h.get? b = some o → h'.get? b = some o) → h.objs.size ≤ e → h.objs.size ≤ dx → dx ≠ e → h'.get? e = some ({ cls := .ref C, dict := some dx, data := .fields #[.ref t1, .none, .none, .none, .bool false, .none] } : Obj) →
      h'.Ns1 dx (fun y => if y = "value" then some u else none) → Q (.ref e) ⟨h', g, d, tk', os⟩) :
    wpAny (model P w) A (call (.ref C) [u]) Q E ⟨h, g, d, t, os⟩ := by
  obtain ⟨nm, q, N, bs, bm, sn, sub, ab, col, dd, k0, k1, k2, k3, k5, hC, hbm⟩ := XC.oex.cls
  have kk : ∀ b o, h.get? b = some o → ((h.push (kdv_tup [u])).push (HandSPX.excO C h.objs.size)).get? b = some o := fun b o e => Heap.get?_push_of_some _ (Heap.get?_push_of_some _ e)
  have hget : ((h.push (kdv_tup [u])).push (HandSPX.excO C h.objs.size)).get? (h.objs.size + 1) = some (HandSPX.excO C h.objs.size) := by heap_get
  refine wpAny_call (HandSPX.call_own F.excBase_ValueError (fun Y => HandSPX.refsVE_contains Y bm hbm) (X _ _ hC) (looks_findIn X XC.ini) (fun self => bind_fn X self XI.tI) (by show 1 ≤ sizeLine; rw [sizeLine_eq]; omega) ?_)
  refine xc_init XI XC (X.keeps kk) (hg.keeps kk) hm (let ⟨mb, h1, h2⟩ := hb; ⟨mb, h1.keeps kk, h2⟩) (nl.keeps kk) (by rw [make_depth]; exact room) hget (fun o z => absurd (Heap.lt_size (X _ _ z)) (Nat.not_lt.mpr (Nat.le_succ _))) (fun h' tk' dx t1 k dn dne hx hn => ?_)
  refine ⟨rfl, hq h' tk' (h.objs.size + 1) dx t1 (fun b o z => k b o (fun y => by rw [y] at z; exact absurd (Heap.lt_size z) (Nat.not_lt.mpr (Nat.le_succ _))) (kk b o z)) (Nat.le_succ _) (Nat.le_trans ?_ dn) dne hx hn⟩
  rw [Heap.size_push, Heap.size_push]
  omega
end
end Pv

/-! Pv13: defs that run where no repr is under way (the guards are empty), so that repr can be walked. -/
namespace Pv
open PySem PySem.Spec PyProof.Rows L2

structure FnG (P : Program) (w : World) (K : PySem.W.Frag) (mg : Str → Option Value) (base : Heap) (k : Nat) (f : Addr) (fd : FuncData) (ps : List Str) (sp : Sp) : Prop where
  len : ∀ vs H Q E, sp vs H Q E → vs.length = ps.length
  run : ∀ (A : Around) (outer : List PySem.Env) (s : Shared) (H : Hp) (args : Args) (us : List Value) (vs : List V) (Q : VK) (E : XK), A.guards = some [] → Room k A → Env0 P w K mg base A outer s H → BindsTo s fd args (ps.zip us) → Vals vs us → sp vs H Q E →
    codeAny (model P w) A (.call (.ref f) args) (CR (L2.CX P w) outer P w H s Q E) s
theorem FnG.of {P : Program} {w : World} {K : PySem.W.Frag} {mg : Str → Option Value} {base : Heap} {k : Nat} {f : Addr} {fd : FuncData} {ps : List Str} {sp : Sp} (F : FnOk P w K mg base (L2.CX P w) k f fd ps sp) : FnG P w K mg base k f fd ps sp :=
  ⟨F.len, fun A outer s H args us vs Q E _ => F.run A outer s H args us vs Q E⟩
theorem FnG.mono {P : Program} {w : World} {K : PySem.W.Frag} {mg : Str → Option Value} {base : Heap} {j k : Nat} {f : Addr} {fd : FuncData} {ps : List Str} {sp : Sp} (F : FnG P w K mg base j f fd ps sp) (h : j ≤ k) : FnG P w K mg base k f fd ps sp :=
  ⟨F.len, fun A outer s H args us vs Q E g hr => F.run A outer s H args us vs Q E g (hr.mono h)⟩
theorem FnG.imp {P : Program} {w : World} {K : PySem.W.Frag} {mg : Str → Option Value} {base : Heap} {k : Nat} {f : Addr} {fd : FuncData} {ps : List Str} {sp sp' : Sp} (F : FnG P w K mg base k f fd ps sp) (h : ∀ vs H Q E, sp' vs H Q E → sp vs H Q E) : FnG P w K mg base k f fd ps sp' :=
  ⟨fun vs H Q E q => F.len vs H Q E (h _ _ _ _ q), fun A outer s H args us vs Q E g hr he hb hv hs => F.run A outer s H args us vs Q E g hr he hb hv (h _ _ _ _ hs)⟩

theorem fng_of {P : Program} {w : World} {K : PySem.W.Frag} {mg : Str → Option Value} {base : Heap} {x qual : Str} {st : Stmt} {f : Addr} {fd : FuncData} {N ps : List Str} {k : Nat} {sp : Sp} (Fu : Fun K x qual st f fd) (S : FnScope N ps (defScope st))
    (len : ∀ vs H Q E, sp vs H Q E → vs.length = ps.length)
    (hbody : ∀ (cdv : Value) (A : Around) (outer : List PySem.Env) (s : Shared) (H : Hp) (vs : List V) (Q : VK) (E : XK), A.guards = some [] → Room k (A.deeper (envOfC qual (defScope st) s.heap.objs.size f cdv)) → sp vs H Q E →
      ∃ t, PSs (cxOf (L2.CX P w) P w K mg base N qual (defScope st) f cdv A outer s H E) (defBody st) t ∧ t { nx := fun _ H' => Q .non H', rt := Q } (start N vs) H) : FnG P w K mg base (k + 1) f fd ps sp := by
  obtain ⟨oc, od, kV, doc, pm, an, cdv, ct, osl, rfl, lk, hcd⟩ := Fu.ex
  refine ⟨len, fun A outer s H args us vs Q E g hr e0 hb r hsp => ?_⟩
  have hl := len _ _ _ _ hsp
  have kb : ∀ b o, base.get? b = some o → s.heap.get? b = some o := fun b o e => (e0.bs b o e).1
  have KX : K.In s.heap := e0.mod.kin.keeps kb
  have hkind : ∀ y ∈ ps.zip us, (defScope st).names.lookup y.1 = some .local ∨ ((defScope st).names.lookup y.1 = some .cell ∧ ((cellsFrom (s.heap.objs.size + 1) (defScope st).names []).lookup y.1).isSome = true) := fun ⟨n, v⟩ hy =>
    (S.par n (List.of_mem_zip hy).1).imp id fun q => ⟨q, PySem.W.cellsFrom_some _ _ _ (.inl q)⟩
  refine codeAny_call_function hr.depth (KX _ _ lk) rfl S.co S.gen rfl (PySem.W.codeRec_of KX hcd) (hb _ _ _ _ ?_)
  refine wpAny_newFunctionEnv_cells S.kind hkind fun env he s1 x => ?_
  subst he
  refine ⟨(e0.mod.nolimit.keeps kb).keeps x.toInCall.keep, codeAny_func ?_⟩
  obtain ⟨t, ht, hq⟩ := hbody cdv A outer s H vs Q E g (hr.deeper _) hsp
  have I := inv_start (CX := L2.CX P w) (E := E) S hr.hd e0 hl r x
  refine wpAny_mono (ht.run [] s1 (start N vs) H _ I hq) (fun fl s' hs => ?_) fun e s' hs => hs
  cases fl with
  | ret u =>
    obtain ⟨v, σ', H', J, rv, q⟩ := hs
    exact ⟨v, H', J.os, J.bare, J.base, J.hok, rv, q⟩
  | next =>
    obtain ⟨σ', H', J, q⟩ := hs
    exact ⟨V.non, H', J.os, J.bare, J.base, J.hok, rfl, q⟩
  | brk => obtain ⟨_, _, _, q⟩ := hs; exact False.elim q
  | cont => obtain ⟨_, _, _, q⟩ := hs; exact False.elim q

theorem ok_defG {P : Program} {w : World} {K : PySem.W.Frag} {mg : Str → Option Value} {base : Heap} {T : Tbl} {x qual : Str} {st : Stmt} {f : Addr} {fd : FuncData} {N ps : List Str} {k : Nat} {m : MS} {φ : Fn} (F : Fun K x qual st f fd) (S : FnScope N ps (defScope st))
    (hb : ∀ (cdv : Value) (A : Around) (outer : List PySem.Env) (s : Shared) (H : Hp) (E : XK), A.guards = some [] → Room k (A.deeper (envOfC qual (defScope st) s.heap.objs.size f cdv)) → Bd (cxOf (L2.CX P w) P w K mg base N qual (defScope st) f cdv A outer s H E) E →
      PSs (cxOf (L2.CX P w) P w K mg base N qual (defScope st) f cdv A outer s H E) (defBody st) (rdS K T E m))
    (hφ : ∀ ds μ, ds.length = ps.length → φ ds μ = .bad ∨ bodyR (m (startE N.length ds) μ) = φ ds μ) : FnG P w K mg base (k + 1) f fd ps (spD K T ps.length φ) := by
  refine fng_of F S (fun vs H Q E h => ?_) (fun cdv A outer s H vs Q E g hr h => ⟨_, hb cdv A outer s H E g hr ⟨?_, ?_⟩, ?_⟩)
  · obtain ⟨Z, μ, ds, hl, _, r, _⟩ := h
    rw [r.length]; exact hl
  · exact passes_call (W := fun c d _ H => E c d H) (takes_of rfl rfl rfl rfl) fun _ _ _ _ h => h
  · exact passes_of rfl
  · obtain ⟨Z, μ, ds, hl, b, r, A⟩ := h
    refine ⟨⟨H, Z, [], none⟩, Z, startE N.length ds, μ, ⟨b, slots_start r⟩, ?_⟩
    rcases hφ ds μ hl with e | e
    · rw [e] at A; exact A.elim
    · rw [← e] at A
      cases q : m (startE N.length ds) μ with
      | next ρ1 μ1 => rw [q] at A; exact fun σ' Z' H' G' l => A .non Z' H' G'.base l rfl
      | ret d μ1 => rw [q] at A; exact A
      | brk ρ1 μ1 => rw [q] at A; exact A.elim
      | cont ρ1 μ1 => rw [q] at A; exact A.elim
      | exc c d μ1 => rw [q] at A; exact A
      | bad => rw [q] at A; exact A.elim
def CalleeG (P : Program) (w : World) (K : PySem.W.Frag) (mg : Str → Option Value) (base : Heap) (T : Tbl) (x : Str) (k n : Nat) (φ : Fn) : Prop :=
  ∃ f fd ps, FnG P w K mg base k f fd ps (spD K T n φ) ∧ mg x = some (.ref f) ∧ PySem.W.keepIn K (.ref f) = true ∧ Binds K fd ps []
theorem CalleeG.mk {P : Program} {w : World} {K : PySem.W.Frag} {mg : Str → Option Value} {base : Heap} {T : Tbl} {x qual : Str} {st : Stmt} {k n : Nat} {φ : Fn} {f : Addr} {fd : FuncData} {ps : List Str} (F : Fun K x qual st f fd) (G : FnG P w K mg base k f fd ps (spD K T n φ)) (hm : mg x = some (.ref f)) (hb : Binds K fd ps []) :
    CalleeG P w K mg base T x k n φ := ⟨f, fd, ps, G, hm, F.kp, hb⟩
theorem CalleeG.imp {P : Program} {w : World} {K : PySem.W.Frag} {mg : Str → Option Value} {base : Heap} {T : Tbl} {x : Str} {k n : Nat} {φ ψ : Fn} (C : CalleeG P w K mg base T x k n φ) (h : ∀ ds μ, ds.length = n → ψ ds μ = .bad ∨ φ ds μ = ψ ds μ) : CalleeG P w K mg base T x k n ψ := by
  obtain ⟨f, fd, ps, G, r⟩ := C
  refine ⟨f, fd, ps, G.imp fun vs H Q E q => ?_, r⟩
  obtain ⟨Z, μ, ds, hl, b, rr, A⟩ := q
  refine ⟨Z, μ, ds, hl, b, rr, ?_⟩
  rcases h ds μ hl with e | e
  · rw [e] at A; exact A.elim
  · rw [e]; exact A
section
variable {X : Cx} {T : Tbl} {xk : XK} {k n : Nat} {φ : Fn} {x : Str} {p pos : Pos} {e : Expr} {es : List Expr} {ml : M (List D)}
theorem e_fnG (C : CalleeG X.prog X.w X.K X.mg X.base T x k n φ) (hg0 : X.A.guards = some []) (hr : Room k X.A) (bd : Bd X xk) (hg : Gl X x) (ha : PA X (e :: es) (rdL X.K T xk ml)) (hdb : (x == ("__debug__" : Str)) = false := by decide) (he : starEach (e :: es) X.env = (false, eval e X.env) :: starEach es X.env := by rfl) (hpl : (backTo pos (starEach es X.env)).any (·.1) = false := by rfl) :
    PE X (.Call (.Name x p) (e :: es) [] pos) (rdE X.K T xk (mCall n φ ml)) := by
  obtain ⟨f, fd, ps, G, hm, hk, hb⟩ := C
  refine PE.imp (t := tCall (spD X.K T n φ) [] xk (rdL X.K T xk ml)) ⟨fun pins s σ H Q I h => ?_⟩ fun σ H Q ⟨F, Z, ρ, μ, G, A⟩ => ⟨F, Z, ρ, μ, G, A.bnd.imp (Le.refl Z) fun ds ρ1 μ1 q vs Z1 H1 G1 l1 r1 => by
    show spD X.K T n φ (vs ++ []) H1 Q xk
    rw [List.append_nil]
    exact call_rd G1 r1 l1 q⟩
  refine wpAny_Call_Name_kw (ld_glob I hg hm ?_ hdb)
  refine PySem.W.callWith_K (h₀ := X.base) I.ok.mod.kin hk (thn (ha.run pos pins s σ H _ I h) fun us s1 ⟨vs, H1, I1, r, q⟩ => ⟨I1.kIn, ?_⟩) he hpl
  have q' : spD X.K T n φ vs H1 Q xk := by
    have q2 : spD X.K T n φ (vs ++ []) H1 Q xk := q
    rw [List.append_nil] at q2
    exact q2
  have hl : us.length = ps.length := by rw [← r.length]; exact G.len _ _ _ _ q'
  have b := hb s1 us I1.kIn (by rw [List.append_nil]; exact hl)
  rw [List.append_nil] at b
  refine wpAny_call (codeAny_mono (G.run X.A X.stack s1 H1 ⟨us, []⟩ us vs Q xk hg0 hr I1.env0 b r q') fun r s' hq => ?_)
  cases r with
  | error e => exact bd.pass pins σ H1 s1 e s' I1 hq
  | ok fl =>
    cases fl with
    | ret u => exact I1.after hq
    | next => exact False.elim hq
    | brk => exact False.elim hq
    | cont => exact False.elim hq
end
end Pv

/-! Pv14: repr of data, dicts among it. -/
namespace Pv
open PySem PySem.Spec PyProof.Rows L2

def keyP : Key → PyData
  | .inl i => .int i
  | .inr s => .str s
mutual
def toS : D → Option PyData
  | .non => some .none
  | .bl b => some (.bool b)
  | .int i => some (.int i)
  | .str s => some (.str s)
  | .tup l => (toSL l).map .tuple
  | .lst l => (toSL l).map .list
  | .frl l => some (.list (l.map .int))
  | .dK l => (toSK l).map .dict
  | _ => none
def toSL : List D → Option (List PyData)
  | [] => some []
  | d :: ds => match toS d with
    | none => none
    | some p => match toSL ds with
      | none => none
      | some ps => some (p :: ps)
def toSK : List (Key × D) → Option (List (PyData × PyData))
  | [] => some []
  | (k, d) :: ds => match toS d with
    | none => none
    | some p => match toSK ds with
      | none => none
      | some ps => some ((keyP k, p) :: ps)
end
/-- sys.modules is a dict -/
def SmOk (K : PySem.W.Frag) : Prop := ∃ o, K.lookup sysModules = some o ∧ o.cls = .type "dict"
section
variable {X : Cx} {T : Tbl} {pins : List (Addr × Obj)} {σ : L2.St} {H : Hp} {s : Shared} {et : List Addr}
theorem sm_ne (I : Inv X pins σ H s) (sm : SmOk X.K) {a : Addr} {o : Obj} (h : s.heap.get? a = some o) (hc : o.cls ≠ .type "dict") : sysModules ≠ a := fun z => by
  obtain ⟨o', h1, h2⟩ := sm
  have := I.kIn _ _ h1
  rw [z, h] at this
  cases this
  exact hc h2
theorem ints_reads {h : Heap} : ∀ {l : List Int} {us : List Value}, Vals (l.map V.int) us → ReadsAll h us (l.map .int) []
  | [], _, r => by cases r; exact .nil
  | i :: l, _, r => by
    cases r with
    | cons r1 r2 =>
      obtain ⟨t, rfl⟩ := r1
      exact .cons (as := []) (bs := []) (.int i t) (ints_reads r2)
mutual
theorem rep_reads (I : Inv X pins σ H s) (sm : SmOk X.K) : ∀ (d : D) {p : PyData} {v : V} {u : Value}, toS d = some p → Rep X.K T ⟨H, et⟩ d v → RelV v u → ∃ as, Reads s.heap u p as ∧ sysModules ∉ as
  | .non, _, _, _, e, r, q => by cases e; rw [show _ = V.non from r] at q; cases q; exact ⟨_, .none, by simp⟩
  | .bl b, _, _, _, e, r, q => by cases e; rw [show _ = V.bl b from r] at q; cases q; exact ⟨_, .bool b, by simp⟩
  | .int b, _, _, _, e, r, q => by cases e; rw [show _ = V.int b from r] at q; obtain ⟨t, rfl⟩ := q; exact ⟨_, .int b t, by simp⟩
  | .str b, _, _, _, e, r, q => by cases e; rw [show _ = V.str b from r] at q; obtain ⟨t, rfl⟩ := q; exact ⟨_, .str b t, by simp⟩
  | .tup l, p, _, _, e, ⟨a, vs, ev, h, r⟩, q => by
    simp only [toS, Option.map_eq_some_iff] at e
    obtain ⟨ps, e1, e2⟩ := e
    subst e2; subst ev
    cases q
    obtain ⟨its, rv, ⟨o, ho, hc, n, hd⟩, _⟩ := I.tuple h
    obtain ⟨as, h1, h2⟩ := rep_readsL I sm l e1 r rv
    exact ⟨as, .tuple ho hc hd h1, h2⟩
  | .lst l, p, _, _, e, ⟨a, vs, ev, h, r⟩, q => by
    simp only [toS, Option.map_eq_some_iff] at e
    obtain ⟨ps, e1, e2⟩ := e
    subst e2; subst ev
    cases q
    obtain ⟨its, rv, ⟨o, n, ho, hc, _, hd⟩, _⟩ := I.list (.of h)
    obtain ⟨as, h1, h2⟩ := rep_readsL I sm l e1 r rv
    refine ⟨_, .list ho hc hd h1, fun z => ?_⟩
    rcases List.mem_cons.mp z with z | z
    · exact sm_ne I sm ho (by rw [hc]; decide) z
    · exact h2 z
  | .frl l, p, _, _, e, ⟨a, ev, h⟩, q => by
    cases e; subst ev; cases q
    obtain ⟨its, rv, ⟨o, n, ho, hc, _, hd⟩, _⟩ := I.list h
    refine ⟨_, .list ho hc hd (ints_reads rv), fun z => ?_⟩
    rcases List.mem_cons.mp z with z | z
    · exact sm_ne I sm ho (by rw [hc]; decide) z
    · cases z
  | .dK l, p, _, _, e, ⟨a, kvs, ev, h, r⟩, q => by
    simp only [toS, Option.map_eq_some_iff] at e
    obtain ⟨ps, e1, e2⟩ := e
    subst e2; subst ev
    cases q
    obtain ⟨_, hsm, vs, kv, o, es, ep, ho, hx, hd, _, hp, _⟩ := (show ObjOk X.prog X.w H s.heap a (.dK kvs) from I.hok a _ h)
    obtain ⟨as, h1, h2, h3⟩ := rep_readsK I sm l e1 r kv hp
    have hs : sysModules ≠ a := fun z => by rw [← z] at hsm; exact absurd hsm (by simp)
    refine ⟨_, .dict ho hx.1 hd h1 h2, fun z => ?_⟩
    simp only [List.cons_append, List.nil_append, List.mem_cons] at z
    rcases z with z | z
    · exact hs z
    · exact h3 z
  | .dT _, _, _, _, e, _, _ => by cases e
  | .obj _ _, _, _, _, e, _, _ => by cases e
  | .ref _, _, _, _, e, _, _ => by cases e
  | .exc _ _, _, _, _, e, _, _ => by cases e
theorem rep_readsL (I : Inv X pins σ H s) (sm : SmOk X.K) : ∀ (ds : List D) {ps : List PyData} {vs : List V} {us : List Value}, toSL ds = some ps → RepL X.K T ⟨H, et⟩ ds vs → Vals vs us → ∃ as, ReadsAll s.heap us ps as ∧ sysModules ∉ as
  | [], _, _, _, e, r, q => by
    cases e
    rw [show _ = [] from r] at q
    cases q
    exact ⟨_, .nil, by simp⟩
  | d :: ds, _, _, _, e, ⟨v, vs, ev, r1, r2⟩, q => by
    simp only [toSL] at e
    cases q1 : toS d with
    | none => rw [q1] at e; cases e
    | some p =>
      rw [q1] at e
      dsimp only at e
      cases q2 : toSL ds with
      | none => rw [q2] at e; cases e
      | some ps =>
        rw [q2] at e
        cases e
        subst ev
        cases q with
        | cons w1 w2 =>
          obtain ⟨as, h1, h2⟩ := rep_reads I sm d q1 r1 w1
          obtain ⟨bs, h3, h4⟩ := rep_readsL I sm ds q2 r2 w2
          exact ⟨_, .cons h1 h3, fun z => (List.mem_append.mp z).elim h2 h4⟩
theorem rep_readsK (I : Inv X pins σ H s) (sm : SmOk X.K) : ∀ (ds : List (Key × D)) {ps : List (PyData × PyData)} {kvs : List (Key × V)} {vs : List (Key × Value)} {es : List DictEntry}, toSK ds = some ps → RepK X.K T ⟨H, et⟩ ds kvs → KV kvs vs → Pairs (mixKind X.prog X.w) es vs →
    ∃ as, ReadsAll s.heap (es.map (·.key)) (ps.map (·.1)) [] ∧ ReadsAll s.heap (es.map (·.val)) (ps.map (·.2)) as ∧ sysModules ∉ as
  | [], _, _, _, _, e, r, q, z => by
    cases e
    rw [show _ = [] from r] at q
    cases q
    cases z
    exact ⟨_, .nil, .nil, by simp⟩
  | (k, d) :: ds, _, _, _, _, e, ⟨v, kvs, ev, r1, r2⟩, q, z => by
    simp only [toSK] at e
    cases q1 : toS d with
    | none => rw [q1] at e; cases e
    | some p =>
      rw [q1] at e
      dsimp only at e
      cases q2 : toSK ds with
      | none => rw [q2] at e; cases e
      | some ps =>
        rw [q2] at e
        cases e
        subst ev
        cases q with
        | cons w1 w2 =>
          obtain ⟨e1, rv⟩ := w1
          cases z with
          | cons z1 z2 z3 =>
            obtain ⟨as, h1, h2⟩ := rep_reads I sm d q1 r1 rv
            obtain ⟨bs, h3, h4, h5⟩ := rep_readsK I sm ds q2 r2 w2 z3
            refine ⟨as ++ bs, ?_, ?_, fun z => (List.mem_append.mp z).elim h2 h5⟩
            · simp only [List.map_cons]
              refine .cons (as := []) (bs := []) ?_ h3
              dsimp only at e1
              rw [← e1] at z1
              rcases keyIs_shape z1 with ⟨i, t, ek, ev⟩ | ⟨x, t, ek, ev⟩
              · rw [ek, ev]; exact .int i t
              · rw [ek, ev]; exact .str x t
            · simp only [List.map_cons]
              rw [z2]
              exact .cons h1 h4
end
end
/-- repr -/
def reprOk (p : PyData) : Bool := p.showable && (decide (p.depth ≤ 60) && decide (p.shown.length ≤ 1000000))
def reprD : List D → Option D
  | [d] => (toS d).bind fun p => if reprOk p then some (.str p.shown) else none
  | _ => none
def rRepr (K : PySem.W.Frag) (T : Tbl) : List V → Hp → VK → Prop := fun xs H Q => ∃ x d p et, xs = [x] ∧ Rep K T ⟨H, et⟩ d x ∧ toS d = some p ∧ reprOk p = true ∧ Q (.str p.shown) H
theorem cs_repr {K : PySem.W.Frag} {T : Tbl} : CallS K T (rRepr K T) reprD := fun Z H ds vs z Q s p h o => by
  unfold reprD at h
  split at h
  · rename_i d
    cases q : toS d with
    | none => rw [q] at h; cases h
    | some pp =>
      rw [q] at h
      simp only [Option.bind_some] at h
      split at h
      · rename_i hk
        cases h
        obtain ⟨v, e, r⟩ := p.one
        exact ⟨v, d, pp, Z.et, e, r.full s, q, hk, o.at s rfl⟩
      · cases h
  · cases h
theorem cr_repr {X : Cx} {T : Tbl} (hg : X.A.guards = some []) (hu : X.A.units + 64 < cLine) (sm : SmOk X.K) : CallR X (.builtin "repr") (rRepr X.K T) := by
  intro pins s σ H xs us Q I r h
  obtain ⟨x, d, p, et, rfl, rp, e, hk, q⟩ := h
  obtain ⟨u, rfl, ru⟩ := vals1 r
  simp only [reprOk, Bool.and_eq_true, decide_eq_true_eq] at hk
  obtain ⟨hs, hd, hz⟩ := hk
  have hz' : p.shown.length ≤ sizeLine := by rw [sizeLine_eq]; omega
  obtain ⟨as, rd, ns⟩ := rep_reads I sm d e rp ru
  have fin : ∀ h' u tk, (∀ b o, s.heap.get? b = some o → h'.get? b = some o) → EP X pins σ Q (.str p.shown u) { s with heap := h', toks := tk } := fun h' u tk k =>
    ⟨.str p.shown, H, I.kept (t' := tk) k, ⟨_, rfl⟩, q⟩
  cases rd with
  | none => exact PySem.P.repr_of_none (fin _ _ _ fun _ _ z => z)
  | bool b => exact PySem.P.repr_of_bool (fin _ _ _ fun _ _ z => z)
  | int i t => exact PySem.P.repr_of_int (of_decide_eq_true hs) (fin _ _ _ fun _ _ z => z)
  | str x t => exact PySem.P.repr_of_str (fin _ _ _ fun _ _ z => z) hz'
  | list h1 h2 h3 h4 => exact repr_of_reads' (.list h1 h2 h3 h4) hs (fun _ => ns) hg (by omega) (fun _ _ z => z) fin hz'
  | tuple h1 h2 h3 h4 => exact repr_of_reads' (.tuple h1 h2 h3 h4) hs (fun _ => ns) hg (by omega) (fun _ _ z => z) fin hz'
  | dict h1 h2 h3 h4 h5 => exact repr_of_reads' (.dict h1 h2 h3 h4 h5) hs (fun _ => ns) hg (by omega) (fun _ _ z => z) fin hz'
end Pv

/-! Pv15: own exceptions as values: making, .value, isinstance. -/
namespace Pv
open PySem PySem.Spec PyProof.Rows L2
theorem Pk.exc {K : PySem.W.Frag} {T : Tbl} {Z : Zt} {H : Hp} {c : Nat} {d : D} {v : V} (s : Same Z.hp H) (h : Pk K T Z H (.exc c d) v) : ∃ a dx x, v = .ref a ∧ H a = some (exo a (T.exc c) (some dx)) ∧ H dx = some (exd dx [("value", x)]) ∧ Rep K T Z d x := by
  rcases h with ⟨a, dx, x, e, h1, h2, r⟩ | ⟨a, e, h⟩
  · exact ⟨a, dx, x, e, s _ _ h1, s _ _ h2, r⟩
  · exact h.elim
section
variable {X : Cx} {fI D0 C : Addr}
/-- C(e) -/
theorem pe_exc {x : Str} {e : Expr} {ta : TE} {p pos : Pos} (XI : XInit X.prog X.K fI D0) (XC : XCls X.K C fI D0) (gC : X.mg x = some (.ref C)) (gS : X.mg "super" = none) (hr : Room 1 X.A) (hg : Gl X x)
    (he : PE X e ta) (hs : starEach [e] X.env = (false, eval e X.env) :: starEach [] X.env := by rfl) (hdb : (x == ("__debug__" : Str)) = false := by decide) :
    PE X (.Call (.Name x p) [e] [] pos) (fun σ H Q => ta σ H fun v H1 => ∀ a dx, H1 a = none → H1 dx = none → dx ≠ a → Q (.ref a) (upd (upd H1 dx (exd dx [("value", v)])) a (exo a C (some dx)))) := by
  refine ⟨fun pins s σ H Q I h => ?_⟩
  refine wpAny_Call_Name_kw (ld_glob I hg gC ?_ hdb)
  refine PySem.W.callWith_K (h₀ := X.base) I.ok.mod.kin XC.oex.kC ?_ hs (by rfl)
  rw [hs]
  show wpAny _ _ (spliced ((false, eval e X.env) :: backTo pos (starEach [] X.env))) _ _ s
  refine Calls.spliced_cons (thn (he.run pins s σ H _ I h) fun u s1 ⟨v, H1, I1, r1, q1⟩ => ?_)
  refine Calls.spliced_nil ⟨I1.kIn, ?_⟩
  show wpAny _ _ (call (.ref C) [u]) _ _ _
  obtain ⟨hp, g, dr, tk, os⟩ := s1
  obtain ⟨mb, hmb, hbb⟩ := I1.mod.blt
  refine xc_call XI XC I1.kIn (I1.mod.glob.keeps I1.bk) gS ⟨mb, hmb.keeps I1.bk, hbb⟩ I1.nolimit (by have := hr.dp; omega) (fun h' tk' a dx t1 k ha hd dne hx hn => ?_)
  have na : H1 a = none := I1.hok.fresh ha
  have nd : H1 dx = none := I1.hok.fresh hd
  obtain ⟨G, g1, g2⟩ := restrict h' fun b => decide (b ≠ a)
  have gk : ∀ b, b ≠ a → G.get? b = h'.get? b := fun b hb => g1 b (decide_eq_true hb)
  have ga : G.get? a = none := g2 a (by simp)
  have kG : ∀ b o, hp.get? b = some o → G.get? b = some o := fun b o z => by
    rw [gk b (fun y => by rw [y] at z; exact absurd (Heap.lt_size z) (Nat.not_lt.mpr ha))]
    exact k b o z
  have hnG : G.Ns1 dx (fun y => if y = "value" then some u else none) := hn.at fun o z => (gk dx dne).trans z
  have I2 := I1.laid (t' := tk') (h' := G) (o := exd dx [("value", v)]) kG hd (exd_ok hnG (relO_put (fs := []) r1 fun g => True.intro))
  have I3 := I2.laidN (t' := tk') (h' := h') (a := a) (o := exo a C (some dx)) (fun b o z => by
    by_cases hb : b = a
    · rw [hb, ga] at z; cases z
    · exact (gk b hb).symm.trans z) ga (by rw [upd_ne dne.symm]; exact na) (exo_ok hx)
  exact ⟨.ref a, _, I3, rfl, q1 a dx na nd dne⟩
/-- e.value -/
theorem pe_exv {e : Expr} {te : TE} {pos : Pos} (he : PE X e te) (hb : attributeBase e "value" X.env (eval e X.env) = eval e X.env := by rfl) :
    PE X (.Attribute e "value" pos) (fun σ H Q => te σ H fun x H1 => ∃ a C dx v, x = .ref a ∧ H1 a = some (exo a C (some dx)) ∧ H1 dx = some (exd dx [("value", v)]) ∧ ExcC X.K C ∧ PySem.W.findIn X.K (.ref C) "value" = some none ∧ Q v H1) := by
  refine ⟨fun pins s σ H Q I h => ?_⟩
  refine attr_of hb (thn (he.run pins s σ H _ I h) fun u s1 hh => ?_)
  obtain ⟨x, H1, I1, rx, a, C, dx, v, ex, ea, ed, T, hno, q⟩ := hh
  subst ex
  obtain rfl : u = Value.ref a := rx
  obtain ⟨t1, ho⟩ := exo_at I1.hok ea
  obtain ⟨mA, hns, hr⟩ := exd_at I1.hok ed
  obtain ⟨od, hod, hl⟩ := lookIn_ns hns
  obtain ⟨u, hu, ru⟩ := RelO.some_of (v := v) (o := mA "value") (by have := hr "value"; exact this)
  have J : PySem.W.InstAt s1.heap a _ C (some od) := ⟨ho, rfl, rfl, hod⟩
  exact HandSPX.exc_get I1.kIn J T.hg T.hk T.hs (PySem.W.findObj_own T.hd hno rfl (by rw [hl, hu])) (handed_of ru) ⟨v, H1, I1.tok _, ru, q⟩
/-- isinstance(x, c), x an own exception -/
def rIsx (K : PySem.W.Frag) : List V → Hp → VK → Prop := fun xs H Q => ∃ a C dx v c cv b, xs = [.ref a, c] ∧ H a = some (exo a C (some dx)) ∧ H dx = some (exd dx [("value", v)]) ∧ ExcC K C ∧ (∀ u, RelV c u → u = cv) ∧ PySem.W.kitOne K (.ref C) cv = some b ∧ Q (.bl b) H
theorem call_isx : CallR X (.builtin "isinstance") (rIsx X.K) := by
  intro pins s σ H xs us Q I r h
  obtain ⟨a, C, dx, v, c, cv, b, rfl, ea, ed, T, hc, e, q⟩ := h
  obtain ⟨u1, u2, rfl, r1, r2⟩ := vals2 r
  cases (show u1 = Value.ref a from r1)
  have e2 := hc _ r2
  subst e2
  obtain ⟨t1, ho⟩ := exo_at I.hok ea
  obtain ⟨mA, hns, hr⟩ := exd_at I.hok ed
  obtain ⟨od, hod, hl⟩ := lookIn_ns hns
  have J : PySem.W.InstAt s.heap a _ C (some od) := ⟨ho, rfl, rfl, hod⟩
  refine PySem.W.kia_one (PySem.W.kitx_exc ?_ T.hg T.hk T.hs T.ha T.hn T.ht T.hm) I.kIn J e (fun z => nomatch z) fun tk => ⟨.bl b, H, I.tok tk, rfl, q⟩
  obtain ⟨cd, hcd, _⟩ := PySem.W.any_some T.hd
  rw [hcd]; rfl
end
/-! ### over the layer -/
def mExc (c : Nat) (m : M D) : M D := bnd m fun d => ret (.exc c d)
/-- an exception class by its number -/
structure XNum (P : Program) (K : PySem.W.Frag) (T : Tbl) (fI D0 : Addr) (n : Nat) : Prop where
  ini : XInit P K fI D0
  cls : ∀ c, c < n → XCls K (T.exc c) fI D0
section
variable {X : Cx} {T : Tbl} {xk : XK} {fI D0 : Addr} {n c : Nat}
theorem e_exc {x : Str} {e : Expr} {m : M D} {p pos : Pos} (N : XNum X.prog X.K T fI D0 n) (hc : c < n) (gC : X.mg x = some (.ref (T.exc c))) (gS : X.mg "super" = none) (hr : Room 1 X.A) (hg : Gl X x)
    (he : PE X e (rdE X.K T xk m)) (hs : starEach [e] X.env = (false, eval e X.env) :: starEach [] X.env := by rfl) (hdb : (x == ("__debug__" : Str)) = false := by decide) :
    PE X (.Call (.Name x p) [e] [] pos) (rdE X.K T xk (mExc c m)) :=
  PE.imp (pe_exc N.ini (N.cls c hc) gC gS hr hg he hs hdb) fun σ H Q ⟨F, Z, ρ, μ, G, A⟩ => ⟨F, Z, ρ, μ, G, A.bnd.imp (Le.refl Z) fun d ρ1 μ1 A1 v Z1 H1 G1 l1 r1 => fun a dx na nd ne => by
    have g1 : Grow Z1 H1 (Z1.put dx (exd dx [("value", v)])) (upd H1 dx (exd dx [("value", v)])) := Grow.put G1.base.same nd
    have G2 := G1.grow g1
    have na2 : upd H1 dx (exd dx [("value", v)]) a = none := by rw [upd_ne ne.symm]; exact na
    have g2 := Grow.put (o := exo a (T.exc c) (some dx)) G2.base.same na2
    have l2 := (g1.le G1.base.same).trans (g2.le G2.base.same)
    refine A1 (.ref a) _ _ (G2.grow g2) (l1.trans l2) ⟨a, dx, v, rfl, upd_same, ?_, Rep.mono l2 d r1⟩
    show upd (upd Z1.hp dx _) a _ dx = _
    rw [upd_ne ne, upd_same]⟩
def valueD (n : Nat) : D → Option D
  | .exc c d => if c < n then some d else none
  | _ => none
theorem e_value {e : Expr} {ma : M Ar} {pos : Pos} (N : XNum X.prog X.K T fI D0 n) (he : PE X e (rdA X.K T xk ma)) (hb : attributeBase e "value" X.env (eval e X.env) = eval e X.env := by rfl) : PE X (.Attribute e "value" pos) (rdE X.K T xk (mUn (valueD n) ma)) :=
  PE.imp (pe_exv he hb) fun σ H Q h => un_rd (X := X) (r := fun x H1 Q => ∃ a C dx v, x = .ref a ∧ H1 a = some (exo a C (some dx)) ∧ H1 dx = some (exd dx [("value", v)]) ∧ ExcC X.K C ∧ PySem.W.findIn X.K (.ref C) "value" = some none ∧ Q v H1) (fun Z H d x z Q s p e o => by
    cases d with
    | exc c d =>
      unfold valueD at e
      dsimp only at e
      split at e
      · rename_i hc
        cases e
        obtain ⟨a, dx, v, ea, h1, h2, r⟩ := p.exc s
        exact ⟨a, _, dx, v, ea, h1, h2, (N.cls c hc).ic, (N.cls c hc).noV, o.at s r⟩
      · cases e
    | _ => cases e) σ H Q h
def isxD (n : Nat) (f : Nat → Bool) : D → Option D
  | .exc c _ => if c < n then some (.bl (f c)) else none
  | _ => none
theorem e_isx {e : Expr} {ma : M Ar} {y : Str} {p p2 pos : Pos} {v : V} {cv : Value} {f : Nat → Bool} (N : XNum X.prog X.K T fI D0 n) (hv : ∀ u, RelV v u → u = cv) (hk : ∀ c, c < n → PySem.W.kitOne X.K (.ref (T.exc c)) cv = some (f c)) (hg : Gl X "isinstance") (hm : X.mg "isinstance" = none)
    (he : PE X e (rdA X.K T xk ma)) (hy : PE X (.Name y p2) (tC v)) (hst : starEach [e, .Name y p2] X.env = (false, eval e X.env) :: starEach [.Name y p2] X.env := by rfl) (hpl : (backTo pos (starEach [.Name y p2] X.env)).any (·.1) = false := by rfl) :
    PE X (.Call (.Name "isinstance" p) [e, .Name y p2] [] pos) (rdE X.K T xk (mUn (isxD n f) ma)) :=
  PE.imp (pe_callB call_isx hg hm (by first | boot_by_name | decide +kernel) (pa_cons (hs := hst) he (pa_cons hy pa_nil)) (by decide) (by decide) hst hpl) fun σ H Q h => un_rd (X := X) (r := fun x H1 Q => rIsx X.K [x, v] H1 Q) (fun Z H d x z Q s p e o => by
    cases d with
    | exc c d =>
      unfold isxD at e
      dsimp only at e
      split at e
      · rename_i hc
        cases e
        obtain ⟨a, dx, v', ea, h1, h2, r⟩ := p.exc s
        subst ea
        exact ⟨a, _, dx, v', v, cv, f c, rfl, h1, h2, (N.cls c hc).ic, hv, hk c hc, o.at s rfl⟩
      · cases e
    | _ => cases e) σ H Q h
end
end Pv

/-! Pv16: enumerate. -/
namespace Pv
open PySem L2
def enumD (l : List D) : List D := l.mapIdx fun i d => .tup [.int i, d]
def iEnumM (ml : M (List D)) : M (List D) := bnd ml fun ds => match ds with
  | [.lst l] => ret (enumD l)
  | _ => fun _ _ => .bad
theorem walks_enum {K : PySem.W.Frag} {T : Tbl} {Z : Zt} {a : Addr} {l : List D} {vs : List V} (h : Z.hp a = some (.lst vs)) (r : RepL K T Z l vs) : Walks K T (Ite K a) (enumD l) Z := fun Z' H le s i => by
  have hq : SqL K H a vs := .of (s _ _ (le.same _ _ h))
  have r' := r.mono le l
  refine ⟨fun d hd => ?_, fun _ e => ?_⟩
  · unfold enumD at hd
    rw [List.getElem?_mapIdx, Option.map_eq_some_iff] at hd
    obtain ⟨d', h1, h2⟩ := hd
    subst h2
    obtain ⟨v, h3, h4⟩ := r'.get h1
    refine ⟨⟨vs, v, hq, h3⟩, fun x H' y => ?_⟩
    obtain ⟨p, x', e1, e2, e3, e4⟩ := y
    subst e1
    subst e3
    have e5 := e4 vs hq
    rw [h3] at e5
    cases e5
    have g := Grow.put (Z := Z') (o := .tup [.int i, v]) s e2
    have l2 := g.le s
    exact ⟨Z'.put p (.tup [.int i, v]), g, p, [.int i, v], rfl, .inl (.inl upd_same), .int i, [v], rfl, rfl, v, [], rfl, h4.mono l2 d', rfl⟩
  · refine ⟨vs, hq, ?_⟩
    have : (enumD l).length ≤ i := by assumption
    rw [r'.length]
    unfold enumD at this
    rw [List.length_mapIdx] at this
    exact this
theorem i_enum {X : Cx} {T : Tbl} {xk : XK} {e : Expr} {ml : M (List D)} {p pos tpos : Pos} {elts : List Expr} {kk : Nat} (hg : Gl X "enumerate") (hm : X.mg "enumerate" = none) (ha : PA X [e] (rdL X.K T xk ml)) (hs : starEach [e] X.env = [(false, eval e X.env)] := by rfl) :
    PI X (.Tuple elts kk tpos) (.Call (.Name "enumerate" p) [e] [] pos) (rdI X.K T xk (iEnumM ml)) :=
  PI.imp (pi_enum hg hm ha hs) fun σ H R ⟨F, Z, ρ, μ, G, A⟩ => ⟨F, Z, ρ, μ, G, A.bnd.imp (Le.refl Z) fun ds ρ1 μ1 q vs Z1 H1 G1 l1 r1 => by
    split at q
    · rename_i l
      obtain ⟨v, e, h⟩ := r1.get1
      obtain ⟨a, ws, ea, h1, r⟩ := h
      subst ea
      exact ⟨a, ws, e, .of (G1.base.same _ _ h1), q _ Z1 H1 G1 l1 (walks_enum h1 r)⟩
    · exact q.elim⟩
end Pv

/-! Pv17: the head: facts of defs and of own exception classes, read off the heap behind the top. -/
namespace Pv
open PySem PySem.Spec PyProof.Rows L2
abbrev xba {a b : Bool} (h : (a && b) = true) : a = true ∧ b = true := Bool.and_eq_true_iff.mp h
/-! ### an exception class -/
def xcC (K : PySem.W.Frag) (C : Addr) : Bool := match K.lookup C with
  | some ⟨.type c, _, .cls cd, ⟨[_, _, _, _, some (.builtin n), _]⟩⟩ => decide (c = "type") && ((match cd.mro with
    | .ref C' :: bm => decide (C' = C) && HandSPX.refsVE bm
    | _ => false) && (cd.hasDict && (!cd.hasDel && decide (n = "ValueError.__new__"))))
  | _ => false
theorem xcC_ok {K : PySem.W.Frag} {C : Addr} (h : xcC K C = true) : ∃ nm q N bs bm sn sub ab col dd k0 k1 k2 k3 k5, K.lookup C = some (excClassObj nm q C N bs bm true sn sub ab col dd k0 k1 k2 k3 k5 "ValueError.__new__") ∧ HandSPX.refsVE bm = true := by
  unfold xcC at h
  split at h
  · rename_i c dd cd k0 k1 k2 k3 n k5 hl
    obtain ⟨h1, h⟩ := xba h
    obtain ⟨h2, h⟩ := xba h
    obtain ⟨h3, h⟩ := xba h
    obtain ⟨h4, h5⟩ := xba h
    have e1 := of_decide_eq_true h1
    have e5 := of_decide_eq_true h5
    obtain ⟨nm, bs, mro, ns, qn, hd, sn, sb, ab, col, del⟩ := cd
    dsimp only at h2 h3 h4
    have e4 : del = false := by simpa using h4
    cases mro with
    | nil => cases h2
    | cons v bm =>
      cases v with
      | ref C' =>
        obtain ⟨h6, h7⟩ := xba h2
        have e6 := of_decide_eq_true h6
        subst e1 e5 e6 h3 e4
        exact ⟨nm, qn, ns, bs, bm, sn, sb, ab, col, dd, k0, k1, k2, k3, k5, hl, h7⟩
      | _ => cases h2
  · cases h
def xcB (K : PySem.W.Frag) (fI D0 C : Addr) : Bool := xcC K C && (He.eqO (PySem.W.findIn K (.ref C) "__setattr__") (some (some (.builtin "object.__setattr__"))) && (decide (PySem.W.subIn K (.ref C) (.type "BaseException") = some true) &&
  (decide (PySem.W.typeIn K (.ref C) = some (.type "type")) && (PySem.W.keepIn K (.ref C) && (He.eqO (PySem.W.findIn K (.ref C) "__init__") (some (some (.ref fI))) && (decide (PySem.W.mroIn K C (.ref D0) = some true) &&
  (He.eqO (PySem.W.ks_superIn K C D0 "__init__") (some (some (.builtin "ValueError.__init__"))) && (decide (PySem.W.subIn K (.ref C) (.type "ValueError") = some true) && (He.eqO (PySem.W.findIn K (.ref C) "value") (some none) &&
  (He.eqO (PySem.W.findIn K (.ref C) "__getattribute__") (some (some (.builtin "BaseException.__getattribute__"))) && (He.eqO (PySem.W.findIn K (.ref C) "__getattr__") (some none) && (PySem.W.hasDictIn K C && (He.eqO (PySem.W.findIn K (.ref C) "__class__") (some (some (.builtin "object.__class__"))) &&
  (He.eqO (PySem.W.specialIn K (.builtin "object.__class__") "__get__") (some (some (.builtin "getset_descriptor.__get__"))) && (decide (PySem.W.takesIn K (.builtin "object.__class__") = some true) && decide (PySem.W.mroIn K C (.type "object") = some true))))))))))))))))
theorem xcB_ok {K : PySem.W.Frag} {fI D0 C : Addr} (h : xcB K fI D0 C = true) : XCls K C fI D0 := by
  obtain ⟨h1, h⟩ := xba h
  obtain ⟨h2, h⟩ := xba h
  obtain ⟨h3, h⟩ := xba h
  obtain ⟨h4, h⟩ := xba h
  obtain ⟨h5, h⟩ := xba h
  obtain ⟨h6, h⟩ := xba h
  obtain ⟨h7, h⟩ := xba h
  obtain ⟨h8, h⟩ := xba h
  obtain ⟨h9, h⟩ := xba h
  obtain ⟨h10, h⟩ := xba h
  obtain ⟨h11, h⟩ := xba h
  obtain ⟨h12, h⟩ := xba h
  obtain ⟨h13, h⟩ := xba h
  obtain ⟨h14, h⟩ := xba h
  obtain ⟨h15, h⟩ := xba h
  obtain ⟨h16, h17⟩ := xba h
  exact ⟨⟨xcC_ok h1, He.eqO_ok h2, of_decide_eq_true h3, of_decide_eq_true h4, h5⟩, He.eqO_ok h6, of_decide_eq_true h7, He.eqO_ok h8, of_decide_eq_true h9, He.eqO_ok h10,
    ⟨He.eqO_ok h11, He.eqO_ok h12, of_decide_eq_true h3, h13, He.eqO_ok h14, He.eqO_ok h15, of_decide_eq_true h16, of_decide_eq_true h17⟩⟩
/-! ### its __init__ -/
abbrev XFn : Type := Option (Str × Arguments × FuncBody × Scope × Addr × List Str × Addr)
def xFn (K : PySem.W.Frag) (f : Addr) : XFn := match K.lookup f with
  | some ⟨_, _, .func fd, _⟩ => some (fd.name, fd.params, fd.body, fd.scope, fd.globals, fd.closure.map (·.1), fd.builtins)
  | _ => none
def xFnV : XFn := some ("__init__", xiArgs, .stmts xiBody, xiScope, mainGlobals, ["__class__"], builtinsNs)
def xiB (file : Str) (K : PySem.W.Frag) (f D0 : Addr) : Bool := (match K.lookup f with
  | some ⟨_, _, .func fd, _⟩ => (match fd.code with
    | .ref cda => PySem.W.codeIn K (.ref cda) fd.qualname && (match K.lookup cda with
      | some ⟨_, _, .fields vs, _⟩ => (match (vs[2]? : Option Value) with
        | some (.str fl _) => file == fl
        | _ => false)
      | _ => false)
    | _ => false) && ((match fd.closure with
    | [(_, cc)] => (match K.lookup cc with
      | some ⟨_, _, .cell (some (.ref d)), _⟩ => decide (d = D0)
      | _ => false)
    | _ => false) && (match fd.defaults with
    | .none => true
    | _ => false))
  | _ => false) && ((PySem.W.clsIn K D0).isSome && (He.eqO (PySem.W.nsIn K cStatics "thirdparty.any") (some none) && decide (PySem.W.typeIn K (.ref f) = some (.type "function"))))
theorem xiB_ok {P : Program} {K : PySem.W.Frag} {f D0 : Addr} (h : xiB P.main.file K f D0 = true) (e : xFn K f = xFnV) (top : (P.main.scope.names.lookup ("super" : Str)).isSome = false) : XInit P K f D0 := by
  obtain ⟨h1, h⟩ := xba h
  obtain ⟨h2, h⟩ := xba h
  obtain ⟨h3, h4⟩ := xba h
  refine ⟨?_, Option.isSome_iff_exists.mp h2, top, He.eqO_ok h3, of_decide_eq_true h4⟩
  unfold xFn at e
  cases q : K.lookup f with
  | none => rw [q] at h1; cases h1
  | some o =>
    obtain ⟨oc, od, dt, osl⟩ := o
    rw [q] at h1 e
    cases dt with
    | func fd =>
      obtain ⟨n1, n2, n3, n4, n5, n6, n7, n8, n9, n10, n11, n12, n13, n14, n15⟩ := fd
      dsimp only at h1 e
      unfold xFnV at e
      simp only [Option.some.injEq, Prod.mk.injEq] at e
      obtain ⟨e1, e2, e3, e4, e5, e6, e7⟩ := e
      obtain ⟨g1, g⟩ := xba h1
      obtain ⟨g2, g3⟩ := xba g
      cases n13 with
      | ref cda =>
        dsimp only at g1
        obtain ⟨g4, g5⟩ := xba g1
        split at g2
        · rename_i y cc
          split at g2
          · rename_i cl cld d csl hcc
            have ed := of_decide_eq_true g2
            split at g5
            · rename_i ccl cdd vs ccs hcd
              split at g5
              · rename_i fl tf hv
                have ey : y = "__class__" := by simpa using e6
                cases n8 with
                | none =>
                  subst e1 e2 e3 e4 e5 e7 ey ed
                  exact ⟨n2, n9, n10, n11, n12, cda, cc, n14, oc, od, osl, vs, ccl, cdd, ccs, fl, tf, cl, cld, csl, rfl, g4, hcd, hv, g5, hcc⟩
                | _ => cases g3
              · cases g5
            · cases g5
          · cases g2
        · cases g2
      | _ => cases g1
    | _ => cases h1
/-! ### all of it -/
def xD0 (K : PySem.W.Frag) : Addr := He.ga K "PlanError"
def xfI (K : PySem.W.Frag) : Addr := He.ma K (xD0 K) "__init__"
/-- is number c an instance of class number i: PlanError is 0 -/
def xis (i c : Nat) : Bool := i == 0 || c == i
def smB (K : PySem.W.Frag) : Bool := match K.lookup sysModules with
  | some ⟨.type c, _, _, _⟩ => decide (c = "dict")
  | _ => false
theorem smB_ok {K : PySem.W.Frag} (h : smB K = true) : SmOk K := by
  unfold smB at h
  split at h
  · rename_i c _ _ _ q
    have e := of_decide_eq_true h
    subst e
    exact ⟨_, q, rfl⟩
  · cases h
def xAd (K : PySem.W.Frag) (nm : List Str) : List Addr := nm.map (He.ga K)
def xOneB (K : PySem.W.Frag) (fI D0 : Addr) (x : Str) : Bool := He.eqO (PySem.W.nsIn K mainGlobals x) (some (some (.ref (He.ga K x)))) && (xcB K fI D0 (He.ga K x) && decide (PySem.W.kitOne K (.ref (He.ga K x)) (.type "ValueError") = some true))
def xKitB (K : PySem.W.Frag) (as : List Addr) : Bool := as.zipIdx.all fun p => as.zipIdx.all fun q => decide (PySem.W.kitOne K (.ref p.1) (.ref q.1) = some (xis q.2 p.2))
def xOk (file : Str) (nm : List Str) (K : PySem.W.Frag) : Bool := xiB file K (xfI K) (xD0 K) && (smB K && ((nm.all fun x => xOneB K (xfI K) (xD0 K) x) && xKitB K (xAd K nm)))
abbrev AlX : Type := He.AlD × Bool × XFn
def obsX (file : Str) (nm : List Str) (fa : List He.Fa) (fn : List He.DefD) (K : PySem.W.Frag) : AlX := (He.obsD fa fn K, xOk file nm K, xFn K (xfI K))
def valX (fn : List He.DefD) : AlX := (He.valD fn, true, xFnV)
def asX (g : Addr → Option Obj) (n : Nat) : List Addr := sysModules :: cStatics :: He.asD g n
def obsXG (n : Nat) (file : Str) (nm : List Str) (fa : List He.Fa) (fn : List He.DefD) (g : Addr → Option Obj) : AlX := obsX file nm fa fn (He.frG g (asX g n))
def hookX (n : Nat) (file : Str) (nm : List Str) (fa : List He.Fa) (fn : List He.DefD) : PySem.W.Hook where
  α := AlX
  obs := fun s => obsXG n file nm fa fn s.heap.get?
  val := fun _ => valX fn
  says := fun _ h => ∃ K : PySem.W.Frag, K.In h ∧ obsX file nm fa fn K = valX fn
  of := fun _ _ e => ⟨_, He.frG_in, e⟩
  keeps := fun _ _ _ ⟨K, hK, c⟩ k => ⟨K, PySem.W.Frag.In.keeps hK k, c⟩
theorem obsXG_eq {n : Nat} {file : Str} {nm : List Str} {fa : List He.Fa} {fn : List He.DefD} {g : Addr → Option Obj} {s : Shared} (h : ∀ a, g a = s.heap.get? a) : obsXG n file nm fa fn g = (hookX n file nm fa fn).obs s := by
  have e : g = s.heap.get? := funext h
  rw [e] <;> rfl
/-- the exceptions' numbers -/
def xT (K : PySem.W.Frag) (nm : List Str) : Nat → Addr := fun c => (xAd K nm).getD c 0
structure XAll (P : Program) (K : PySem.W.Frag) (T : Tbl) (mg : Str → Option Value) (nm : List Str) : Prop where
  num : XNum P K T (xfI K) (xD0 K) nm.length
  glob : ∀ (i : Nat) x, nm[i]? = some x → mg x = some (.ref (T.exc i))
  kit : ∀ (i : Nat), i < nm.length → ∀ c, c < nm.length → PySem.W.kitOne K (.ref (T.exc c)) (.ref (T.exc i)) = some (xis i c)
  ve : ∀ c, c < nm.length → PySem.W.kitOne K (.ref (T.exc c)) (.type "ValueError") = some true
  sm : SmOk K
theorem xall_of {P : Program} {K : PySem.W.Frag} {T : Tbl} {h : Heap} {mg : Str → Option Value} {nm : List Str} {fa : List He.Fa} {fn : List He.DefD} (X : K.In h) (G : h.Ns mainGlobals mg) (c : obsX P.main.file nm fa fn K = valX fn) (top : (P.main.scope.names.lookup ("super" : Str)).isSome = false) (hT : T.exc = xT K nm) :
    XAll P K T mg nm := by
  have c1 : xOk P.main.file nm K = true := congrArg (fun z : AlX => z.2.1) c
  have c2 : xFn K (xfI K) = xFnV := congrArg (fun z : AlX => z.2.2) c
  obtain ⟨h1, h2⟩ := xba c1
  obtain ⟨h2, h3⟩ := xba h2
  obtain ⟨h3, h4⟩ := xba h3
  have at_ : ∀ (i : Nat) x, nm[i]? = some x → T.exc i = He.ga K x := fun i x e => by
    rw [hT]
    unfold xT xAd
    rw [List.getD_eq_getElem?_getD, List.getElem?_map, e]
    rfl
  have one : ∀ (i : Nat) x, nm[i]? = some x → xOneB K (xfI K) (xD0 K) x = true := fun i x e => List.all_eq_true.mp h3 x (List.mem_of_getElem? e)
  have get : ∀ i, i < nm.length → ∃ x, nm[i]? = some x := fun i hi => ⟨_, List.getElem?_eq_getElem hi⟩
  refine ⟨⟨xiB_ok h1 c2 top, fun i hi => ?_⟩, fun i x e => ?_, fun i hi j hj => ?_, fun i hi => ?_, smB_ok h2⟩
  · obtain ⟨x, e⟩ := get i hi
    rw [at_ i x e]
    exact xcB_ok (xba (xba (one i x e)).2).1
  · rw [at_ i x e]
    exact PySem.W.mg_of X G (He.eqO_ok (xba (one i x e)).1)
  · have hl : (xAd K nm).length = nm.length := by unfold xAd; rw [List.length_map]
    have ej : (xAd K nm)[j]? = some (T.exc j) := by
      rw [hT]; unfold xT
      rw [List.getD_eq_getElem?_getD, List.getElem?_eq_getElem (by rw [hl]; exact hj)]; rfl
    have ei : (xAd K nm)[i]? = some (T.exc i) := by
      rw [hT]; unfold xT
      rw [List.getD_eq_getElem?_getD, List.getElem?_eq_getElem (by rw [hl]; exact hi)]; rfl
    have mem : ∀ (k : Nat) a, (xAd K nm)[k]? = some a → (a, k) ∈ (xAd K nm).zipIdx := fun k a e => by
      refine List.mem_of_getElem? (i := k) ?_
      rw [List.getElem?_zipIdx, e]
      simp
    have := List.all_eq_true.mp (List.all_eq_true.mp h4 _ (mem j _ ej)) _ (mem i _ ei)
    exact of_decide_eq_true this
  · obtain ⟨x, e⟩ := get i hi
    rw [at_ i x e]
    exact of_decide_eq_true (xba (xba (one i x e)).2).2
/-- a def's datum as the layer's fact -/
theorem fun_of {K : PySem.W.Frag} {x qual : Str} {st : Stmt} {f : Addr} {fd : FuncData} (F : FunD K x qual (defArgs st) (defBody st) (defScope st) [] [] f fd) : Fun K x qual st f fd := by
  obtain ⟨oc, od, dV, kV, doc, pm, an, cdv, ct, osl, rfl, lk, hcd, hD, hK⟩ := F.ex
  rcases hD with ⟨_, rfl⟩ | ⟨e, _⟩
  · exact ⟨⟨oc, od, kV, doc, pm, an, cdv, ct, osl, rfl, lk, hcd⟩, F.kp⟩
  · exact absurd rfl e
theorem cxF {P : Program} {w : World} {stack : List PySem.Env} {H : Hp} {s : Shared} {e : Value} {s' : Shared} (h : L2.CX P w stack H s (fun _ _ _ => False) e s') : False := by
  first
    | exact h
    | (obtain ⟨a, b, c, d, e, f, g⟩ := h; simp_all)
/-- a law whose def runs with no repr under way -/
theorem law_callG {P : Program} {w : World} {K : PySem.W.Frag} {mg mb : Str → Option Value} {k : Nat} {fa a : Addr} {fd : FuncData} {x : Str} {sp : Sp} {s₁ : Shared} {vs : List Value} {ns : List Int}
    (KX : K.In s₁.heap) (hns : s₁.heap.Ns mainGlobals mg) (hb : s₁.heap.Ns builtinsNs mb) (hbb : ∀ x : Str, x ≠ "__name__" → mb x = bootBuiltins x) (hlim : s₁.heap.NoLimit) (hg : s₁.gens = #[])
    (ha : s₁.heap.get? a = some { cls := .type "list", data := .seq vs.toArray }) (hi : IntsAre vs ns) (hl : ns.length ≤ sizeLine) (hr : Room k callerA)
    (F : ∀ base : Heap, K.In base → base.Ns mainGlobals mg → FnG P w K mg base k fa fd [x] sp) (hbind : ∀ (s : Shared) (u : Value), BindsTo s fd ⟨[u], []⟩ [(x, u)])
    (hsp : ∀ H : Hp, Only H → SqL K H a (ns.map V.int) → sp [.ref a] H (fun v _ => v = .bl true) fun _ _ _ => False) :
    codeAny (model P w) callerA (.call (.ref fa) ⟨[.ref a], []⟩) (fun r s' => r = .ok (.ret (.bool true)) ∧ OldK s₁.heap s'.heap ∧ s'.os = s₁.os ∧ AllBare s'.gens) s₁ := by
  have rv := vals_ints hi
  have lenV := hi.length
  have core : ∀ H : Hp, Only H → SqL K H a (ns.map V.int) → HOk P w H s₁.heap → (∀ b, H b ≠ none → b = a ∧ K.lookup a = none) →
      codeAny (model P w) callerA (.call (.ref fa) ⟨[.ref a], []⟩) (fun r s' => r = .ok (.ret (.bool true)) ∧ OldK s₁.heap s'.heap ∧ s'.os = s₁.os ∧ AllBare s'.gens) s₁ := by
    intro H hO hS hok hA
    have dict : ∀ {b : Addr} {o : Obj} {es : Array DictEntry} {ep : Nat}, s₁.heap.get? b = some o → o.data = .dict es ep → H b = none := fun {b o es ep} e d => by
      by_cases q : H b = none
      · exact q
      · rw [(hA b q).1, ha] at e
        cases e
        exact nomatch d
    have nsK : ∀ {b : Addr} {m : Str → Option Value}, s₁.heap.Ns b m → (hidT s₁.heap H).Ns b m := fun {b m} ⟨o, es, ep, e, d, r⟩ => ⟨o, es, ep, hidT_get e (dict e d), d, r⟩
    have hKb : K.In (hidT s₁.heap H) := fun b o e => hidT_get (KX b o e) (by
      by_cases q : H b = none
      · exact q
      · obtain ⟨z1, z2⟩ := hA b q
        rw [z1, z2] at e
        cases e)
    have hM : Mod K mg (hidT s₁.heap H) := ⟨hKb, nsK hns, ⟨mb, nsK hb, hbb⟩, let ⟨mc, h1, h2⟩ := hlim; ⟨mc, nsK h1, h2⟩⟩
    have e0 : Env0 P w K mg (hidT s₁.heap H) callerA [] s₁ H := ⟨rfl, hM, fun b o e => of_hidT e, Nat.le_of_eq (hidT_size _ _), trivial, fun b hb => absurd (show b ∈ ([] : List Addr) from hb) (by simp), hok, .of_eq hg⟩
    refine codeAny_mono ((F _ hKb (nsK hns)).run callerA [] s₁ H ⟨[.ref a], []⟩ [.ref a] [.ref a] _ _ rfl hr e0 (hbind s₁ (.ref a)) (.cons rfl .nil) (hsp H hO hS)) fun r s' h => ?_
    cases r with
    | error e =>
      have h' : L2.CX P w [] H s₁ (fun _ _ _ => False) e s' := h
      exact (cxF h').elim
    | ok fl =>
      cases fl with
      | next => exact False.elim h
      | brk => exact False.elim h
      | cont => exact False.elim h
      | ret u =>
        obtain ⟨v, H', os, bare, un, hok', r', q⟩ := h
        have q' : v = .bl true := q
        subst q'
        obtain rfl : u = Value.bool true := r'
        refine ⟨rfl, OldK.of_keep fun b o e => ?_, os, bare⟩
        by_cases q : H b = none
        · exact un.keep b o e q (by intro z; exact absurd (show b ∈ ([] : List Addr) from z) (by simp)) (by simp)
        · rcases hO b with z | ⟨ob, xs, z⟩
          · exact absurd z q
          · obtain ⟨e1, _⟩ := hok b _ z
            obtain ⟨e2, _⟩ := hok' b _ (un.frzs b ob _ z)
            rw [e] at e1
            cases e1
            exact e2
  cases hk : K.lookup a with
  | some o =>
    have e := KX a o hk
    rw [ha] at e
    cases e
    exact core (fun _ => none) (fun _ => .inl rfl) (.inr ⟨_, vs.toArray, _, hk, rfl, rfl, rfl, by rw [List.size_toArray, lenV]; exact hl, by simpa using rv⟩) (fun b u z => nomatch (show (none : Option HO) = some u from z)) fun b z => absurd rfl z
  | none =>
    refine core (fun b => if b = a then some (.frz { cls := .type "list", data := .seq vs.toArray } (.lst (ns.map V.int))) else none) (fun b => ?_) (.inl (.inr ⟨{ cls := .type "list", data := .seq vs.toArray }, if_pos rfl⟩)) (fun b u z => ?_) fun b z => ?_
    · by_cases hb : b = a
      · exact .inr ⟨_, _, if_pos hb⟩
      · exact .inl (if_neg hb)
    · by_cases hb : b = a
      · have z' := (if_pos hb).symm.trans z
        cases z'
        subst hb
        exact ⟨ha, by rw [List.length_map]; exact hl, vs, _, rv, ha⟩
      · exact nomatch (if_neg hb).symm.trans z
    · by_cases hb : b = a
      · exact ⟨hb, hk⟩
      · exact absurd (if_neg hb) z
/-- a law's walk: F gives the written part, the function object, the promise over every base -/
theorem walk_ofG {l : PySem.W.OpenLaw} {n k : Nat} {q : Program} {loose : List Str} {XP : (Str → Option Value) → Heap → Prop} {YP : World → Heap → Prop} {d : DefRec} {x : Str}
    (hn : l.most = some n) (hn2 : n ≤ sizeLine) (hdf : d.params.defaults = []) (hr : Room k callerA)
    (F : ∀ (w : World) (mg : Str → Option Value) (fa : Addr) (h : Heap), YP w h → h.Ns mainGlobals mg → mg d.name = some (.ref fa) →
      ∃ (K : PySem.W.Frag) (T : Tbl) (fd : FuncData) (φ : Fn), K.In h ∧ (∀ (s : Shared) (u : Value), BindsTo s fd ⟨[u], []⟩ [(x, u)]) ∧
        (∀ ns : List Int, ns.length ≤ n → ∃ μ, φ [.frl ns] [] = .ok (.bl true) μ) ∧
        ∀ base : Heap, K.In base → base.Ns mainGlobals mg → FnG l.prog w K mg base k fa fd [x] (spD K T 1 φ)) :
    PySem.W.WalkO q loose XP YP l.row.toRowW d [] (fun f vs => PySem.call f vs) := by
  refine Att.attach_call hn hdf fun w s₀ s₁ mg mb fa o pm cd doc a vs ns G Y ho hd hcd hmg hobj hints hlen hg => ?_
  obtain ⟨K, T, fd, φ, KX, hb, hsp, hF⟩ := F w mg fa _ Y G.T.g hmg
  refine law_callG KX G.T.g G.T.b G.T.builtins G.T.nolimit hg hobj hints (Nat.le_trans hlen hn2) hr hF hb (fun H hO hS => ?_)
  obtain ⟨μ, e⟩ := hsp ns hlen
  refine ⟨⟨H, []⟩, [], [.frl ns], rfl, ⟨fun _ _ z => z, Le.refl _, fun _ z1 z2 => absurd z2 z1, fun _ _ z _ => z, fun _ z => absurd z (by simp), List.nodup_nil, fun n a z => absurd z (by simp), rfl, List.nodup_nil, fun p hp => absurd hp (by simp)⟩, ⟨.ref a, [], rfl, ⟨a, rfl, hS⟩, rfl⟩, ?_⟩
  show AfterF K T _ _ _ (φ [.frl ns] []) _
  rw [e]
  intro v Z' H' b l r
  exact r
end Pv

/-! Pv18: how the semantic functions are evaluated: one rule a combinator, and the tactic pvr. -/
namespace Pv
open PySem L2
section
variable {α β : Type} {ρ ρ1 ρ2 ρ3 : Env} {μ μ1 μ2 μ3 : Mem} {d e z : D} {m m2 : M D} {ma mb : M Ar} {x y : Ar} {t u : M Bool} {b : Bool} {i n : Nat}
theorem r_C : mC d ρ μ = .ok d ρ μ := rfl
theorem r_var (h : ρ[i]? = some (some (.val d))) : mVar i ρ μ = .ok d ρ μ := by unfold mVar; rw [h]
theorem r_varO (h : ρ[i]? = some (some (.own d))) : mVar i ρ μ = .ok d (ρ.set i (some (.val d))) μ := by unfold mVar; rw [h]
theorem r_aVar {s : Sl} (h : ρ[i]? = some (some s)) : aVar i ρ μ = .ok (.v i) ρ μ := by unfold aVar; rw [h]
theorem r_aE (h : m ρ μ = .ok d ρ1 μ1) : aE m ρ μ = .ok (.d d) ρ1 μ1 := by unfold aE bnd; rw [h]; rfl
theorem k_d : pk (.d d) ρ μ = some d := rfl
theorem k_ref {l : List D} (h : ρ[i]? = some (some (.val (.ref n)))) (hm : μ[n]? = some l) : pk (.v i) ρ μ = some (.lst l) := by unfold pk; dsimp only; rw [h]; dsimp only; rw [hm]; rfl
theorem k_own (h : ρ[i]? = some (some (.own d))) : pk (.v i) ρ μ = some d := by unfold pk; dsimp only; rw [h]
def nref : D → Bool
  | .ref _ => false
  | _ => true
theorem k_val (h : ρ[i]? = some (some (.val d))) (hn : nref d = true) : pk (.v i) ρ μ = some d := by
  unfold pk; dsimp only; rw [h]
  cases d <;> first | rfl | cases hn
theorem r_bin {f : D → D → Option D} (h1 : ma ρ μ = .ok x ρ1 μ1) (h2 : mb ρ1 μ1 = .ok y ρ2 μ2) (h3 : pk x ρ2 μ2 = some d) (h4 : pk y ρ2 μ2 = some e) (h5 : f d e = some z) : mBin f ma mb ρ μ = .ok z ρ2 μ2 := by
  unfold mBin bnd; rw [h1]; dsimp only; rw [h2]; dsimp only; rw [h3, h4]; dsimp only; rw [h5]; rfl
theorem r_un {f : D → Option D} (h1 : ma ρ μ = .ok x ρ1 μ1) (h3 : pk x ρ1 μ1 = some d) (h5 : f d = some z) : mUn f ma ρ μ = .ok z ρ1 μ1 := by
  unfold mUn bnd; rw [h1]; dsimp only; rw [h3]; dsimp only; rw [h5]; rfl
theorem r_lNil : lNil ρ μ = .ok [] ρ μ := rfl
theorem r_lCons {r : M (List D)} {ds : List D} (h1 : m ρ μ = .ok d ρ1 μ1) (h2 : r ρ1 μ1 = .ok ds ρ2 μ2) : lCons m r ρ μ = .ok (d :: ds) ρ2 μ2 := by unfold lCons bnd; rw [h1]; dsimp only; rw [h2]; rfl
theorem r_alNil : alNil ρ μ = .ok [] ρ μ := rfl
theorem r_alCons {r : M (List Ar)} {ds : List Ar} (h1 : ma ρ μ = .ok x ρ1 μ1) (h2 : r ρ1 μ1 = .ok ds ρ2 μ2) : alCons ma r ρ μ = .ok (x :: ds) ρ2 μ2 := by unfold alCons bnd; rw [h1]; dsimp only; rw [h2]; rfl
theorem k_nil : pkL [] ρ μ = some [] := rfl
theorem k_cons {xs : List Ar} {ds : List D} (h1 : pk x ρ μ = some d) (h2 : pkL xs ρ μ = some ds) : pkL (x :: xs) ρ μ = some (d :: ds) := by unfold pkL; rw [h1]; dsimp only; rw [h2]
theorem r_B {f : List D → Option D} {ml : M (List Ar)} {xs : List Ar} {ds : List D} (h1 : ml ρ μ = .ok xs ρ1 μ1) (h2 : pkL xs ρ1 μ1 = some ds) (h3 : f ds = some z) : mB f ml ρ μ = .ok z ρ1 μ1 := by
  unfold mB bnd; rw [h1]; dsimp only; rw [h2]; dsimp only; rw [h3]; rfl
theorem r_tup {ml : M (List D)} {ds : List D} (h1 : ml ρ μ = .ok ds ρ1 μ1) (h2 : ds.length ≤ 1000) : mTup ml ρ μ = .ok (.tup ds) ρ1 μ1 := by
  unfold mTup bnd; rw [h1]; dsimp only; rw [if_pos (Nat.le_of_lt (small1000 h2))]; rfl
theorem r_lst {ml : M (List D)} {ds : List D} (h1 : ml ρ μ = .ok ds ρ1 μ1) (h2 : ds.length ≤ 1000) : mLst ml ρ μ = .ok (.lst ds) ρ1 μ1 := by
  unfold mLst bnd; rw [h1]; dsimp only; rw [if_pos (Nat.le_of_lt (small1000 h2))]; rfl
theorem r_box {ml : M (List D)} {ds : List D} (h1 : ml ρ μ = .ok ds ρ1 μ1) (h2 : ds.length ≤ 1000) : mBox ml ρ μ = .ok (.ref μ1.length) ρ1 (μ1 ++ [ds]) := by
  unfold mBox bnd; rw [h1]; dsimp only; rw [if_pos (Nat.le_of_lt (small1000 h2))]
theorem r_tBl (h : m ρ μ = .ok (.bl b) ρ1 μ1) : tBl m ρ μ = .ok b ρ1 μ1 := by unfold tBl bnd; rw [h]; rfl
theorem r_not (h : t ρ μ = .ok b ρ1 μ1) : mNot t ρ μ = .ok (!b) ρ1 μ1 := by unfold mNot bnd; rw [h]; rfl
theorem r_andT (h : t ρ μ = .ok true ρ1 μ1) (h2 : u ρ1 μ1 = .ok b ρ2 μ2) : mAnd t u ρ μ = .ok b ρ2 μ2 := by unfold mAnd bnd; rw [h]; dsimp only; rw [if_pos rfl, h2]
theorem r_andF (h : t ρ μ = .ok false ρ1 μ1) : mAnd t u ρ μ = .ok false ρ1 μ1 := by unfold mAnd bnd; rw [h]; rfl
theorem r_orF (h : t ρ μ = .ok false ρ1 μ1) (h2 : u ρ1 μ1 = .ok b ρ2 μ2) : mOr t u ρ μ = .ok b ρ2 μ2 := by unfold mOr bnd; rw [h]; dsimp only; rw [if_neg (by simp), h2]
theorem r_orT (h : t ρ μ = .ok true ρ1 μ1) : mOr t u ρ μ = .ok true ρ1 μ1 := by unfold mOr bnd; rw [h]; rfl
theorem r_vNot (h : m ρ μ = .ok (.bl b) ρ1 μ1) : vNot m ρ μ = .ok (.bl (!b)) ρ1 μ1 := by unfold vNot; unfold bnd; rw [r_tBl h]; rfl
theorem r_vAndT (h : m ρ μ = .ok (.bl true) ρ1 μ1) (h2 : m2 ρ1 μ1 = .ok d ρ2 μ2) : vAnd m m2 ρ μ = .ok d ρ2 μ2 := by unfold vAnd; unfold bnd; rw [r_tBl h]; dsimp only; rw [if_pos rfl, h2]
theorem r_vAndF (h : m ρ μ = .ok (.bl false) ρ1 μ1) : vAnd m m2 ρ μ = .ok (.bl false) ρ1 μ1 := by unfold vAnd; unfold bnd; rw [r_tBl h]; rfl
theorem r_vOrT (h : m ρ μ = .ok (.bl true) ρ1 μ1) : vOr m m2 ρ μ = .ok (.bl true) ρ1 μ1 := by unfold vOr; unfold bnd; rw [r_tBl h]; rfl
theorem r_vOrF (h : m ρ μ = .ok (.bl false) ρ1 μ1) (h2 : m2 ρ1 μ1 = .ok d ρ2 μ2) : vOr m m2 ρ μ = .ok d ρ2 μ2 := by unfold vOr; unfold bnd; rw [r_tBl h]; dsimp only; rw [if_neg (by simp), h2]
theorem r_ite (h : t ρ μ = .ok b ρ1 μ1) (h2 : (if b = true then m else m2) ρ1 μ1 = .ok d ρ2 μ2) : mIte t m m2 ρ μ = .ok d ρ2 μ2 := by unfold mIte bnd; rw [h]; exact h2
theorem r_call {φ : Fn} {ml : M (List D)} {ds : List D} (h1 : ml ρ μ = .ok ds ρ1 μ1) (h2 : ds.length = n) (h3 : φ ds μ1 = .ok d μ2) : mCall n φ ml ρ μ = .ok d ρ1 μ2 := by
  unfold mCall bnd; rw [h1]; dsimp only; rw [if_pos h2]; unfold liftF; rw [h3]
theorem r_exc {c : Nat} (h : m ρ μ = .ok d ρ1 μ1) : mExc c m ρ μ = .ok (.exc c d) ρ1 μ1 := by unfold mExc bnd; rw [h]; rfl
theorem r_d0 : mD0 ρ μ = .ok (.dK []) ρ μ := rfl
theorem r_pNil : mPairs [] ρ μ = .ok [] ρ μ := rfl
theorem r_pCons {mk mv : M D} {r : List (M D × M D)} {k v : D} {ps : List (Key × D)} {kk : Key} (h1 : mk ρ μ = .ok k ρ1 μ1) (h2 : mv ρ1 μ1 = .ok v ρ2 μ2) (h3 : mPairs r ρ2 μ2 = .ok ps ρ3 μ3) (h4 : keyD k = some kk) : mPairs ((mk, mv) :: r) ρ μ = .ok ((kk, v) :: ps) ρ3 μ3 := by
  unfold mPairs bnd; rw [h1]; dsimp only; rw [h2]; dsimp only; rw [h3]; dsimp only; rw [h4]; rfl
theorem r_disp {ms : List (M D × M D)} {ps : List (Key × D)} (h1 : mPairs ms ρ μ = .ok ps ρ1 μ1) (h2 : ps.length ≤ 15) : mDisp ms ρ μ = .ok (.dK (mergeD [] ps)) ρ1 μ1 := by unfold mDisp bnd; rw [h1]; dsimp only; rw [if_pos h2]; rfl
theorem r_listR {ml : M (List D)} {k : Int} (h1 : ml ρ μ = .ok [.int k] ρ1 μ1) (h2 : 0 ≤ k) (h3 : k ≤ 16777216) : mListR ml ρ μ = .ok (.lst (rangeD 0 k)) ρ1 μ1 := by unfold mListR bnd; rw [h1]; dsimp only; rw [if_pos (decide_eq_true ⟨h2, h3⟩)]; rfl
theorem r_mut {f : List D → List D → Option (D × List D)} {ml : M (List D)} {l l1 l2 ds : List D} {r : D} (h0 : ρ[i]? = some (some (.own (.lst l)))) (h1 : ml ρ μ = .ok ds ρ1 μ1) (h2 : ρ1[i]? = some (some (.own (.lst l1)))) (h3 : f l1 ds = some (r, l2)) :
    mMut i f ml ρ μ = .ok r (ρ1.set i (some (.own (.lst l2)))) μ1 := by
  have e0 : lstAt ρ μ i = some l := by unfold lstAt; rw [h0]
  have e1 : lstAt ρ1 μ1 i = some l1 := by unfold lstAt; rw [h2]
  unfold mMut; rw [e0]; dsimp only; unfold bnd; rw [h1]; dsimp only; rw [e1]; dsimp only; rw [h3]; dsimp only; unfold putAt; rw [h2]
/-! ### statements -/
theorem s_next {m n : MS} {r : Fl} (h : m ρ μ = .next ρ1 μ1) (h2 : n ρ1 μ1 = r) : sSeq m n ρ μ = r := by unfold sSeq; rw [h]; exact h2
theorem s_retd {m n : MS} (h : m ρ μ = .ret d μ1) : sSeq m n ρ μ = .ret d μ1 := by unfold sSeq; rw [h]
theorem q_set (h : m ρ μ = .ok d ρ1 μ1) : sSet i m ρ μ = .next (ρ1.set i (some (.val d))) μ1 := by unfold sSet sOf; rw [h]
theorem q_own (h : m ρ μ = .ok d ρ1 μ1) : sOwn i m ρ μ = .next (ρ1.set i (some (.own d))) μ1 := by unfold sOwn sOf; rw [h]
theorem q_expr (h : m ρ μ = .ok d ρ1 μ1) : sExpr m ρ μ = .next ρ1 μ1 := by unfold sExpr sOf; rw [h]
theorem q_ret (h : m ρ μ = .ok d ρ1 μ1) : sRet m ρ μ = .ret d μ1 := by unfold sRet sOf; rw [h]
theorem q_nil : sNil ρ μ = .next ρ μ := rfl
theorem q_if {m n : MS} {r : Fl} (h : t ρ μ = .ok b ρ1 μ1) (h2 : (if b = true then m else n) ρ1 μ1 = r) : sIf t m n ρ μ = r := by unfold sIf sOf; rw [h]; dsimp only; rw [← h2]; split <;> rfl
theorem q_ifT {m n : MS} {r : Fl} (h : t ρ μ = .ok true ρ1 μ1) (h2 : m ρ1 μ1 = r) : sIf t m n ρ μ = r := q_if h (by rw [if_pos rfl]; exact h2)
theorem q_ifF {m n : MS} {r : Fl} (h : t ρ μ = .ok false ρ1 μ1) (h2 : n ρ1 μ1 = r) : sIf t m n ρ μ = r := q_if h (by rw [if_neg (by simp)]; exact h2)
/-- x[k] = e, x a boxed list -/
theorem q_setRef {mk m : M D} {k : D} {l l2 : List D} {r : D} (h1 : m ρ μ = .ok d ρ1 μ1) (h0 : ρ1[i]? = some (some (.val (.ref n)))) (hm : μ1[n]? = some l) (h2 : mk ρ1 μ1 = .ok k ρ1 μ1) (h3 : fSetAt l [k, d] = some (r, l2)) :
    sSetAt i mk m ρ μ = .next ρ1 (μ1.set n l2) := by
  have e0 : lstAt ρ1 μ1 i = some l := by unfold lstAt; rw [h0]; exact hm
  unfold sSetAt sOf; rw [h1]; dsimp only; rw [e0]; dsimp only; rw [h2]; dsimp only; rw [e0]; dsimp only; rw [h3]; dsimp only; unfold putAt; rw [h0]
theorem q_for {mi : M (List D)} {g : MG} {bb : MS} {ds : List D} {r : Fl} (h1 : mi ρ μ = .ok ds ρ1 μ1) (h2 : forM g bb ds ρ1 μ1 = r) : sFor mi g bb ρ μ = r := by unfold sFor sOf; rw [h1]; exact h2
theorem q_seqI (h : m ρ μ = .ok d ρ1 μ1) {l : List D} (h2 : itemsD d = some l) : iSeq m ρ μ = .ok l ρ1 μ1 := by unfold iSeq bnd; rw [h]; dsimp only; rw [h2]; rfl
theorem q_enum {ml : M (List D)} {l : List D} (h : ml ρ μ = .ok [.lst l] ρ1 μ1) : iEnumM ml ρ μ = .ok (enumD l) ρ1 μ1 := by unfold iEnumM bnd; rw [h]; rfl
theorem q_R1 {ml : M (List D)} {k : Int} (h : ml ρ μ = .ok [.int k] ρ1 μ1) (h2 : i62 k = true) : iR1 ml ρ μ = .ok (rangeD 0 k) ρ1 μ1 := by unfold iR1 bnd; rw [h]; dsimp only; rw [if_pos h2]; rfl
theorem r_lc {mi : M (List D)} {g : MG} {tt : M Bool} {me : M D} {own : List Nat} {ds : List D} {r : Rs D} (h1 : mi ρ μ = .ok ds ρ1 μ1) (h2 : lcM g tt me own ds [] (wipeE ρ1 own) μ1 = r) : mLc mi g tt me own ρ μ = r := by unfold mLc bnd; rw [h1]; exact h2
end
/-! ### ints -/
theorem modD_ok {a b : Int} (h : 0 < b) : modD (.int a) (.int b) = some (.int (a % b)) := by show iiD _ _ _ _ = _; unfold iiD; dsimp only; rw [if_pos (show cMod a b = true from decide_eq_true h)]
theorem fdivD_ok {a b : Int} (h : 0 < b) (h2 : b < 2 ^ 200) : fdivD (.int a) (.int b) = some (.int (a / b)) := by
  have hl : b.natAbs < 2 ^ 8000 := Nat.lt_of_lt_of_le (show b.natAbs < 2 ^ 200 by omega) (Nat.pow_le_pow_right (by decide) (by decide))
  show iiD _ _ _ _ = _; unfold iiD; dsimp only; rw [if_pos (show cDiv a b = true from decide_eq_true ⟨h, hl⟩)]
theorem mulD_ok {a b : Int} (h : -(2 ^ 200) < a ∧ a < 2 ^ 200) (h2 : -(2 ^ 200) < b ∧ b < 2 ^ 200) : mulD (.int a) (.int b) = some (.int (a * b)) := by
  have big : (2 : Nat) ^ 200 ≤ 2 ^ 60000 := Nat.pow_le_pow_right (by decide) (by decide)
  have ha : a.natAbs < 2 ^ 60000 := Nat.lt_of_lt_of_le (show a.natAbs < 2 ^ 200 by omega) big
  have hb : b.natAbs < 2 ^ 60000 := Nat.lt_of_lt_of_le (show b.natAbs < 2 ^ 200 by omega) big
  show iiD _ _ _ _ = _; unfold iiD; dsimp only; rw [if_pos (show cMul a b = true from decide_eq_true ⟨ha, hb⟩)]
theorem powD_ok {a b : Int} (h : -(2 ^ 200) < a ∧ a < 2 ^ 200) (h2 : 0 ≤ b ∧ b ≤ 100) : powD (.int a) (.int b) = some (.int (a ^ b.toNat)) := by
  have big : (2 : Nat) ^ 200 ≤ 2 ^ 60000 := Nat.pow_le_pow_right (by decide) (by decide)
  have ha : a.natAbs < 2 ^ 60000 := Nat.lt_of_lt_of_le (show a.natAbs < 2 ^ 200 by omega) big
  show iiD _ _ _ _ = _; unfold iiD; dsimp only; rw [if_pos (show cPow a b = true from decide_eq_true ⟨h2.1, h2.2, ha⟩)]
theorem isxD_ok {n c : Nat} {f : Nat → Bool} {d : D} (h : c < n) : isxD n f (.exc c d) = some (.bl (f c)) := if_pos h
theorem valueD_ok {n c : Nat} {d : D} (h : c < n) : valueD n (.exc c d) = some d := if_pos h
theorem natAbs01 (p : Prop) [Decidable p] : (if p then (1 : Int) else 0).natAbs < 2 ^ 60000 := by
  split
  · decide +kernel
  · decide +kernel
theorem nonneg01 (p : Prop) [Decidable p] : 0 ≤ (if p then (1 : Int) else 0) := by
  split
  · decide
  · decide
theorem mulD_gen {a b : Int} (ha : a.natAbs < 2 ^ 60000) (hb : b.natAbs < 2 ^ 60000) : mulD (.int a) (.int b) = some (.int (a * b)) := by
  show iiD _ _ _ _ = _; unfold iiD; dsimp only; rw [if_pos (show cMul a b = true from decide_eq_true ⟨ha, hb⟩)]
theorem atI_get {α : Type} {l : List α} {i : Int} (h0 : 0 ≤ i) (h1 : i < l.length) : ∃ x, atI l i = some x ∧ x ∈ l := by
  have hn : i.toNat < l.length := by omega
  refine ⟨l[i.toNat], ?_, List.getElem_mem hn⟩
  unfold atI ixN
  rw [if_pos h0, if_pos h1]
  exact List.getElem?_eq_getElem hn
/-- a comprehension that leaves the store alone -/
theorem lcM_map {j : Nat} {me : M D} {f : D → D} {R : Env} {μ : Mem} (hR : R.set j none = R) : ∀ (ds acc : List D), (∀ x ∈ ds, me (R.set j (some (.val x))) μ = .ok (f x) (R.set j (some (.val x))) μ) → acc.length + ds.length ≤ 1000 → lcM (gN j) tYesM me [j] ds acc R μ = .ok (.lst (acc ++ ds.map f)) R μ
  | [], acc, _, _ => by unfold lcM; rw [List.map_nil, List.append_nil]
  | x :: ds, acc, h, hl => by
    have wR : wipeE R [j] = R := hR
    have w2 : wipeE (R.set j (some (.val x))) [j] = R := by
      show (R.set j (some (.val x))).set j none = R
      rw [List.set_set]; exact hR
    unfold lcM
    rw [wR]
    rw [show gN j x R = some (R.set j (some (.val x))) from rfl]
    dsimp only
    rw [show tYesM (R.set j (some (.val x))) μ = .ok true (R.set j (some (.val x))) μ from rfl]
    dsimp only
    rw [h x List.mem_cons_self]
    dsimp only
    have hs : acc.length < sizeLine := small1000 (by rw [List.length_cons] at hl; omega)
    rw [if_pos hs, w2, lcM_map hR ds _ (fun y hy => h y (List.mem_cons_of_mem _ hy)) (by rw [List.length_append, List.length_singleton]; rw [List.length_cons] at hl; omega), List.map_cons, List.append_assoc]
    rfl
/-! ### results left open -/
section
variable {ρ ρ1 ρ2 : Env} {μ μ1 μ2 : Mem} {d : D} {ma mb : M Ar} {x y : Ar} {i : Nat} {Q : Fl → Prop} {n : MS}
theorem w_next {m : MS} (h : m ρ μ = .next ρ1 μ1) (h2 : Q (n ρ1 μ1)) : Q (sSeq m n ρ μ) := by rw [s_next h rfl]; exact h2
theorem w_retd {m : MS} (h : m ρ μ = .ret d μ1) (h2 : Q (.ret d μ1)) : Q (sSeq m n ρ μ) := by rw [s_retd h]; exact h2
theorem w_set {m : M D} (h : m ρ μ = .ok d ρ1 μ1) (h2 : Q (n (ρ1.set i (some (.val d))) μ1)) : Q (sSeq (sSet i m) n ρ μ) := w_next (q_set h) h2
theorem w_ret {m : M D} (h : m ρ μ = .ok d ρ1 μ1) (h2 : Q (.ret d μ1)) : Q (sRet m ρ μ) := by rw [q_ret h]; exact h2
theorem w_mod {a b : Int} (h1 : ma ρ μ = .ok x ρ1 μ1) (h2 : mb ρ1 μ1 = .ok y ρ2 μ2) (h3 : pk x ρ2 μ2 = some (.int a)) (h4 : pk y ρ2 μ2 = some (.int b)) (hb : 0 < b) (hk : ∀ w : Int, 0 ≤ w → w < b → Q (n (ρ2.set i (some (.val (.int w)))) μ2)) : Q (sSeq (sSet i (mBin modD ma mb)) n ρ μ) := by
  rw [s_next (q_set (r_bin h1 h2 h3 h4 (modD_ok hb))) rfl]
  exact hk _ (Int.emod_nonneg _ (by omega)) (Int.emod_lt_of_pos _ hb)
theorem w_retMod {a b : Int} (h1 : ma ρ μ = .ok x ρ1 μ1) (h2 : mb ρ1 μ1 = .ok y ρ2 μ2) (h3 : pk x ρ2 μ2 = some (.int a)) (h4 : pk y ρ2 μ2 = some (.int b)) (hb : 0 < b) (hk : ∀ w : Int, 0 ≤ w → w < b → Q (.ret (.int w) μ2)) : Q (sRet (mBin modD ma mb) ρ μ) := by
  rw [q_ret (r_bin h1 h2 h3 h4 (modD_ok hb))]
  exact hk _ (Int.emod_nonneg _ (by omega)) (Int.emod_lt_of_pos _ hb)
end
end Pv

namespace Lw
open PySem L2 Pv


def topS (i : Nat) : Stmt := PySem.Challenge.pw_whatplan_k00_errors_and_what_they_keep.main.body.getD i (.Pass ⟨0, 0, 0, 0⟩)

abbrev s_l_pot : Stmt := topS 26
def N_l_pot : List Str := ["_law_script", "_law_place", "_law_cell", "_law_own", "_law_small"]
theorem sc_l_pot : FnScope N_l_pot ["_law_script", "_law_place"] (defScope s_l_pot) := ⟨rfl, rfl, rfl, by decide +kernel, rfl, by decide +kernel, by decide +kernel⟩
def m_l_pot : MS := (sSeq (sSet 2 (mIte (tBl (mBin ltD (aVar 1) (aE (mB lenD (alCons (aVar 0) alNil))))) (mBin ixD (aVar 0) (aVar 1)) (mBin addD (aE (mBin mulD (aE (mC (.int 53))) (aVar 1))) (aE (mC (.int 31)))))) (sSeq (sSet 3 (mBin mulD (aE (mBin modD (aE (mB intD (alCons (aE (mB absD (alCons (aVar 2) alNil))) alNil))) (aE (mBin powD (aE (mBin powD (aE (mC (.int 10))) (aE (mC (.int 60))))) (aE (mC (.int 5))))))) (aE (mB intD (alCons (aE (mBin geD (aE (mB absD (alCons (aVar 2) alNil))) (aE (mBin powD (aE (mC (.int 10))) (aE (mC (.int 18))))))) alNil))))) (sSeq (sSet 4 (mBin modD (aE (mB intD (alCons (aVar 2) alNil))) (aE (mC (.int 2305843009213693951))))) (sRet (mBox (lCons (mVar 3) (lCons (mBin modD (aE (mB intD (alCons (aE (mBin addD (aE (mBin addD (aE (mBin mulD (aVar 4) (aE (mC (.int 81611))))) (aE (mBin mulD (aE (mBin mulD (aE (mC (.int 9241))) (aVar 1))) (aVar 1))))) (aE (mC (.int 127))))) alNil))) (aE (mC (.int 2305843009213693921)))) (lCons (mC (.int 0)) lNil))))))))
section
variable {P : Program} {w : World} {K : PySem.W.Frag} {mg : Str → Option Value} {base : Heap} {T : Tbl}
theorem ok_l_pot {f : Addr} {fd : FuncData} {φ : Fn} (F : Fun K "_law_pot" "_law_pot" s_l_pot f fd) (Z_len : mg "len" = none) (Z_int : mg "int" = none) (Z_abs : mg "abs" = none) (hφ : ∀ ds μ, ds.length = 2 → φ ds μ = .bad ∨ bodyR (m_l_pot (startE N_l_pot.length ds) μ) = φ ds μ) :
    FnOk P w K mg base (L2.CX P w) 1 f fd ["_law_script", "_law_place"] (spD K T 2 φ) :=
  ok_def (k := 0) (m := m_l_pot) F sc_l_pot (fun cdv A outer s H E hr bd => (ss_cons (s_set (i := 2) sc_l_pot.nd rfl (by first | exact .inl rfl | exact .inr rfl) (e_ite (t_cmp op_lt (os_ib (f := fun i j => decide (i < j))) (a_var (pv 1)) (a_E (e_callB cr_len cs_len (by rfl) Z_len PySem.boot_len (al_cons (a_var (pv 0)) al_nil))) (nomark _)) (e_ix (a_var (pv 0)) (a_var (pv 1)) (fun _ _ => rfl)) (e_bin or_add os_add (a_E (e_bin op_mulX os_mul (a_E e_int) (a_var (pv 1)))) (a_E e_int)))) (ss_cons (s_set (i := 3) sc_l_pot.nd rfl (by first | exact .inl rfl | exact .inr rfl) (e_bin op_mulX os_mul (a_E (e_bin op_mod os_mod (a_E (e_callTy call_int1 cs_int (by rfl) Z_int (by decide +kernel) (al_cons (a_E (e_callB call_abs cs_abs (by rfl) Z_abs (by decide +kernel) (al_cons (a_var (pv 2)) al_nil))) al_nil))) (a_E (e_bin op_powX os_pow (a_E (e_bin op_powX os_pow (a_E e_int) (a_E e_int))) (a_E e_int))))) (a_E (e_callTy call_int1 cs_int (by rfl) Z_int (by decide +kernel) (al_cons (a_E (e_cmp op_ge (os_ib (f := fun i j => decide (j ≤ i))) (a_E (e_callB call_abs cs_abs (by rfl) Z_abs (by decide +kernel) (al_cons (a_var (pv 2)) al_nil))) (a_E (e_bin op_powX os_pow (a_E e_int) (a_E e_int))) (nomark _))) al_nil))))) (ss_cons (s_set (i := 4) sc_l_pot.nd rfl (by first | exact .inl rfl | exact .inr rfl) (e_bin op_mod os_mod (a_E (e_callTy call_int1 cs_int (by rfl) Z_int (by decide +kernel) (al_cons (a_var (pv 2)) al_nil))) (a_E e_int))) (ss_one (s_ret (e_box (l_cons (e_var (pv 3)) (l_cons (e_bin op_mod os_mod (a_E (e_callTy call_int1 cs_int (by rfl) Z_int (by decide +kernel) (al_cons (a_E (e_bin or_add os_add (a_E (e_bin or_add os_add (a_E (e_bin op_mulX os_mul (a_var (pv 4)) (a_E e_int))) (a_E (e_bin op_mulX os_mul (a_E (e_bin op_mulX os_mul (a_E e_int) (a_var (pv 1)))) (a_var (pv 1)))))) (a_E e_int))) al_nil))) (a_E e_int)) (l_cons e_int l_nil)))))))))) hφ

end
abbrev s_l_take : Stmt := topS 27
def N_l_take : List Str := ["_law_pot_here", "_law_upto", "_law_digit", "_law_prime", "_law_mix"]
theorem sc_l_take : FnScope N_l_take ["_law_pot_here", "_law_upto"] (defScope s_l_take) := ⟨rfl, rfl, rfl, by decide +kernel, rfl, by decide +kernel, by decide +kernel⟩
def m_l_take : MS := (sSeq (sIf (tBl (mBin gtD (aE (mBin ixD (aVar 0) (aE (mC (.int 0))))) (aE (mC (.int 0))))) (sSeq (sSet 2 (mBin modD (aE (mB intD (alCons (aE (mBin ixD (aVar 0) (aE (mC (.int 0))))) alNil))) (aVar 1))) (sSeq (sSetAt 0 (mC (.int 0)) (mBin fdivD (aE (mBin ixD (aVar 0) (aE (mC (.int 0))))) (aVar 1))) (sRet (mVar 2)))) sNil) (sSeq (sSetAt 0 (mC (.int 2)) (mBin addD (aE (mBin ixD (aVar 0) (aE (mC (.int 2))))) (aE (mC (.int 1))))) (sSeq (sSet 3 (mBin ixD (aE (mLst (lCons (mC (.int 2147483647)) (lCons (mC (.int 2147483629)) (lCons (mC (.int 2147483587)) (lCons (mC (.int 2147483579)) (lCons (mC (.int 2147483563)) lNil))))))) (aE (mBin modD (aE (mB intD (alCons (aE (mBin ixD (aVar 0) (aE (mC (.int 2))))) alNil))) (aE (mC (.int 5))))))) (sSeq (sSet 4 (mBin modD (aE (mB intD (alCons (aE (mBin powD (aE (mB intD (alCons (aE (mBin addD (aE (mBin addD (aE (mBin ixD (aVar 0) (aE (mC (.int 1))))) (aE (mBin mulD (aE (mBin mulD (aE (mC (.int 112031))) (aE (mBin ixD (aVar 0) (aE (mC (.int 2))))))) (aE (mBin ixD (aVar 0) (aE (mC (.int 2))))))))) (aE (mC (.int 71))))) alNil))) (aE (mC (.int 3))))) alNil))) (aVar 3))) (sSeq (sSet 4 (mBin modD (aE (mB intD (alCons (aE (mBin mulD (aVar 4) (aE (mBin addD (aE (mBin modD (aE (mB intD (alCons (aVar 4) alNil))) (aE (mC (.int 10061))))) (aE (mBin mulD (aE (mC (.int 107))) (aE (mBin ixD (aVar 0) (aE (mC (.int 2))))))))))) alNil))) (aE (mC (.int 2305843009213693907))))) (sRet (mBin modD (aE (mB intD (alCons (aE (mBin fdivD (aVar 4) (aE (mC (.int 131))))) alNil))) (aVar 1))))))))
section
variable {P : Program} {w : World} {K : PySem.W.Frag} {mg : Str → Option Value} {base : Heap} {T : Tbl}
theorem ok_l_take {f : Addr} {fd : FuncData} {φ : Fn} (F : Fun K "_law_take" "_law_take" s_l_take f fd) (Z_int : mg "int" = none) (hφ : ∀ ds μ, ds.length = 2 → φ ds μ = .bad ∨ bodyR (m_l_take (startE N_l_take.length ds) μ) = φ ds μ) :
    FnOk P w K mg base (L2.CX P w) 1 f fd ["_law_pot_here", "_law_upto"] (spD K T 2 φ) :=
  ok_def (k := 0) (m := m_l_take) F sc_l_take (fun cdv A outer s H E hr bd => (ss_cons (s_if (t_cmp op_gt (os_ib (f := fun i j => decide (j < i))) (a_E (e_ix (a_var (pv 0)) (a_E e_int) (fun _ _ => rfl))) (a_E e_int) (nomark _)) (ss_cons (s_set (i := 2) sc_l_take.nd rfl (by first | exact .inl rfl | exact .inr rfl) (e_bin op_mod os_mod (a_E (e_callTy call_int1 cs_int (by rfl) Z_int (by decide +kernel) (al_cons (a_E (e_ix (a_var (pv 0)) (a_E e_int) (fun _ _ => rfl))) al_nil))) (a_var (pv 1)))) (ss_cons (s_setAt (e_bin op_fdivW os_fdiv (a_E (e_ix (a_var (pv 0)) (a_E e_int) (fun _ _ => rfl))) (a_var (pv 1))) (pv 0) e_int) (ss_one (s_ret (e_var (pv 2)))))) ss_nil) (ss_cons (s_setAt (e_bin or_add os_add (a_E (e_ix (a_var (pv 0)) (a_E e_int) (fun _ _ => rfl))) (a_E e_int)) (pv 0) e_int) (ss_cons (s_set (i := 3) sc_l_take.nd rfl (by first | exact .inl rfl | exact .inr rfl) (e_ix (a_E (F_E (f_lst (l_cons e_int (l_cons e_int (l_cons e_int (l_cons e_int (l_cons e_int l_nil)))))))) (a_E (e_bin op_mod os_mod (a_E (e_callTy call_int1 cs_int (by rfl) Z_int (by decide +kernel) (al_cons (a_E (e_ix (a_var (pv 0)) (a_E e_int) (fun _ _ => rfl))) al_nil))) (a_E e_int))) (fun _ _ => rfl))) (ss_cons (s_set (i := 4) sc_l_take.nd rfl (by first | exact .inl rfl | exact .inr rfl) (e_bin op_mod os_mod (a_E (e_callTy call_int1 cs_int (by rfl) Z_int (by decide +kernel) (al_cons (a_E (e_bin op_powX os_pow (a_E (e_callTy call_int1 cs_int (by rfl) Z_int (by decide +kernel) (al_cons (a_E (e_bin or_add os_add (a_E (e_bin or_add os_add (a_E (e_ix (a_var (pv 0)) (a_E e_int) (fun _ _ => rfl))) (a_E (e_bin op_mulX os_mul (a_E (e_bin op_mulX os_mul (a_E e_int) (a_E (e_ix (a_var (pv 0)) (a_E e_int) (fun _ _ => rfl))))) (a_E (e_ix (a_var (pv 0)) (a_E e_int) (fun _ _ => rfl))))))) (a_E e_int))) al_nil))) (a_E e_int))) al_nil))) (a_var (pv 3)))) (ss_cons (s_set (i := 4) sc_l_take.nd rfl (by first | exact .inl rfl | exact .inr rfl) (e_bin op_mod os_mod (a_E (e_callTy call_int1 cs_int (by rfl) Z_int (by decide +kernel) (al_cons (a_E (e_bin op_mulX os_mul (a_var (pv 4)) (a_E (e_bin or_add os_add (a_E (e_bin op_mod os_mod (a_E (e_callTy call_int1 cs_int (by rfl) Z_int (by decide +kernel) (al_cons (a_var (pv 4)) al_nil))) (a_E e_int))) (a_E (e_bin op_mulX os_mul (a_E e_int) (a_E (e_ix (a_var (pv 0)) (a_E e_int) (fun _ _ => rfl))))))))) al_nil))) (a_E e_int))) (ss_one (s_ret (e_bin op_mod os_mod (a_E (e_callTy call_int1 cs_int (by rfl) Z_int (by decide +kernel) (al_cons (a_E (e_bin op_fdivW os_fdiv (a_var (pv 4)) (a_E e_int))) al_nil))) (a_var (pv 1))))))))))) hφ

end
abbrev s_l_of : Stmt := topS 28
def N_l_of : List Str := ["_law_pot_here", "_law_some"]
theorem sc_l_of : FnScope N_l_of ["_law_pot_here", "_law_some"] (defScope s_l_of) := ⟨rfl, rfl, rfl, by decide +kernel, rfl, by decide +kernel, by decide +kernel⟩
def m_l_of (φ_l_take : Fn) : MS := (sRet (mBin ixD (aVar 1) (aE (mCall 2 φ_l_take (lCons (mVar 0) (lCons (mB lenD (alCons (aVar 1) alNil)) lNil))))))
section
variable {P : Program} {w : World} {K : PySem.W.Frag} {mg : Str → Option Value} {base : Heap} {T : Tbl}
theorem ok_l_of {f : Addr} {fd : FuncData} {φ_l_take : Fn} {φ : Fn} (F : Fun K "_law_of" "_law_of" s_l_of f fd) (K_l_take : Callee P w K mg base T "_law_take" 1 2 φ_l_take) (Z_len : mg "len" = none) (hφ : ∀ ds μ, ds.length = 2 → φ ds μ = .bad ∨ bodyR (m_l_of φ_l_take (startE N_l_of.length ds) μ) = φ ds μ) :
    FnOk P w K mg base (L2.CX P w) 2 f fd ["_law_pot_here", "_law_some"] (spD K T 2 φ) :=
  ok_def (k := 1) (m := m_l_of φ_l_take) F sc_l_of (fun cdv A outer s H E hr bd => (ss_one (s_ret (e_ix (a_var (pv 1)) (a_E (e_fn K_l_take (hr.mono (by decide)) bd (by rfl) (l_cons (e_var (pv 0)) (l_cons (e_callB cr_len cs_len (by rfl) Z_len PySem.boot_len (al_cons (a_var (pv 1)) al_nil)) l_nil)))) (fun _ _ => rfl))))) hφ

end
abbrev s_l_cells : Stmt := topS 29
def N_l_cells : List Str := ["_law_script", "_law_most"]
theorem sc_l_cells : FnScope N_l_cells ["_law_script", "_law_most"] (defScope s_l_cells) := ⟨rfl, rfl, rfl, by decide +kernel, rfl, by decide +kernel, by decide +kernel⟩
def m_l_cells : MS := (sRet (mListR (lCons (mB max2D (alCons (aE (mC (.int 1))) (alCons (aE (mB min2D (alCons (aVar 1) (alCons (aE (mB lenD (alCons (aVar 0) alNil))) alNil)))) alNil))) lNil)))
section
variable {P : Program} {w : World} {K : PySem.W.Frag} {mg : Str → Option Value} {base : Heap} {T : Tbl}
theorem ok_l_cells {f : Addr} {fd : FuncData} {φ : Fn} (F : Fun K "_law_cells" "_law_cells" s_l_cells f fd) (Z_list : mg "list" = none) (Z_range : mg "range" = none) (Z_max : mg "max" = none) (Z_min : mg "min" = none) (Z_len : mg "len" = none) (hφ : ∀ ds μ, ds.length = 2 → φ ds μ = .bad ∨ bodyR (m_l_cells (startE N_l_cells.length ds) μ) = φ ds μ) :
    FnOk P w K mg base (L2.CX P w) 1 f fd ["_law_script", "_law_most"] (spD K T 2 φ) :=
  ok_def (k := 0) (m := m_l_cells) F sc_l_cells (fun cdv A outer s H E hr bd => (ss_one (s_ret (F_E (f_listR rfl (by rfl) Z_list (by rfl) Z_range (e_callB (call_max2 rfl) cs_max2 (by rfl) Z_max (by decide +kernel) (al_cons (a_E e_int) (al_cons (a_E (e_callB (call_min2 rfl) cs_min2 (by rfl) Z_min (by decide +kernel) (al_cons (a_var (pv 1)) (al_cons (a_E (e_callB cr_len cs_len (by rfl) Z_len PySem.boot_len (al_cons (a_var (pv 0)) al_nil))) al_nil)))) al_nil)))))))) hφ

end
abbrev s_l_odd : Stmt := topS 30
def N_l_odd : List Str := ["_law_pot_here", "_law_some"]
theorem sc_l_odd : FnScope N_l_odd ["_law_pot_here"] (defScope s_l_odd) := ⟨rfl, rfl, rfl, by decide +kernel, rfl, by decide +kernel, by decide +kernel⟩
def m_l_odd (φ_l_of : Fn) : MS := (sSeq (sSet 1 (mLst (lCons (mC .non) (lCons (mC (.bl true)) (lCons (mC (.bl false)) (lCons (mC (.int 0)) (lCons (mC (.int 1)) (lCons (mUn negD (aE (mC (.int 1)))) (lCons (mBin powD (aE (mC (.int 10))) (aE (mC (.int 8)))) (lCons (mC (.str "")) (lCons (mC (.str "a")) (lCons (mC (.str "ahead")) (lCons (mC (.str "pair")) (lCons (mTup lNil) (lCons (mLst lNil) (lCons mD0 (lCons (mTup (lCons (mC (.int 0)) lNil)) (lCons (mTup (lCons (mTup lNil) lNil)) (lCons (mLst (lCons (mC (.int 0)) lNil)) lNil))))))))))))))))))) (sSeq (sSet 1 (mBin addD (aVar 1) (aE (mLst (lCons (mTup (lCons (mC (.str "a")) (lCons (mC (.str "b")) lNil))) (lCons (mTup (lCons (mC (.str "pair")) (lCons (mC (.str "a")) (lCons (mC (.str "b")) (lCons (mTup (lCons (mC (.str "ahead")) lNil)) lNil))))) (lCons (mTup (lCons (mC (.str "seen")) (lCons (mTup (lCons (mC (.str "a")) (lCons (mC (.str "b")) lNil))) lNil))) (lCons (mTup (lCons (mC (.str "then")) (lCons (mTup (lCons (mC (.str "a")) (lCons (mC (.str "b")) lNil))) lNil))) (lCons (mC (.str "never")) lNil))))))))) (sRet (mCall 2 φ_l_of (lCons (mVar 0) (lCons (mVar 1) lNil))))))
section
variable {P : Program} {w : World} {K : PySem.W.Frag} {mg : Str → Option Value} {base : Heap} {T : Tbl}
theorem ok_l_odd {f : Addr} {fd : FuncData} {φ_l_of : Fn} {φ : Fn} (F : Fun K "_law_odd" "_law_odd" s_l_odd f fd) (K_l_of : Callee P w K mg base T "_law_of" 2 2 φ_l_of) (hφ : ∀ ds μ, ds.length = 1 → φ ds μ = .bad ∨ bodyR (m_l_odd φ_l_of (startE N_l_odd.length ds) μ) = φ ds μ) :
    FnOk P w K mg base (L2.CX P w) 3 f fd ["_law_pot_here"] (spD K T 1 φ) :=
  ok_def (k := 2) (m := m_l_odd φ_l_of) F sc_l_odd (fun cdv A outer s H E hr bd => (ss_cons (s_set (i := 1) sc_l_odd.nd rfl (by first | exact .inl rfl | exact .inr rfl) (F_E (f_lst (l_cons e_non (l_cons e_bl (l_cons e_bl (l_cons e_int (l_cons e_int (l_cons (e_un un_neg us_neg (a_E e_int)) (l_cons (e_bin op_powX os_pow (a_E e_int) (a_E e_int)) (l_cons e_str (l_cons e_str (l_cons e_str (l_cons e_str (l_cons (e_tup l_nil) (l_cons (F_E (f_lst l_nil)) (l_cons (F_E f_d0) (l_cons (e_tup (l_cons e_int l_nil)) (l_cons (e_tup (l_cons (e_tup l_nil) l_nil)) (l_cons (F_E (f_lst (l_cons e_int l_nil))) l_nil)))))))))))))))))))) (ss_cons (s_set (i := 1) sc_l_odd.nd rfl (by first | exact .inl rfl | exact .inr rfl) (e_bin or_add os_add (a_var (pv 1)) (a_E (F_E (f_lst (l_cons (e_tup (l_cons e_str (l_cons e_str l_nil))) (l_cons (e_tup (l_cons e_str (l_cons e_str (l_cons e_str (l_cons (e_tup (l_cons e_str l_nil)) l_nil))))) (l_cons (e_tup (l_cons e_str (l_cons (e_tup (l_cons e_str (l_cons e_str l_nil))) l_nil))) (l_cons (e_tup (l_cons e_str (l_cons (e_tup (l_cons e_str (l_cons e_str l_nil))) l_nil))) (l_cons e_str l_nil)))))))))) (ss_one (s_ret (e_fn K_l_of (hr.mono (by decide)) bd (by rfl) (l_cons (e_var (pv 0)) (l_cons (e_var (pv 1)) l_nil)))))))) hφ

end
abbrev s_l_created : Stmt := topS 31
def N_l_created : List Str := ["_law_value", "_law_found"]
theorem sc_l_created : FnScope N_l_created ["_law_value"] (defScope s_l_created) := ⟨rfl, rfl, rfl, by decide +kernel, rfl, by decide +kernel, by decide +kernel⟩
def m_l_created : MS := (sSeq (sOwn 1 (mLst (lCons (mExc 1 (mVar 0)) (lCons (mExc 2 (mVar 0)) (lCons (mExc 3 (mVar 0)) (lCons (mExc 4 (mVar 0)) (lCons (mExc 5 (mVar 0)) (lCons (mExc 6 (mVar 0)) lNil)))))))) (sSeq (sExpr (mMut 1 fExtend (lCons (mLst (lCons (mExc 7 (mVar 0)) (lCons (mExc 8 (mVar 0)) (lCons (mExc 9 (mVar 0)) (lCons (mExc 10 (mVar 0)) (lCons (mExc 11 (mVar 0)) lNil)))))) lNil))) (sSeq (sExpr (mMut 1 fExtend (lCons (mLst (lCons (mExc 12 (mVar 0)) (lCons (mExc 13 (mVar 0)) (lCons (mExc 14 (mVar 0)) (lCons (mExc 15 (mVar 0)) (lCons (mExc 16 (mVar 0)) lNil)))))) lNil))) (sSeq (sExpr (mMut 1 fExtend (lCons (mLst (lCons (mExc 17 (mVar 0)) (lCons (mExc 18 (mVar 0)) (lCons (mExc 19 (mVar 0)) (lCons (mExc 20 (mVar 0)) (lCons (mExc 21 (mVar 0)) lNil)))))) lNil))) (sRet (mBin addD (aVar 1) (aE (mLst (lCons (mExc 22 (mVar 0)) (lCons (mExc 23 (mVar 0)) lNil))))))))))
section
variable {P : Program} {w : World} {K : PySem.W.Frag} {mg : Str → Option Value} {base : Heap} {T : Tbl}
theorem ok_l_created {f : Addr} {fd : FuncData} {φ : Fn} (F : Fun K "_law_created" "_law_created" s_l_created f fd) (Z_super : mg "super" = none) {fI D0 : Addr} (XN : XNum P K T fI D0 24) (g_OtherTasks : mg "OtherTasks" = some (.ref (T.exc 6))) (g_NoFact : mg "NoFact" = some (.ref (T.exc 5))) (g_Full : mg "Full" = some (.ref (T.exc 4))) (g_BadFact : mg "BadFact" = some (.ref (T.exc 3))) (g_NoTask : mg "NoTask" = some (.ref (T.exc 2))) (g_BadBook : mg "BadBook" = some (.ref (T.exc 1))) (g_NoPlan : mg "NoPlan" = some (.ref (T.exc 11))) (g_BadClaims : mg "BadClaims" = some (.ref (T.exc 10))) (g_BadFacts : mg "BadFacts" = some (.ref (T.exc 9))) (g_BadTasks : mg "BadTasks" = some (.ref (T.exc 8))) (g_BadPlan : mg "BadPlan" = some (.ref (T.exc 7))) (g_BadOffers : mg "BadOffers" = some (.ref (T.exc 16))) (g_TooManyOpen : mg "TooManyOpen" = some (.ref (T.exc 15))) (g_BadPrices : mg "BadPrices" = some (.ref (T.exc 14))) (g_BadNumber : mg "BadNumber" = some (.ref (T.exc 13))) (g_TooMany : mg "TooMany" = some (.ref (T.exc 12))) (g_NoTrial : mg "NoTrial" = some (.ref (T.exc 21))) (g_NothingToRedo : mg "NothingToRedo" = some (.ref (T.exc 20))) (g_NothingToUndo : mg "NothingToUndo" = some (.ref (T.exc 19))) (g_Contrary : mg "Contrary" = some (.ref (T.exc 18))) (g_BadWishes : mg "BadWishes" = some (.ref (T.exc 17))) (g_BadLine : mg "BadLine" = some (.ref (T.exc 23))) (g_BadJournal : mg "BadJournal" = some (.ref (T.exc 22))) (hφ : ∀ ds μ, ds.length = 1 → φ ds μ = .bad ∨ bodyR (m_l_created (startE N_l_created.length ds) μ) = φ ds μ) :
    FnOk P w K mg base (L2.CX P w) 2 f fd ["_law_value"] (spD K T 1 φ) :=
  ok_def (k := 1) (m := m_l_created) F sc_l_created (fun cdv A outer s H E hr bd => (ss_cons (s_own (i := 1) sc_l_created.nd rfl (by first | exact .inl rfl | exact .inr rfl) (f_lst (l_cons (e_exc XN (by decide) g_BadBook Z_super (hr.mono (by decide)) (by rfl) (e_var (pv 0))) (l_cons (e_exc XN (by decide) g_NoTask Z_super (hr.mono (by decide)) (by rfl) (e_var (pv 0))) (l_cons (e_exc XN (by decide) g_BadFact Z_super (hr.mono (by decide)) (by rfl) (e_var (pv 0))) (l_cons (e_exc XN (by decide) g_Full Z_super (hr.mono (by decide)) (by rfl) (e_var (pv 0))) (l_cons (e_exc XN (by decide) g_NoFact Z_super (hr.mono (by decide)) (by rfl) (e_var (pv 0))) (l_cons (e_exc XN (by decide) g_OtherTasks Z_super (hr.mono (by decide)) (by rfl) (e_var (pv 0))) l_nil)))))))) (ss_cons (s_expr (e_mut PySem.F.slot_list_extend PySem.F.type_list_extend mt_extend ms_extend (pv 1) (l_cons (F_E (f_lst (l_cons (e_exc XN (by decide) g_BadPlan Z_super (hr.mono (by decide)) (by rfl) (e_var (pv 0))) (l_cons (e_exc XN (by decide) g_BadTasks Z_super (hr.mono (by decide)) (by rfl) (e_var (pv 0))) (l_cons (e_exc XN (by decide) g_BadFacts Z_super (hr.mono (by decide)) (by rfl) (e_var (pv 0))) (l_cons (e_exc XN (by decide) g_BadClaims Z_super (hr.mono (by decide)) (by rfl) (e_var (pv 0))) (l_cons (e_exc XN (by decide) g_NoPlan Z_super (hr.mono (by decide)) (by rfl) (e_var (pv 0))) l_nil))))))) l_nil))) (ss_cons (s_expr (e_mut PySem.F.slot_list_extend PySem.F.type_list_extend mt_extend ms_extend (pv 1) (l_cons (F_E (f_lst (l_cons (e_exc XN (by decide) g_TooMany Z_super (hr.mono (by decide)) (by rfl) (e_var (pv 0))) (l_cons (e_exc XN (by decide) g_BadNumber Z_super (hr.mono (by decide)) (by rfl) (e_var (pv 0))) (l_cons (e_exc XN (by decide) g_BadPrices Z_super (hr.mono (by decide)) (by rfl) (e_var (pv 0))) (l_cons (e_exc XN (by decide) g_TooManyOpen Z_super (hr.mono (by decide)) (by rfl) (e_var (pv 0))) (l_cons (e_exc XN (by decide) g_BadOffers Z_super (hr.mono (by decide)) (by rfl) (e_var (pv 0))) l_nil))))))) l_nil))) (ss_cons (s_expr (e_mut PySem.F.slot_list_extend PySem.F.type_list_extend mt_extend ms_extend (pv 1) (l_cons (F_E (f_lst (l_cons (e_exc XN (by decide) g_BadWishes Z_super (hr.mono (by decide)) (by rfl) (e_var (pv 0))) (l_cons (e_exc XN (by decide) g_Contrary Z_super (hr.mono (by decide)) (by rfl) (e_var (pv 0))) (l_cons (e_exc XN (by decide) g_NothingToUndo Z_super (hr.mono (by decide)) (by rfl) (e_var (pv 0))) (l_cons (e_exc XN (by decide) g_NothingToRedo Z_super (hr.mono (by decide)) (by rfl) (e_var (pv 0))) (l_cons (e_exc XN (by decide) g_NoTrial Z_super (hr.mono (by decide)) (by rfl) (e_var (pv 0))) l_nil))))))) l_nil))) (ss_one (s_ret (e_bin or_add os_add (a_var (pv 1)) (a_E (F_E (f_lst (l_cons (e_exc XN (by decide) g_BadJournal Z_super (hr.mono (by decide)) (by rfl) (e_var (pv 0))) (l_cons (e_exc XN (by decide) g_BadLine Z_super (hr.mono (by decide)) (by rfl) (e_var (pv 0))) l_nil))))))))))))) hφ

end
abbrev s_l_kinds : Stmt := topS 32
def N_l_kinds : List Str := ["_law_one", "_law_found"]
theorem sc_l_kinds : FnScope N_l_kinds ["_law_one"] (defScope s_l_kinds) := ⟨rfl, rfl, rfl, by decide +kernel, rfl, by decide +kernel, by decide +kernel⟩
def m_l_kinds : MS := (sSeq (sOwn 1 (mLst (lCons (mUn (isxD 24 (xis 1)) (aVar 0)) (lCons (mUn (isxD 24 (xis 2)) (aVar 0)) (lCons (mUn (isxD 24 (xis 3)) (aVar 0)) (lCons (mUn (isxD 24 (xis 4)) (aVar 0)) lNil)))))) (sSeq (sExpr (mMut 1 fExtend (lCons (mLst (lCons (mUn (isxD 24 (xis 5)) (aVar 0)) (lCons (mUn (isxD 24 (xis 6)) (aVar 0)) (lCons (mUn (isxD 24 (xis 7)) (aVar 0)) lNil)))) lNil))) (sSeq (sExpr (mMut 1 fExtend (lCons (mLst (lCons (mUn (isxD 24 (xis 8)) (aVar 0)) (lCons (mUn (isxD 24 (xis 9)) (aVar 0)) (lCons (mUn (isxD 24 (xis 10)) (aVar 0)) lNil)))) lNil))) (sSeq (sExpr (mMut 1 fExtend (lCons (mLst (lCons (mUn (isxD 24 (xis 11)) (aVar 0)) (lCons (mUn (isxD 24 (xis 12)) (aVar 0)) (lCons (mUn (isxD 24 (xis 13)) (aVar 0)) lNil)))) lNil))) (sSeq (sExpr (mMut 1 fExtend (lCons (mLst (lCons (mUn (isxD 24 (xis 14)) (aVar 0)) (lCons (mUn (isxD 24 (xis 15)) (aVar 0)) (lCons (mUn (isxD 24 (xis 16)) (aVar 0)) lNil)))) lNil))) (sSeq (sExpr (mMut 1 fExtend (lCons (mLst (lCons (mUn (isxD 24 (xis 17)) (aVar 0)) (lCons (mUn (isxD 24 (xis 18)) (aVar 0)) (lCons (mUn (isxD 24 (xis 19)) (aVar 0)) lNil)))) lNil))) (sSeq (sExpr (mMut 1 fExtend (lCons (mLst (lCons (mUn (isxD 24 (xis 20)) (aVar 0)) (lCons (mUn (isxD 24 (xis 21)) (aVar 0)) (lCons (mUn (isxD 24 (xis 22)) (aVar 0)) lNil)))) lNil))) (sRet (mBin addD (aVar 1) (aE (mLst (lCons (mUn (isxD 24 (xis 23)) (aVar 0)) lNil))))))))))))
section
variable {P : Program} {w : World} {K : PySem.W.Frag} {mg : Str → Option Value} {base : Heap} {T : Tbl}
theorem ok_l_kinds {f : Addr} {fd : FuncData} {φ : Fn} (F : Fun K "_law_kinds" "_law_kinds" s_l_kinds f fd) (Z_isinstance : mg "isinstance" = none) {fI D0 : Addr} (XN : XNum P K T fI D0 24) (g_Full : mg "Full" = some (.ref (T.exc 4))) (g_BadFact : mg "BadFact" = some (.ref (T.exc 3))) (g_NoTask : mg "NoTask" = some (.ref (T.exc 2))) (g_BadBook : mg "BadBook" = some (.ref (T.exc 1))) (g_BadPlan : mg "BadPlan" = some (.ref (T.exc 7))) (g_OtherTasks : mg "OtherTasks" = some (.ref (T.exc 6))) (g_NoFact : mg "NoFact" = some (.ref (T.exc 5))) (g_BadClaims : mg "BadClaims" = some (.ref (T.exc 10))) (g_BadFacts : mg "BadFacts" = some (.ref (T.exc 9))) (g_BadTasks : mg "BadTasks" = some (.ref (T.exc 8))) (g_BadNumber : mg "BadNumber" = some (.ref (T.exc 13))) (g_TooMany : mg "TooMany" = some (.ref (T.exc 12))) (g_NoPlan : mg "NoPlan" = some (.ref (T.exc 11))) (g_BadOffers : mg "BadOffers" = some (.ref (T.exc 16))) (g_TooManyOpen : mg "TooManyOpen" = some (.ref (T.exc 15))) (g_BadPrices : mg "BadPrices" = some (.ref (T.exc 14))) (g_NothingToUndo : mg "NothingToUndo" = some (.ref (T.exc 19))) (g_Contrary : mg "Contrary" = some (.ref (T.exc 18))) (g_BadWishes : mg "BadWishes" = some (.ref (T.exc 17))) (g_BadJournal : mg "BadJournal" = some (.ref (T.exc 22))) (g_NoTrial : mg "NoTrial" = some (.ref (T.exc 21))) (g_NothingToRedo : mg "NothingToRedo" = some (.ref (T.exc 20))) (g_BadLine : mg "BadLine" = some (.ref (T.exc 23))) (k_Full : ∀ c, c < 24 → PySem.W.kitOne K (.ref (T.exc c)) (.ref (T.exc 4)) = some (xis 4 c)) (k_BadFact : ∀ c, c < 24 → PySem.W.kitOne K (.ref (T.exc c)) (.ref (T.exc 3)) = some (xis 3 c)) (k_NoTask : ∀ c, c < 24 → PySem.W.kitOne K (.ref (T.exc c)) (.ref (T.exc 2)) = some (xis 2 c)) (k_BadBook : ∀ c, c < 24 → PySem.W.kitOne K (.ref (T.exc c)) (.ref (T.exc 1)) = some (xis 1 c)) (k_BadPlan : ∀ c, c < 24 → PySem.W.kitOne K (.ref (T.exc c)) (.ref (T.exc 7)) = some (xis 7 c)) (k_OtherTasks : ∀ c, c < 24 → PySem.W.kitOne K (.ref (T.exc c)) (.ref (T.exc 6)) = some (xis 6 c)) (k_NoFact : ∀ c, c < 24 → PySem.W.kitOne K (.ref (T.exc c)) (.ref (T.exc 5)) = some (xis 5 c)) (k_BadClaims : ∀ c, c < 24 → PySem.W.kitOne K (.ref (T.exc c)) (.ref (T.exc 10)) = some (xis 10 c)) (k_BadFacts : ∀ c, c < 24 → PySem.W.kitOne K (.ref (T.exc c)) (.ref (T.exc 9)) = some (xis 9 c)) (k_BadTasks : ∀ c, c < 24 → PySem.W.kitOne K (.ref (T.exc c)) (.ref (T.exc 8)) = some (xis 8 c)) (k_BadNumber : ∀ c, c < 24 → PySem.W.kitOne K (.ref (T.exc c)) (.ref (T.exc 13)) = some (xis 13 c)) (k_TooMany : ∀ c, c < 24 → PySem.W.kitOne K (.ref (T.exc c)) (.ref (T.exc 12)) = some (xis 12 c)) (k_NoPlan : ∀ c, c < 24 → PySem.W.kitOne K (.ref (T.exc c)) (.ref (T.exc 11)) = some (xis 11 c)) (k_BadOffers : ∀ c, c < 24 → PySem.W.kitOne K (.ref (T.exc c)) (.ref (T.exc 16)) = some (xis 16 c)) (k_TooManyOpen : ∀ c, c < 24 → PySem.W.kitOne K (.ref (T.exc c)) (.ref (T.exc 15)) = some (xis 15 c)) (k_BadPrices : ∀ c, c < 24 → PySem.W.kitOne K (.ref (T.exc c)) (.ref (T.exc 14)) = some (xis 14 c)) (k_NothingToUndo : ∀ c, c < 24 → PySem.W.kitOne K (.ref (T.exc c)) (.ref (T.exc 19)) = some (xis 19 c)) (k_Contrary : ∀ c, c < 24 → PySem.W.kitOne K (.ref (T.exc c)) (.ref (T.exc 18)) = some (xis 18 c)) (k_BadWishes : ∀ c, c < 24 → PySem.W.kitOne K (.ref (T.exc c)) (.ref (T.exc 17)) = some (xis 17 c)) (k_BadJournal : ∀ c, c < 24 → PySem.W.kitOne K (.ref (T.exc c)) (.ref (T.exc 22)) = some (xis 22 c)) (k_NoTrial : ∀ c, c < 24 → PySem.W.kitOne K (.ref (T.exc c)) (.ref (T.exc 21)) = some (xis 21 c)) (k_NothingToRedo : ∀ c, c < 24 → PySem.W.kitOne K (.ref (T.exc c)) (.ref (T.exc 20)) = some (xis 20 c)) (k_BadLine : ∀ c, c < 24 → PySem.W.kitOne K (.ref (T.exc c)) (.ref (T.exc 23)) = some (xis 23 c)) (hφ : ∀ ds μ, ds.length = 1 → φ ds μ = .bad ∨ bodyR (m_l_kinds (startE N_l_kinds.length ds) μ) = φ ds μ) :
    FnOk P w K mg base (L2.CX P w) 2 f fd ["_law_one"] (spD K T 1 φ) :=
  ok_def (k := 1) (m := m_l_kinds) F sc_l_kinds (fun cdv A outer s H E hr bd => (ss_cons (s_own (i := 1) sc_l_kinds.nd rfl (by first | exact .inl rfl | exact .inr rfl) (f_lst (l_cons (e_isx (v := .ref (T.exc 1)) XN (fun _ h => h) k_BadBook (by rfl) Z_isinstance (a_var (pv 0)) (pe_glob (v := .ref (T.exc 1)) (by rfl) g_BadBook rfl)) (l_cons (e_isx (v := .ref (T.exc 2)) XN (fun _ h => h) k_NoTask (by rfl) Z_isinstance (a_var (pv 0)) (pe_glob (v := .ref (T.exc 2)) (by rfl) g_NoTask rfl)) (l_cons (e_isx (v := .ref (T.exc 3)) XN (fun _ h => h) k_BadFact (by rfl) Z_isinstance (a_var (pv 0)) (pe_glob (v := .ref (T.exc 3)) (by rfl) g_BadFact rfl)) (l_cons (e_isx (v := .ref (T.exc 4)) XN (fun _ h => h) k_Full (by rfl) Z_isinstance (a_var (pv 0)) (pe_glob (v := .ref (T.exc 4)) (by rfl) g_Full rfl)) l_nil)))))) (ss_cons (s_expr (e_mut PySem.F.slot_list_extend PySem.F.type_list_extend mt_extend ms_extend (pv 1) (l_cons (F_E (f_lst (l_cons (e_isx (v := .ref (T.exc 5)) XN (fun _ h => h) k_NoFact (by rfl) Z_isinstance (a_var (pv 0)) (pe_glob (v := .ref (T.exc 5)) (by rfl) g_NoFact rfl)) (l_cons (e_isx (v := .ref (T.exc 6)) XN (fun _ h => h) k_OtherTasks (by rfl) Z_isinstance (a_var (pv 0)) (pe_glob (v := .ref (T.exc 6)) (by rfl) g_OtherTasks rfl)) (l_cons (e_isx (v := .ref (T.exc 7)) XN (fun _ h => h) k_BadPlan (by rfl) Z_isinstance (a_var (pv 0)) (pe_glob (v := .ref (T.exc 7)) (by rfl) g_BadPlan rfl)) l_nil))))) l_nil))) (ss_cons (s_expr (e_mut PySem.F.slot_list_extend PySem.F.type_list_extend mt_extend ms_extend (pv 1) (l_cons (F_E (f_lst (l_cons (e_isx (v := .ref (T.exc 8)) XN (fun _ h => h) k_BadTasks (by rfl) Z_isinstance (a_var (pv 0)) (pe_glob (v := .ref (T.exc 8)) (by rfl) g_BadTasks rfl)) (l_cons (e_isx (v := .ref (T.exc 9)) XN (fun _ h => h) k_BadFacts (by rfl) Z_isinstance (a_var (pv 0)) (pe_glob (v := .ref (T.exc 9)) (by rfl) g_BadFacts rfl)) (l_cons (e_isx (v := .ref (T.exc 10)) XN (fun _ h => h) k_BadClaims (by rfl) Z_isinstance (a_var (pv 0)) (pe_glob (v := .ref (T.exc 10)) (by rfl) g_BadClaims rfl)) l_nil))))) l_nil))) (ss_cons (s_expr (e_mut PySem.F.slot_list_extend PySem.F.type_list_extend mt_extend ms_extend (pv 1) (l_cons (F_E (f_lst (l_cons (e_isx (v := .ref (T.exc 11)) XN (fun _ h => h) k_NoPlan (by rfl) Z_isinstance (a_var (pv 0)) (pe_glob (v := .ref (T.exc 11)) (by rfl) g_NoPlan rfl)) (l_cons (e_isx (v := .ref (T.exc 12)) XN (fun _ h => h) k_TooMany (by rfl) Z_isinstance (a_var (pv 0)) (pe_glob (v := .ref (T.exc 12)) (by rfl) g_TooMany rfl)) (l_cons (e_isx (v := .ref (T.exc 13)) XN (fun _ h => h) k_BadNumber (by rfl) Z_isinstance (a_var (pv 0)) (pe_glob (v := .ref (T.exc 13)) (by rfl) g_BadNumber rfl)) l_nil))))) l_nil))) (ss_cons (s_expr (e_mut PySem.F.slot_list_extend PySem.F.type_list_extend mt_extend ms_extend (pv 1) (l_cons (F_E (f_lst (l_cons (e_isx (v := .ref (T.exc 14)) XN (fun _ h => h) k_BadPrices (by rfl) Z_isinstance (a_var (pv 0)) (pe_glob (v := .ref (T.exc 14)) (by rfl) g_BadPrices rfl)) (l_cons (e_isx (v := .ref (T.exc 15)) XN (fun _ h => h) k_TooManyOpen (by rfl) Z_isinstance (a_var (pv 0)) (pe_glob (v := .ref (T.exc 15)) (by rfl) g_TooManyOpen rfl)) (l_cons (e_isx (v := .ref (T.exc 16)) XN (fun _ h => h) k_BadOffers (by rfl) Z_isinstance (a_var (pv 0)) (pe_glob (v := .ref (T.exc 16)) (by rfl) g_BadOffers rfl)) l_nil))))) l_nil))) (ss_cons (s_expr (e_mut PySem.F.slot_list_extend PySem.F.type_list_extend mt_extend ms_extend (pv 1) (l_cons (F_E (f_lst (l_cons (e_isx (v := .ref (T.exc 17)) XN (fun _ h => h) k_BadWishes (by rfl) Z_isinstance (a_var (pv 0)) (pe_glob (v := .ref (T.exc 17)) (by rfl) g_BadWishes rfl)) (l_cons (e_isx (v := .ref (T.exc 18)) XN (fun _ h => h) k_Contrary (by rfl) Z_isinstance (a_var (pv 0)) (pe_glob (v := .ref (T.exc 18)) (by rfl) g_Contrary rfl)) (l_cons (e_isx (v := .ref (T.exc 19)) XN (fun _ h => h) k_NothingToUndo (by rfl) Z_isinstance (a_var (pv 0)) (pe_glob (v := .ref (T.exc 19)) (by rfl) g_NothingToUndo rfl)) l_nil))))) l_nil))) (ss_cons (s_expr (e_mut PySem.F.slot_list_extend PySem.F.type_list_extend mt_extend ms_extend (pv 1) (l_cons (F_E (f_lst (l_cons (e_isx (v := .ref (T.exc 20)) XN (fun _ h => h) k_NothingToRedo (by rfl) Z_isinstance (a_var (pv 0)) (pe_glob (v := .ref (T.exc 20)) (by rfl) g_NothingToRedo rfl)) (l_cons (e_isx (v := .ref (T.exc 21)) XN (fun _ h => h) k_NoTrial (by rfl) Z_isinstance (a_var (pv 0)) (pe_glob (v := .ref (T.exc 21)) (by rfl) g_NoTrial rfl)) (l_cons (e_isx (v := .ref (T.exc 22)) XN (fun _ h => h) k_BadJournal (by rfl) Z_isinstance (a_var (pv 0)) (pe_glob (v := .ref (T.exc 22)) (by rfl) g_BadJournal rfl)) l_nil))))) l_nil))) (ss_one (s_ret (e_bin or_add os_add (a_var (pv 1)) (a_E (F_E (f_lst (l_cons (e_isx (v := .ref (T.exc 23)) XN (fun _ h => h) k_BadLine (by rfl) Z_isinstance (a_var (pv 0)) (pe_glob (v := .ref (T.exc 23)) (by rfl) g_BadLine rfl)) l_nil))))))))))))))) hφ

end
abbrev s_l_right : Stmt := topS 33
def N_l_right : List Str := ["_law_pot_here", "_law_odd_here", "_law_value", "_law_at", "_law_one", "_law_above", "_law_number"]
theorem sc_l_right : FnScope N_l_right ["_law_pot_here"] (defScope s_l_right) := ⟨rfl, rfl, rfl, by decide +kernel, rfl, by decide +kernel, by decide +kernel⟩
def m_l_right (φ_l_odd φ_l_of φ_l_created φ_l_kinds : Fn) : MS := (sSeq (sSet 1 (mCall 1 φ_l_odd (lCons (mVar 0) lNil))) (sSeq (sSet 2 (mCall 2 φ_l_of (lCons (mVar 0) (lCons (mLst (lCons (mVar 1) (lCons (mTup (lCons (mVar 1) (lCons (mLst (lCons (mCall 1 φ_l_odd (lCons (mVar 0) lNil)) lNil)) lNil))) (lCons (mDisp [((mC (.str "a")), (mVar 1))]) lNil)))) lNil)))) (sSeq (sFor (iEnumM (lCons (mCall 1 φ_l_created (lCons (mVar 2) lNil)) lNil)) (gTu 2 (gsCons (gN 3) (gsCons (gN 4) gsNil))) (sSeq (sIf (mOr (tBl (mBin neD (aE (mCall 1 φ_l_kinds (lCons (mVar 4) lNil))) (aE (mLc (iR1 (lCons (mC (.int 23)) lNil)) (gN 6) tYesM (mBin eqD (aVar 6) (aVar 3)) [6])))) (tBl (mBin neD (aE (mB reprD (alCons (aE (mUn (valueD 24) (aVar 4))) alNil))) (aE (mB reprD (alCons (aVar 2) alNil)))))) (sRet (mC (.bl false))) sNil) (sIf (mOr (mNot (tBl (mUn (isxD 24 (xis 0)) (aVar 4)))) (mNot (tBl (mUn (isxD 24 (fun _ => true)) (aVar 4))))) (sRet (mC (.bl false))) sNil))) (sSeq (sSet 5 (mExc 0 (mVar 2))) (sRet (vAnd (vNot (mB anyD (alCons (aE (mCall 1 φ_l_kinds (lCons (mVar 5) lNil))) alNil))) (vAnd (mBin eqD (aE (mB reprD (alCons (aE (mUn (valueD 24) (aVar 5))) alNil))) (aE (mB reprD (alCons (aVar 2) alNil)))) (mUn (isxD 24 (fun _ => true)) (aVar 5)))))))))
section
variable {P : Program} {w : World} {K : PySem.W.Frag} {mg : Str → Option Value} {base : Heap} {T : Tbl}
theorem ok_l_right {f : Addr} {fd : FuncData} {φ_l_odd φ_l_of φ_l_created φ_l_kinds : Fn} {φ : Fn} (F : Fun K "_law_right" "_law_right" s_l_right f fd) (K_l_odd : Callee P w K mg base T "_law_odd" 3 1 φ_l_odd) (K_l_of : Callee P w K mg base T "_law_of" 2 2 φ_l_of) (K_l_created : Callee P w K mg base T "_law_created" 2 1 φ_l_created) (K_l_kinds : Callee P w K mg base T "_law_kinds" 2 1 φ_l_kinds) (Z_enumerate : mg "enumerate" = none) (Z_range : mg "range" = none) (Z_repr : mg "repr" = none) (Z_isinstance : mg "isinstance" = none) (Z_ValueError : mg "ValueError" = none) (Z_super : mg "super" = none) (Z_any : mg "any" = none) {fI D0 : Addr} (XN : XNum P K T fI D0 24) (g_PlanError : mg "PlanError" = some (.ref (T.exc 0))) (k_PlanError : ∀ c, c < 24 → PySem.W.kitOne K (.ref (T.exc c)) (.ref (T.exc 0)) = some (xis 0 c)) (k_VE : ∀ c, c < 24 → PySem.W.kitOne K (.ref (T.exc c)) (.type "ValueError") = some true) (SM : SmOk K) (hφ : ∀ ds μ, ds.length = 1 → φ ds μ = .bad ∨ bodyR (m_l_right φ_l_odd φ_l_of φ_l_created φ_l_kinds (startE N_l_right.length ds) μ) = φ ds μ) :
    FnG P w K mg base 4 f fd ["_law_pot_here"] (spD K T 1 φ) :=
  ok_defG (k := 3) (m := m_l_right φ_l_odd φ_l_of φ_l_created φ_l_kinds) F sc_l_right (fun cdv A outer s H E hg0 hr bd => (ss_cons (s_set (i := 1) sc_l_right.nd rfl (by first | exact .inl rfl | exact .inr rfl) (e_fn K_l_odd (hr.mono (by decide)) bd (by rfl) (l_cons (e_var (pv 0)) l_nil))) (ss_cons (s_set (i := 2) sc_l_right.nd rfl (by first | exact .inl rfl | exact .inr rfl) (e_fn K_l_of (hr.mono (by decide)) bd (by rfl) (l_cons (e_var (pv 0)) (l_cons (F_E (f_lst (l_cons (e_var (pv 1)) (l_cons (e_tup (l_cons (e_var (pv 1)) (l_cons (F_E (f_lst (l_cons (e_fn K_l_odd (hr.mono (by decide)) bd (by rfl) (l_cons (e_var (pv 0)) l_nil)) l_nil))) l_nil))) (l_cons (F_E (f_disp (pp_cons e_str (e_var (pv 1)) pp_nil) rfl rfl (by simp) (by decide))) l_nil))))) l_nil)))) (ss_cons (s_for bd.own rfl (i_enum (by rfl) Z_enumerate (l_cons (e_fn K_l_created (hr.mono (by decide)) bd (by rfl) (l_cons (e_var (pv 2)) l_nil)) l_nil)) (g_tup rfl (gs_cons (g_name (i := 3) sc_l_right.nd rfl (by first | exact .inl rfl | exact .inr rfl)) (gs_cons (g_name (i := 4) sc_l_right.nd rfl (by first | exact .inl rfl | exact .inr rfl)) gs_nil))) (ss_cons (s_if (PW.pt (w_or (t_cmp (op_neD hr.units) os_ne (a_E (e_fn K_l_kinds (hr.mono (by decide)) bd (by rfl) (l_cons (e_var (pv 4)) l_nil))) (a_E (F_E (f_lc (own := [("_law_number", 6)]) rfl sc_l_right.nd (i_range1 (by rfl) Z_range (l_cons e_int l_nil)) (blkOk_by (N := N_l_right) (sc := defScope s_l_right) (by decide +kernel)) (by decide) (fun _ _ _ _ _ => (g_name (i := 6) sc_l_right.nd rfl (by first | exact .inl rfl | exact .inr rfl))) (fun _ _ _ _ _ => ts_nil) (fun _ _ _ _ _ => (e_cmp (op_eqD hr.units) os_eq (a_var (pv 6)) (a_var (pv 3)) (nomark _)))))) (nomark _)) (w_or1 (t_cmp (op_neD hr.units) os_ne (a_E (e_callB (cr_repr hg0 hr.units SM) cs_repr (by rfl) Z_repr (by decide +kernel) (al_cons (a_E (e_value XN (a_var (pv 4)))) al_nil))) (a_E (e_callB (cr_repr hg0 hr.units SM) cs_repr (by rfl) Z_repr (by decide +kernel) (al_cons (a_var (pv 2)) al_nil))) (nomark _))))) (ss_one (s_ret e_bl)) ss_nil) (ss_one (s_if (PW.pt (w_or (t_not (t_val (e_isx (v := .ref (T.exc 0)) XN (fun _ h => h) k_PlanError (by rfl) Z_isinstance (a_var (pv 4)) (pe_glob (v := .ref (T.exc 0)) (by rfl) g_PlanError rfl)))) (w_or1 (t_not (t_val (e_isx (v := .ty "ValueError") XN (fun _ h => h) k_VE (by rfl) Z_isinstance (a_var (pv 4)) (pe_bltn (v := .ty "ValueError") (by rfl) Z_ValueError PyProof.Rows.Boot.«ValueError» rfl))))))) (ss_one (s_ret e_bl)) ss_nil)))) (ss_cons (s_set (i := 5) sc_l_right.nd rfl (by first | exact .inl rfl | exact .inr rfl) (e_exc XN (by decide) g_PlanError Z_super (hr.mono (by decide)) (by rfl) (e_var (pv 2)))) (ss_one (s_ret (v_and (v_not (e_callB (cr_any rfl) cs_any (by rfl) Z_any (by decide +kernel) (al_cons (a_E (e_fn K_l_kinds (hr.mono (by decide)) bd (by rfl) (l_cons (e_var (pv 5)) l_nil))) al_nil))) (v_and (e_cmp (op_eqD hr.units) os_eq (a_E (e_callB (cr_repr hg0 hr.units SM) cs_repr (by rfl) Z_repr (by decide +kernel) (al_cons (a_E (e_value XN (a_var (pv 5)))) al_nil))) (a_E (e_callB (cr_repr hg0 hr.units SM) cs_repr (by rfl) Z_repr (by decide +kernel) (al_cons (a_var (pv 2)) al_nil))) (nomark _)) (v_one (e_isx (v := .ty "ValueError") XN (fun _ h => h) k_VE (by rfl) Z_isinstance (a_var (pv 5)) (pe_bltn (v := .ty "ValueError") (by rfl) Z_ValueError PyProof.Rows.Boot.«ValueError» rfl)))))))))))) hφ

end
abbrev s_law : Stmt := topS 34
def N_law : List Str := ["_law_script", "_law_place"]
theorem sc_law : FnScope N_law ["_law_script"] (defScope s_law) := ⟨rfl, rfl, rfl, by decide +kernel, rfl, by decide +kernel, by decide +kernel⟩
def m_law (φ_l_cells φ_l_right φ_l_pot : Fn) : MS := (sRet (mB allD (alCons (aE (mLc (iSeq (mCall 2 φ_l_cells (lCons (mVar 0) (lCons (mC (.int 3)) lNil)))) (gN 1) tYesM (mCall 1 φ_l_right (lCons (mCall 2 φ_l_pot (lCons (mVar 0) (lCons (mVar 1) lNil))) lNil)) [1])) alNil)))
section
variable {P : Program} {w : World} {K : PySem.W.Frag} {mg : Str → Option Value} {base : Heap} {T : Tbl}
theorem ok_law {f : Addr} {fd : FuncData} {φ_l_cells φ_l_right φ_l_pot : Fn} {φ : Fn} (F : Fun K "law" "law" s_law f fd) (K_l_cells : Callee P w K mg base T "_law_cells" 1 2 φ_l_cells) (K_l_right : CalleeG P w K mg base T "_law_right" 4 1 φ_l_right) (K_l_pot : Callee P w K mg base T "_law_pot" 1 2 φ_l_pot) (Z_all : mg "all" = none) (hφ : ∀ ds μ, ds.length = 1 → φ ds μ = .bad ∨ bodyR (m_law φ_l_cells φ_l_right φ_l_pot (startE N_law.length ds) μ) = φ ds μ) :
    FnG P w K mg base 5 f fd ["_law_script"] (spD K T 1 φ) :=
  ok_defG (k := 4) (m := m_law φ_l_cells φ_l_right φ_l_pot) F sc_law (fun cdv A outer s H E hg0 hr bd => (ss_one (s_ret (e_callB (cr_all rfl) cs_all (by rfl) Z_all (by decide +kernel) (al_cons (a_E (F_E (f_lc (own := [("_law_place", 1)]) rfl sc_law.nd (i_seq (e_fn K_l_cells (hr.mono (by decide)) bd (by rfl) (l_cons (e_var (pv 0)) (l_cons e_int l_nil)))) (blkOk_by (N := N_law) (sc := defScope s_law) (by decide +kernel)) (by decide) (fun _ _ _ _ _ => (g_name (i := 1) sc_law.nd rfl (by first | exact .inl rfl | exact .inr rfl))) (fun _ _ _ _ _ => ts_nil) (fun _ _ _ _ _ => have bd := bd_blk; (e_fnG K_l_right hg0 (hr.mono (by decide)) bd (by rfl) (l_cons (e_fn K_l_pot (hr.mono (by decide)) bd (by rfl) (l_cons (e_var (pv 0)) (l_cons (e_var (pv 1)) l_nil))) l_nil)))))) al_nil))))) hφ

end
end Lw

namespace Lw
open PySem L2 Pv

def d_l_pot : He.DefD := ⟨("_law_pot", none), "_law_pot", "_law_pot", defArgs s_l_pot, defBody s_l_pot, defScope s_l_pot, [], []⟩
def d_l_take : He.DefD := ⟨("_law_take", none), "_law_take", "_law_take", defArgs s_l_take, defBody s_l_take, defScope s_l_take, [], []⟩
def d_l_of : He.DefD := ⟨("_law_of", none), "_law_of", "_law_of", defArgs s_l_of, defBody s_l_of, defScope s_l_of, [], []⟩
def d_l_cells : He.DefD := ⟨("_law_cells", none), "_law_cells", "_law_cells", defArgs s_l_cells, defBody s_l_cells, defScope s_l_cells, [], []⟩
def d_l_odd : He.DefD := ⟨("_law_odd", none), "_law_odd", "_law_odd", defArgs s_l_odd, defBody s_l_odd, defScope s_l_odd, [], []⟩
def d_l_created : He.DefD := ⟨("_law_created", none), "_law_created", "_law_created", defArgs s_l_created, defBody s_l_created, defScope s_l_created, [], []⟩
def d_l_kinds : He.DefD := ⟨("_law_kinds", none), "_law_kinds", "_law_kinds", defArgs s_l_kinds, defBody s_l_kinds, defScope s_l_kinds, [], []⟩
def d_l_right : He.DefD := ⟨("_law_right", none), "_law_right", "_law_right", defArgs s_l_right, defBody s_l_right, defScope s_l_right, [], []⟩
def d_law : He.DefD := ⟨("law", none), "law", "law", defArgs s_law, defBody s_law, defScope s_law, [], []⟩
def fn : List He.DefD := [d_l_pot, d_l_take, d_l_of, d_l_cells, d_l_odd, d_l_created, d_l_kinds, d_l_right, d_law]
def fa : List He.Fa := [.glo "_law_pot", .glo "_law_take", .glo "_law_of", .glo "_law_cells", .glo "_law_odd", .glo "_law_created", .glo "_law_kinds", .glo "_law_right", .glo "law", .free "len", .free "int", .free "abs", .free "list", .free "range", .free "max", .free "min", .free "super", .free "isinstance", .free "ValueError", .free "enumerate", .free "repr", .free "any", .free "all"]
def nm : List Str := ["PlanError", "BadBook", "NoTask", "BadFact", "Full", "NoFact", "OtherTasks", "BadPlan", "BadTasks", "BadFacts", "BadClaims", "NoPlan", "TooMany", "BadNumber", "BadPrices", "TooManyOpen", "BadOffers", "BadWishes", "Contrary", "NothingToUndo", "NothingToRedo", "NoTrial", "BadJournal", "BadLine"]
def file : Str := (PySem.W.OpenLaw.row PySem.Challenge.rw_whatplan_k00_errors_and_what_they_keep).prog.main.file
abbrev R : PySem.W.OpenRow := PySem.W.OpenLaw.row PySem.Challenge.rw_whatplan_k00_errors_and_what_they_keep
abbrev hk : PySem.W.Hook := hookX 5 file nm fa fn
def ob (s : PySem.W.SharedT) : AlX := obsXG 5 file nm fa fn (HandSHeadRun.getT s)
theorem ob_eq (s : PySem.W.SharedT) : ob s = hk.obs s.abs := obsXG_eq (HandSHeadRun.getT_eq s)
def loose : List Str := (["PlanError", "BadBook", "NoTask", "BadFact", "Full", "NoFact", "OtherTasks", "BadPlan", "BadTasks", "BadFacts", "BadClaims", "NoPlan", "TooMany", "BadNumber", "BadPrices", "TooManyOpen", "BadOffers", "BadWishes", "Contrary", "NothingToUndo"] : List Str) ++ (["NothingToRedo", "NoTrial", "BadJournal", "BadLine", "_law_pot", "_law_take", "_law_of", "_law_cells", "_law_odd", "_law_created", "_law_kinds", "_law_right"] : List Str)
set_option maxHeartbeats 0 in
theorem run (w : World) : HandSHeadRun.RunEq R (PySem.W.view R.prog [34]) hk ob 6000 loose w := by
  intro os
  kernel_rfl
end Lw

namespace Lw
open PySem L2 Pv
local macro_rules | `(tactic| walk_at "pvd") => `(tactic| first | with_reducible assumption | ((with_reducible refine isxD_ok ?_); assumption) | ((with_reducible refine valueD_ok ?_); assumption) | ((with_reducible refine modD_ok ?_); omega) | ((with_reducible refine fdivD_ok ?_ ?_) <;> omega) | ((with_reducible refine mulD_ok ?_ ?_) <;> omega) | ((with_reducible refine powD_ok ?_ ?_) <;> omega) | exact rfl)
local macro_rules | `(tactic| walk_at "pvm") => `(tactic| first | with_reducible assumption | exact List.getElem?_set_self (by assumption))
local macro_rules | `(tactic| walk_at "pvk") => `(tactic| first | with_reducible exact k_d | ((with_reducible apply k_ref); (· exact rfl); (· walk_at "pvm")) | ((with_reducible apply k_own); exact rfl) | ((with_reducible apply k_val); (· exact rfl); (· first | exact rfl | with_reducible assumption)))
local macro_rules | `(tactic| walk_at "pvl") => `(tactic| first | with_reducible exact k_nil | ((with_reducible apply k_cons); (· walk_at "pvk"); (· walk_at "pvl")))
local macro_rules | `(tactic| walk_at "pvr") => `(tactic| first
  | with_reducible exact r_C | with_reducible exact r_lNil | with_reducible exact r_alNil | with_reducible exact r_d0 | with_reducible exact r_pNil
  | ((with_reducible apply r_var); exact rfl) | ((with_reducible apply r_varO); exact rfl) | ((with_reducible apply r_aVar); exact rfl)
  | ((with_reducible apply r_aE); walk_at "pvr")
  | ((with_reducible apply r_bin); (· walk_at "pvr"); (· walk_at "pvr"); (· walk_at "pvk"); (· walk_at "pvk"); (· walk_at "pvd"))
  | ((with_reducible apply r_un); (· walk_at "pvr"); (· walk_at "pvk"); (· walk_at "pvd"))
  | ((with_reducible apply r_lCons); (· walk_at "pvr"); (· walk_at "pvr"))
  | ((with_reducible apply r_alCons); (· walk_at "pvr"); (· walk_at "pvr"))
  | ((with_reducible apply r_B); (· walk_at "pvr"); (· walk_at "pvl"); (· walk_at "pvd"))
  | ((with_reducible apply r_tup); (· walk_at "pvr"); (· first | decide | (simp <;> done)))
  | ((with_reducible apply r_lst); (· walk_at "pvr"); (· first | decide | (simp <;> done)))
  | ((with_reducible apply r_box); (· walk_at "pvr"); (· first | decide | (simp <;> done)))
  | ((with_reducible apply r_tBl); walk_at "pvr")
  | ((with_reducible apply r_not); walk_at "pvr")
  | ((with_reducible apply r_exc); walk_at "pvr")
  | ((with_reducible apply r_pCons); (· walk_at "pvr"); (· walk_at "pvr"); (· walk_at "pvr"); (· exact rfl))
  | ((with_reducible apply r_disp); (· walk_at "pvr"); (· decide))
  | ((with_reducible apply r_call); (· walk_at "pvr"); (· exact rfl); (· walk_at "pvd"))
  | ((with_reducible apply r_vNot); walk_at "pvr"))

def φ_take : Fn := fun ds μ => bodyR (m_l_take (startE N_l_take.length ds) μ)
theorem take_pos {n : Nat} {μ : Mem} {a b k u : Int} (h : μ[n]? = some [.int a, .int b, .int k]) (ha : 0 < a) (hu : 0 < u) (hu2 : u < 2 ^ 100) :
    φ_take [.ref n, .int u] μ = .ok (.int (a % u)) (μ.set n [.int (a / u), .int b, .int k]) := by
  have hn : n < μ.length := (List.getElem?_eq_some_iff.mp h).1
  have hg : gtD (.int a) (.int 0) = some (.bl true) := by show some (D.bl (decide (0 < a))) = _; rw [decide_eq_true ha]
  have e : m_l_take (startE N_l_take.length [.ref n, .int u]) μ = .ret (.int (a % u)) (μ.set n [.int (a / u), .int b, .int k]) := by
    apply s_retd; apply q_ifT
    · walk_at "pvr"
    apply s_next
    · apply q_set; walk_at "pvr"
    apply s_next
    · apply q_setRef
      · walk_at "pvr"
      · rfl
      · exact h
      · walk_at "pvr"
      · rfl
    exact q_ret (r_var rfl)
  show bodyR _ = _
  rw [e]; rfl
/-- the pot at n: three ints within bounds -/
def PotOk (c : Int) (n : Nat) (μ : Mem) : Prop := ∃ a b k : Int, μ[n]? = some [.int a, .int b, .int k] ∧ 0 ≤ a ∧ 0 ≤ b ∧ b < 2 ^ 61 ∧ 0 ≤ k ∧ k ≤ c
theorem PotOk.mono {c c' : Int} {n : Nat} {μ : Mem} (h : PotOk c n μ) (l : c ≤ c') : PotOk c' n μ := by
  obtain ⟨a, b, k, h0, h1, h2, h3, h4, h5⟩ := h
  exact ⟨a, b, k, h0, h1, h2, h3, h4, by omega⟩
def primes : List D := [.int 2147483647, .int 2147483629, .int 2147483587, .int 2147483579, .int 2147483563]
theorem prime_ix {j : Int} (h0 : 0 ≤ j) (h1 : j < 5) : ∃ p : Int, ixD (.lst primes) (.int j) = some (.int p) ∧ 0 < p ∧ p < 2 ^ 31 := by
  have : j = 0 ∨ j = 1 ∨ j = 2 ∨ j = 3 ∨ j = 4 := by omega
  rcases this with e | e | e | e | e <;> subst e
  · exact ⟨2147483647, rfl, by decide, by decide⟩
  · exact ⟨2147483629, rfl, by decide, by decide⟩
  · exact ⟨2147483587, rfl, by decide, by decide⟩
  · exact ⟨2147483579, rfl, by decide, by decide⟩
  · exact ⟨2147483563, rfl, by decide, by decide⟩
theorem take_zero {n : Nat} {μ : Mem} {b k u : Int} (h : μ[n]? = some [.int 0, .int b, .int k]) (hb : 0 ≤ b) (hb2 : b < 2 ^ 61) (hk : 0 ≤ k) (hk2 : k < 2 ^ 30) (hu : 0 < u) (hu2 : u < 2 ^ 100) :
    ∃ r : Int, φ_take [.ref n, .int u] μ = .ok (.int r) (μ.set n [.int 0, .int b, .int (k + 1)]) ∧ 0 ≤ r ∧ r < u := by
  have hn : n < μ.length := (List.getElem?_eq_some_iff.mp h).1
  have h2 : (μ.set n [D.int 0, D.int b, D.int (k + 1)])[n]? = some [.int 0, .int b, .int (k + 1)] := List.getElem?_set_self hn
  obtain ⟨p, hix, hp, hp2⟩ := prime_ix (j := (k + 1) % 5) (by omega) (by omega)
  have hkk : 0 ≤ 112031 * (k + 1) * (k + 1) ∧ 112031 * (k + 1) * (k + 1) < 2 ^ 100 := by
    have h1 : 0 ≤ (k + 1) * (k + 1) := Int.mul_nonneg (by omega) (by omega)
    have h3 : (k + 1) * (k + 1) ≤ 2 ^ 30 * 2 ^ 30 := Int.mul_le_mul (by omega) (by omega) (by omega) (by omega)
    rw [Int.mul_assoc]
    omega
  show ∃ r, bodyR (m_l_take (startE N_l_take.length [.ref n, .int u]) μ) = _ ∧ _
  suffices hs : ∀ Q : Fl → Prop, (∀ r : Int, 0 ≤ r → r < u → Q (.ret (.int r) (μ.set n [.int 0, .int b, .int (k + 1)]))) → Q (m_l_take (startE N_l_take.length [.ref n, .int u]) μ) from
    hs (fun fl => ∃ r : Int, bodyR fl = .ok (.int r) (μ.set n [.int 0, .int b, .int (k + 1)]) ∧ 0 ≤ r ∧ r < u) fun r h1 h2 => ⟨r, rfl, h1, h2⟩
  intro Q hQ
  unfold m_l_take
  apply w_next
  · apply q_ifF
    · walk_at "pvr"
    exact q_nil
  apply w_next
  · apply q_setRef
    · walk_at "pvr"
    · exact rfl
    · exact h
    · walk_at "pvr"
    · exact rfl
  apply w_next
  · apply q_set
    apply r_bin
    · walk_at "pvr"
    · walk_at "pvr"
    · walk_at "pvk"
    · walk_at "pvk"
    · exact hix
  apply w_mod
  · walk_at "pvr"
  · walk_at "pvr"
  · walk_at "pvk"
  · walk_at "pvk"
  · exact hp
  intro w hw0 hw1
  apply w_mod
  · walk_at "pvr"
  · walk_at "pvr"
  · walk_at "pvk"
  · walk_at "pvk"
  · omega
  intro w2 hw2 hw3
  apply w_retMod
  · walk_at "pvr"
  · walk_at "pvr"
  · walk_at "pvk"
  · walk_at "pvk"
  · exact hu
  intro r hr0 hr1
  exact hQ r hr0 hr1
theorem take_ok {c : Int} {n : Nat} {μ : Mem} {u : Int} (h : PotOk c n μ) (hc : c < 2 ^ 30) (hu : 0 < u) (hu2 : u < 2 ^ 100) : ∃ r μ', φ_take [.ref n, .int u] μ = .ok (.int r) μ' ∧ 0 ≤ r ∧ r < u ∧ PotOk (c + 1) n μ' := by
  obtain ⟨a, b, k, h0, h1, h2, h3, h4, h5⟩ := h
  have hn : n < μ.length := (List.getElem?_eq_some_iff.mp h0).1
  by_cases ha : 0 < a
  · exact ⟨_, _, take_pos h0 ha hu hu2, Int.emod_nonneg _ (by omega), Int.emod_lt_of_pos _ hu, _, _, _, List.getElem?_set_self hn, Int.ediv_nonneg h1 (by omega), h2, h3, h4, by omega⟩
  · obtain rfl : a = 0 := by omega
    obtain ⟨r, e, r0, r1⟩ := take_zero h0 h2 h3 h4 (by omega) hu hu2
    exact ⟨r, _, e, r0, r1, _, _, _, List.getElem?_set_self hn, by omega, h2, h3, by omega, by omega⟩
def φ_pot : Fn := fun ds μ => bodyR (m_l_pot (startE N_l_pot.length ds) μ)
theorem big300 : (((10 : Int) ^ 60) ^ 5).natAbs ≤ 2 ^ 60000 := by decide +kernel
theorem pot_ok {ns : List Int} {i : Int} {μ : Mem} (h0 : 0 ≤ i) (h1 : i < 2 ^ 30) (hz : ns.length ≤ 1000) : ∃ μ', φ_pot [.frl ns, .int i] μ = .ok (.ref μ.length) μ' ∧ PotOk 0 μ.length μ' := by
  have hp1 : powD (.int 10) (.int 60) = some (.int (10 ^ 60)) := powD_ok (by omega) (by omega)
  have hp2 : powD (.int (10 ^ 60)) (.int 5) = some (.int ((10 ^ 60) ^ 5)) := powD_ok (by omega) (by omega)
  suffices hs : ∀ Q : Fl → Prop, (∀ a b : Int, 0 ≤ a → 0 ≤ b → b < 2 ^ 61 → Q (.ret (.ref μ.length) (μ ++ [[.int a, .int b, .int 0]]))) → Q (m_l_pot (startE N_l_pot.length [.frl ns, .int i]) μ) from
    hs (fun fl => ∃ μ', bodyR fl = .ok (.ref μ.length) μ' ∧ PotOk 0 μ.length μ') fun a b ha hb hb2 => ⟨_, rfl, a, b, 0, by simp, ha, hb, hb2, by omega, by omega⟩
  intro Q hQ
  unfold m_l_pot
  have hc : ∃ c : Int, (mIte (tBl (mBin ltD (aVar 1) (aE (mB lenD (alCons (aVar 0) alNil))))) (mBin ixD (aVar 0) (aVar 1)) (mBin addD (aE (mBin mulD (aE (mC (.int 53))) (aVar 1))) (aE (mC (.int 31))))) (startE N_l_pot.length [.frl ns, .int i]) μ = .ok (.int c) (startE N_l_pot.length [.frl ns, .int i]) μ := by
    by_cases hl : i < ns.length
    · obtain ⟨c, hx, _⟩ := atI_get h0 hl
      refine ⟨c, ?_⟩
      have hlt : ltD (.int i) (.int ns.length) = some (.bl true) := by show some (D.bl (decide (i < ns.length))) = _; rw [decide_eq_true hl]
      have hix : ixD (.frl ns) (.int i) = some (.int c) := by show (atI ns i).map D.int = _; rw [hx]; rfl
      apply r_ite
      · apply r_tBl
        walk_at "pvr"
      rw [if_pos rfl]
      walk_at "pvr"
    · apply Exists.intro
      · have hlt : ltD (.int i) (.int ns.length) = some (.bl false) := by show some (D.bl (decide (i < ns.length))) = _; rw [decide_eq_false hl]
        apply r_ite
        · apply r_tBl
          walk_at "pvr"
        rw [if_neg (by simp)]
        walk_at "pvr"
  obtain ⟨c, hc⟩ := hc
  apply w_set
  · exact hc
  apply w_set
  · apply r_bin
    · walk_at "pvr"
    · walk_at "pvr"
    · walk_at "pvk"
    · walk_at "pvk"
    · apply mulD_gen
      · have h1 := Int.emod_nonneg (if c < 0 then -c else c) (b := (10 ^ 60) ^ 5) (by decide +kernel)
        have h2 := Int.emod_lt_of_pos (if c < 0 then -c else c) (b := (10 ^ 60) ^ 5) (by decide +kernel)
        exact Nat.lt_of_lt_of_le (by omega) big300
      · exact natAbs01 _
  apply w_mod
  · walk_at "pvr"
  · walk_at "pvr"
  · walk_at "pvk"
  · walk_at "pvk"
  · decide
  intro w hw0 hw1
  have hii : -(2 ^ 200) < 9241 * i ∧ 9241 * i < 2 ^ 200 := by omega
  apply w_ret
  · apply r_box
    · walk_at "pvr"
    · simp
  refine hQ _ _ ?_ (Int.emod_nonneg _ (by decide)) (Int.lt_trans (Int.emod_lt_of_pos _ (by decide)) (by decide))
  refine Int.mul_nonneg (Int.emod_nonneg _ (by decide +kernel)) ?_
  exact nonneg01 _
end Lw

namespace Lw
open PySem L2 Pv
local macro_rules | `(tactic| walk_at "pvd") => `(tactic| first | with_reducible assumption | ((with_reducible refine isxD_ok ?_); assumption) | ((with_reducible refine valueD_ok ?_); assumption) | ((with_reducible refine modD_ok ?_); omega) | ((with_reducible refine fdivD_ok ?_ ?_) <;> omega) | ((with_reducible refine mulD_ok ?_ ?_) <;> omega) | ((with_reducible refine powD_ok ?_ ?_) <;> omega) | exact rfl)
local macro_rules | `(tactic| walk_at "pvm") => `(tactic| first | with_reducible assumption | exact List.getElem?_set_self (by assumption))
local macro_rules | `(tactic| walk_at "pvk") => `(tactic| first | with_reducible exact k_d | ((with_reducible apply k_ref); (· exact rfl); (· walk_at "pvm")) | ((with_reducible apply k_own); exact rfl) | ((with_reducible apply k_val); (· exact rfl); (· first | exact rfl | with_reducible assumption)))
local macro_rules | `(tactic| walk_at "pvl") => `(tactic| first | with_reducible exact k_nil | ((with_reducible apply k_cons); (· walk_at "pvk"); (· walk_at "pvl")))
local macro_rules | `(tactic| walk_at "pvr") => `(tactic| first
  | with_reducible exact r_C | with_reducible exact r_lNil | with_reducible exact r_alNil | with_reducible exact r_d0 | with_reducible exact r_pNil
  | ((with_reducible apply r_var); exact rfl) | ((with_reducible apply r_varO); exact rfl) | ((with_reducible apply r_aVar); exact rfl)
  | ((with_reducible apply r_aE); walk_at "pvr")
  | ((with_reducible apply r_bin); (· walk_at "pvr"); (· walk_at "pvr"); (· walk_at "pvk"); (· walk_at "pvk"); (· walk_at "pvd"))
  | ((with_reducible apply r_un); (· walk_at "pvr"); (· walk_at "pvk"); (· walk_at "pvd"))
  | ((with_reducible apply r_lCons); (· walk_at "pvr"); (· walk_at "pvr"))
  | ((with_reducible apply r_alCons); (· walk_at "pvr"); (· walk_at "pvr"))
  | ((with_reducible apply r_B); (· walk_at "pvr"); (· walk_at "pvl"); (· walk_at "pvd"))
  | ((with_reducible apply r_tup); (· walk_at "pvr"); (· first | decide | (simp <;> done)))
  | ((with_reducible apply r_lst); (· walk_at "pvr"); (· first | decide | (simp <;> done)))
  | ((with_reducible apply r_box); (· walk_at "pvr"); (· first | decide | (simp <;> done)))
  | ((with_reducible apply r_tBl); walk_at "pvr")
  | ((with_reducible apply r_not); walk_at "pvr")
  | ((with_reducible apply r_exc); walk_at "pvr")
  | ((with_reducible apply r_pCons); (· walk_at "pvr"); (· walk_at "pvr"); (· walk_at "pvr"); (· exact rfl))
  | ((with_reducible apply r_disp); (· walk_at "pvr"); (· decide))
  | ((with_reducible apply r_call); (· walk_at "pvr"); (· exact rfl); (· walk_at "pvd"))
  | ((with_reducible apply r_vNot); walk_at "pvr"))

def φ_of : Fn := fun ds μ => bodyR (m_l_of φ_take (startE N_l_of.length ds) μ)
theorem of_ok {c : Int} {n : Nat} {μ : Mem} {l : List D} (h : PotOk c n μ) (hc : c < 2 ^ 30) (h0 : 0 < l.length) (h1 : l.length ≤ 1000) : ∃ x μ', φ_of [.ref n, .lst l] μ = .ok x μ' ∧ x ∈ l ∧ PotOk (c + 1) n μ' := by
  obtain ⟨r, μ', e, r0, r1, hp⟩ := take_ok (u := l.length) h hc (by omega) (by omega)
  obtain ⟨x, hx, hm⟩ := atI_get r0 r1
  refine ⟨x, μ', ?_, hm, hp⟩
  have hix : ixD (.lst l) (.int r) = some x := hx
  show bodyR (m_l_of φ_take (startE N_l_of.length [.ref n, .lst l]) μ) = _
  have e2 : m_l_of φ_take (startE N_l_of.length [.ref n, .lst l]) μ = .ret x μ' := by
    unfold m_l_of
    apply q_ret
    apply r_bin
    · walk_at "pvr"
    · walk_at "pvr"
    · walk_at "pvk"
    · walk_at "pvk"
    · exact hix
  rw [e2]; rfl
def φ_cells : Fn := fun ds μ => bodyR (m_l_cells (startE N_l_cells.length ds) μ)
theorem cells_ok {ns : List Int} {μ : Mem} : ∃ k : Int, φ_cells [.frl ns, .int 3] μ = .ok (.lst (rangeD 0 k)) μ ∧ 0 ≤ k ∧ k ≤ 3 := by
  have e2 : m_l_cells (startE N_l_cells.length [.frl ns, .int 3]) μ = .ret (.lst (rangeD 0 (if (if (ns.length : Int) < 3 then (ns.length : Int) else 3) > 1 then (if (ns.length : Int) < 3 then (ns.length : Int) else 3) else 1))) μ := by
    unfold m_l_cells
    apply q_ret
    apply r_listR
    · walk_at "pvr"
    · split <;> split <;> omega
    · split <;> split <;> omega
  refine ⟨_, by show bodyR (m_l_cells _ μ) = _; rw [e2]; rfl, ?_, ?_⟩
  · split <;> split <;> omega
  · split <;> split <;> omega
def odds : List D := [.non, .bl true, .bl false, .int 0, .int 1, .int (-1), .int (10 ^ Int.toNat 8), .str "", .str "a", .str "ahead", .str "pair", .tup [], .lst [], .dK [], .tup [.int 0], .tup [.tup []], .lst [.int 0]] ++ [.tup [.str "a", .str "b"], .tup [.str "pair", .str "a", .str "b", .tup [.str "ahead"]], .tup [.str "seen", .tup [.str "a", .str "b"]], .tup [.str "then", .tup [.str "a", .str "b"]], .str "never"]
def φ_odd : Fn := fun ds μ => bodyR (m_l_odd φ_of (startE N_l_odd.length ds) μ)
theorem odd_ok {c : Int} {n : Nat} {μ : Mem} (h : PotOk c n μ) (hc : c < 2 ^ 30) : ∃ x μ', φ_odd [.ref n] μ = .ok x μ' ∧ x ∈ odds ∧ PotOk (c + 1) n μ' := by
  obtain ⟨x, μ', e, hm, hp⟩ := of_ok (l := odds) h hc (by decide) (by decide)
  refine ⟨x, μ', ?_, hm, hp⟩
  have e2 : m_l_odd φ_of (startE N_l_odd.length [.ref n]) μ = .ret x μ' := by
    unfold m_l_odd
    apply s_next
    · apply q_set; walk_at "pvr"
    apply s_next
    · apply q_set; walk_at "pvr"
    apply q_ret
    apply r_call
    · walk_at "pvr"
    · exact rfl
    · exact e
  show bodyR (m_l_odd φ_of _ μ) = _
  rw [e2]; rfl
def madeL (v : D) : List D := (List.range 23).map fun i => .exc (i + 1) v
def φ_created : Fn := fun ds μ => bodyR (m_l_created (startE N_l_created.length ds) μ)
theorem created_ok {v : D} {μ : Mem} : φ_created [v] μ = .ok (.lst (madeL v)) μ := by
  have e2 : m_l_created (startE N_l_created.length [v]) μ = .ret (.lst (madeL v)) μ := by
    unfold m_l_created
    apply s_next
    · apply q_own; walk_at "pvr"
    apply s_next
    · apply q_expr; apply r_mut
      · exact rfl
      · walk_at "pvr"
      · exact rfl
      · exact rfl
    apply s_next
    · apply q_expr; apply r_mut
      · exact rfl
      · walk_at "pvr"
      · exact rfl
      · exact rfl
    apply s_next
    · apply q_expr; apply r_mut
      · exact rfl
      · walk_at "pvr"
      · exact rfl
      · exact rfl
    apply q_ret
    apply r_bin
    · walk_at "pvr"
    · walk_at "pvr"
    · walk_at "pvk"
    · walk_at "pvk"
    · exact rfl
  show bodyR (m_l_created _ μ) = _
  rw [e2]; rfl
def kindL (c : Nat) : List D := (List.range 23).map fun i => .bl (xis (i + 1) c)
def φ_kinds : Fn := fun ds μ => bodyR (m_l_kinds (startE N_l_kinds.length ds) μ)
theorem kinds_ok {c : Nat} {v : D} {μ : Mem} (h : c < 24) : φ_kinds [.exc c v] μ = .ok (.lst (kindL c)) μ := by
  have e2 : m_l_kinds (startE N_l_kinds.length [.exc c v]) μ = .ret (.lst (kindL c)) μ := by
    unfold m_l_kinds
    apply s_next
    · apply q_own; walk_at "pvr"
    iterate 6
      apply s_next
      · apply q_expr; apply r_mut
        · exact rfl
        · walk_at "pvr"
        · exact rfl
        · exact rfl
    apply q_ret
    apply r_bin
    · walk_at "pvr"
    · walk_at "pvr"
    · walk_at "pvk"
    · walk_at "pvk"
    · exact rfl
  show bodyR (m_l_kinds _ μ) = _
  rw [e2]; rfl
end Lw

namespace Lw
open PySem L2 Pv
local macro_rules | `(tactic| walk_at "pvd") => `(tactic| first | with_reducible assumption | ((with_reducible refine isxD_ok ?_); assumption) | ((with_reducible refine valueD_ok ?_); assumption) | ((with_reducible refine modD_ok ?_); omega) | ((with_reducible refine fdivD_ok ?_ ?_) <;> omega) | ((with_reducible refine mulD_ok ?_ ?_) <;> omega) | ((with_reducible refine powD_ok ?_ ?_) <;> omega) | exact rfl)
local macro_rules | `(tactic| walk_at "pvm") => `(tactic| first | with_reducible assumption | exact List.getElem?_set_self (by assumption))
local macro_rules | `(tactic| walk_at "pvk") => `(tactic| first | with_reducible exact k_d | ((with_reducible apply k_ref); (· exact rfl); (· walk_at "pvm")) | ((with_reducible apply k_own); exact rfl) | ((with_reducible apply k_val); (· exact rfl); (· first | exact rfl | with_reducible assumption)))
local macro_rules | `(tactic| walk_at "pvl") => `(tactic| first | with_reducible exact k_nil | ((with_reducible apply k_cons); (· walk_at "pvk"); (· walk_at "pvl")))
local macro_rules | `(tactic| walk_at "pvr") => `(tactic| first
  | with_reducible exact r_C | with_reducible exact r_lNil | with_reducible exact r_alNil | with_reducible exact r_d0 | with_reducible exact r_pNil
  | ((with_reducible apply r_var); exact rfl) | ((with_reducible apply r_varO); exact rfl) | ((with_reducible apply r_aVar); exact rfl)
  | ((with_reducible apply r_aE); walk_at "pvr")
  | ((with_reducible apply r_bin); (· walk_at "pvr"); (· walk_at "pvr"); (· walk_at "pvk"); (· walk_at "pvk"); (· walk_at "pvd"))
  | ((with_reducible apply r_un); (· walk_at "pvr"); (· walk_at "pvk"); (· walk_at "pvd"))
  | ((with_reducible apply r_lCons); (· walk_at "pvr"); (· walk_at "pvr"))
  | ((with_reducible apply r_alCons); (· walk_at "pvr"); (· walk_at "pvr"))
  | ((with_reducible apply r_B); (· walk_at "pvr"); (· walk_at "pvl"); (· walk_at "pvd"))
  | ((with_reducible apply r_tup); (· walk_at "pvr"); (· first | decide | (simp <;> done)))
  | ((with_reducible apply r_lst); (· walk_at "pvr"); (· first | decide | (simp <;> done)))
  | ((with_reducible apply r_box); (· walk_at "pvr"); (· first | decide | (simp <;> done)))
  | ((with_reducible apply r_tBl); walk_at "pvr")
  | ((with_reducible apply r_not); walk_at "pvr")
  | ((with_reducible apply r_exc); walk_at "pvr")
  | ((with_reducible apply r_pCons); (· walk_at "pvr"); (· walk_at "pvr"); (· walk_at "pvr"); (· exact rfl))
  | ((with_reducible apply r_disp); (· walk_at "pvr"); (· first | decide | (simp <;> done)))
  | ((with_reducible apply r_call); (· walk_at "pvr"); (· exact rfl); (· walk_at "pvd"))
  | ((with_reducible apply r_vNot); walk_at "pvr"))

theorem r_notT {t : M Bool} {ρ ρ1 : Pv.Env} {μ μ1 : Mem} (h : t ρ μ = .ok true ρ1 μ1) : mNot t ρ μ = .ok false ρ1 μ1 := r_not h
theorem r_vNotF {m : M D} {ρ ρ1 : Pv.Env} {μ μ1 : Mem} (h : m ρ μ = .ok (.bl false) ρ1 μ1) : vNot m ρ μ = .ok (.bl true) ρ1 μ1 := r_vNot h
theorem forM_next {g : MG} {b : MS} {d : D} {ds : List D} {ρ ρ1 ρ2 : Pv.Env} {μ μ2 : Mem} (hg : g d ρ = some ρ1) (hb : b ρ1 μ = .next ρ2 μ2) : forM g b (d :: ds) ρ μ = forM g b ds ρ2 μ2 := by
  show (match g d ρ with
    | none => Fl.bad
    | some ρ' => match b ρ' μ with
      | .next ρ2 μ2 => forM g b ds ρ2 μ2
      | .cont ρ2 μ2 => forM g b ds ρ2 μ2
      | .brk ρ2 μ2 => .next ρ2 μ2
      | r => r) = _
  rw [hg]; dsimp only; rw [hb]
/-- data that repr can show -/
def goodV (v : D) : Bool := nref v && (match toS v with
  | some p => reprOk p && PyData.strOk p.shown
  | none => false)
theorem goodV_ok {v : D} (h : goodV v = true) : nref v = true ∧ ∃ s, reprD [v] = some (.str s) ∧ PyData.strOk s = true := by
  obtain ⟨h1, h2⟩ := Bool.and_eq_true_iff.mp h
  refine ⟨h1, ?_⟩
  cases q : toS v with
  | none => rw [q] at h2; cases h2
  | some p =>
    rw [q] at h2
    obtain ⟨h3, h4⟩ := Bool.and_eq_true_iff.mp h2
    exact ⟨p.shown, by show (toS v).bind _ = _; rw [q]; exact if_pos h3, h4⟩
def chosen (o o2 : D) : List D := [o, .tup [o, .lst [o2]], .dK (mergeD [] [(Sum.inr "a", o)])]
theorem all_good : (odds.all fun o => odds.all fun o2 => (chosen o o2).all goodV) = true := by decide +kernel
theorem good_of {o o2 v : D} (h : o ∈ odds) (h2 : o2 ∈ odds) (h3 : v ∈ chosen o o2) : goodV v = true := List.all_eq_true.mp (List.all_eq_true.mp (List.all_eq_true.mp all_good o h) o2 h2) v h3
/-- what the comprehension says of a number -/
def eqF (i : Nat) (x : D) : D := (eqD x (.int i)).getD .non
def isF (x : Option D) : Bool := match x with
  | some (.bl false) => true
  | _ => false
theorem isF_ok {x : Option D} (h : isF x = true) : x = some (.bl false) := by
  unfold isF at h
  split at h
  · rfl
  · cases h
theorem all_ne : ((List.range 23).all fun i => isF (neD (.lst (kindL (i + 1))) (.lst ([] ++ (rangeD 0 23).map (eqF i))))) = true := by decide +kernel
theorem ne_of {i : Nat} (h : i < 23) : neD (.lst (kindL (i + 1))) (.lst ([] ++ (rangeD 0 23).map (eqF i))) = some (.bl false) := isF_ok (List.all_eq_true.mp all_ne i (List.mem_range.mpr h))
theorem str_sh {s : Str} (ok : PyData.strOk s = true) : shapedD (.str s) = some (.str s) := by
  have h : SeqAt.shaped (.str s) = true := by simp [SeqAt.shaped, PyData.canLay0, PyData.depth, ok]
  unfold shapedD
  simp only [toP, Option.bind_some]
  exact if_pos h
theorem str_eqv (s : Str) : PyData.eqv (.str s) (.str s) = true := by simp [PyData.eqv]
theorem str_ne {s : Str} (ok : PyData.strOk s = true) : neD (.str s) (.str s) = some (.bl false) := by
  unfold neD
  rw [str_sh ok]
  show some (D.bl (!PyData.eqv (.str s) (.str s))) = _
  rw [str_eqv]; rfl
theorem str_eq {s : Str} (ok : PyData.strOk s = true) : eqD (.str s) (.str s) = some (.bl true) := by
  unfold eqD
  rw [str_sh ok]
  show some (D.bl (PyData.eqv (.str s) (.str s))) = _
  rw [str_eqv]
def gR : MG := (gTu 2 (gsCons (gN 3) (gsCons (gN 4) gsNil)))
def bR : MS := (sSeq (sIf (mOr (tBl (mBin neD (aE (mCall 1 φ_kinds (lCons (mVar 4) lNil))) (aE (mLc (iR1 (lCons (mC (.int 23)) lNil)) (gN 6) tYesM (mBin eqD (aVar 6) (aVar 3)) [6])))) (tBl (mBin neD (aE (mB reprD (alCons (aE (mUn (valueD 24) (aVar 4))) alNil))) (aE (mB reprD (alCons (aVar 2) alNil)))))) (sRet (mC (.bl false))) sNil) (sIf (mOr (mNot (tBl (mUn (isxD 24 (xis 0)) (aVar 4)))) (mNot (tBl (mUn (isxD 24 (fun _ => true)) (aVar 4))))) (sRet (mC (.bl false))) sNil))
def itm (v : D) (i : Nat) : D := .tup [.int i, .exc (i + 1) v]
theorem turn {v o : D} {n i : Nat} {μ : Mem} {s : Str} {s3 s4 s6 : Option Sl} (hi : i < 23) (hv : nref v = true) (hr : reprD [v] = some (.str s)) (ok : PyData.strOk s = true) :
    bR [some (.val (.ref n)), some (.val o), some (.val v), some (.val (.int i)), some (.val (.exc (i + 1) v)), none, s6] μ = .next [some (.val (.ref n)), some (.val o), some (.val v), some (.val (.int i)), some (.val (.exc (i + 1) v)), none, none] μ := by
  have hc : i + 1 < 24 := by omega
  have hx0 : isxD 24 (xis 0) (.exc (i + 1) v) = some (.bl true) := isxD_ok hc
  have hxV : isxD 24 (fun _ => true) (.exc (i + 1) v) = some (.bl true) := isxD_ok hc
  have hns := str_ne ok
  unfold bR
  apply s_next
  · apply q_ifF
    · apply r_orF
      · apply r_tBl
        apply r_bin
        · apply r_aE
          apply r_call
          · walk_at "pvr"
          · exact rfl
          · exact kinds_ok hc
        · apply r_aE
          apply r_lc
          · apply q_R1
            · walk_at "pvr"
            · exact rfl
          · apply lcM_map (f := eqF i)
            · exact rfl
            · intro x hx
              obtain ⟨t, _, rfl⟩ := List.mem_map.mp hx
              apply r_bin
              · walk_at "pvr"
              · walk_at "pvr"
              · walk_at "pvk"
              · walk_at "pvk"
              · exact rfl
            · decide
        · exact k_d
        · exact k_d
        · exact ne_of hi
      · apply r_tBl
        walk_at "pvr"
    · exact q_nil
  apply q_ifF
  · apply r_orF
    · apply r_notT
      apply r_tBl
      walk_at "pvr"
    · apply r_notT
      apply r_tBl
      walk_at "pvr"
  exact q_nil
theorem loop {v o : D} {n : Nat} {μ : Mem} {s : Str} (hv : nref v = true) (hr : reprD [v] = some (.str s)) (ok : PyData.strOk s = true) : ∀ (l : List Nat) (s3 s4 s6 : Option Sl), (∀ i ∈ l, i < 23) → ∃ s3' s4' s6', forM gR bR (l.map (itm v)) [some (.val (.ref n)), some (.val o), some (.val v), s3, s4, none, s6] μ = .next [some (.val (.ref n)), some (.val o), some (.val v), s3', s4', none, s6'] μ
  | [], s3, s4, s6, _ => ⟨s3, s4, s6, rfl⟩
  | i :: l, s3, s4, s6, h => by
    obtain ⟨a, b, c, e⟩ := loop hv hr ok l (some (.val (.int i))) (some (.val (.exc (i + 1) v))) none fun j hj => h j (List.mem_cons_of_mem _ hj)
    exact ⟨a, b, c, (forM_next rfl (turn (s3 := s3) (s4 := s4) (h i List.mem_cons_self) hv hr ok)).trans e⟩
theorem enum_made (v : D) : enumD (madeL v) = (List.range 23).map (itm v) := by
  apply List.ext_getElem?
  intro k
  unfold enumD madeL
  rw [List.getElem?_mapIdx, List.getElem?_map, List.getElem?_map]
  rcases Nat.lt_or_ge k 23 with h | h
  · rw [List.getElem?_range h]; rfl
  · rw [List.getElem?_eq_none (by rw [List.length_range]; exact h)]; rfl
def φ_right : Fn := fun ds μ => bodyR (m_l_right φ_odd φ_of φ_created φ_kinds (startE N_l_right.length ds) μ)
theorem right_ok {c : Int} {n : Nat} {μ : Mem} (h : PotOk c n μ) (hc : c + 3 < 2 ^ 30) : ∃ μ', φ_right [.ref n] μ = .ok (.bl true) μ' := by
  obtain ⟨o, μ1, e1, ho, hp1⟩ := odd_ok h (by omega)
  obtain ⟨o2, μ2, e2, ho2, hp2⟩ := odd_ok hp1 (by omega)
  obtain ⟨v, μ3, e3, hm, hp3⟩ := of_ok (l := chosen o o2) hp2 (by omega) (by show 0 < 3; decide) (by show 3 ≤ 1000; decide)
  obtain ⟨hv, s, hr, ok⟩ := goodV_ok (good_of ho ho2 hm)
  obtain ⟨s3, s4, s6, el⟩ := loop (o := o) (n := n) (μ := μ3) hv hr ok (List.range 23) none none none fun i hi => List.mem_range.mp hi
  have hes := str_eq ok
  refine ⟨μ3, ?_⟩
  have e : m_l_right φ_odd φ_of φ_created φ_kinds (startE N_l_right.length [.ref n]) μ = .ret (.bl true) μ3 := by
    unfold m_l_right
    apply s_next
    · apply q_set; walk_at "pvr"
    apply s_next
    · apply q_set
      apply r_call
      · walk_at "pvr"
      · exact rfl
      · exact e3
    apply s_next
    · apply q_for
      · apply q_enum
        apply r_lCons
        · apply r_call
          · walk_at "pvr"
          · exact rfl
          · exact created_ok
        · exact r_lNil
      · show Pv.forM gR bR (enumD (madeL v)) (((startE N_l_right.length [D.ref n]).set 1 (some (.val o))).set 2 (some (.val v))) μ3 = _
        rw [enum_made, show (((startE N_l_right.length [D.ref n]).set 1 (some (.val o))).set 2 (some (.val v)) : Pv.Env) = [some (.val (.ref n)), some (.val o), some (.val v), none, none, none, none] from rfl]
        exact el
    apply s_next
    · apply q_set; walk_at "pvr"
    apply q_ret
    apply r_vAndT
    · apply r_vNotF
      apply r_B
      · apply r_alCons
        · apply r_aE
          apply r_call
          · walk_at "pvr"
          · exact rfl
          · exact kinds_ok (by decide)
        · exact r_alNil
      · walk_at "pvl"
      · exact rfl
    apply r_vAndT
    · walk_at "pvr"
    · walk_at "pvr"
  show bodyR (m_l_right φ_odd φ_of φ_created φ_kinds _ μ) = _
  rw [e]; rfl
end Lw

namespace Lw
open PySem L2 Pv
local macro_rules | `(tactic| walk_at "pvd") => `(tactic| first | with_reducible assumption | ((with_reducible refine isxD_ok ?_); assumption) | ((with_reducible refine valueD_ok ?_); assumption) | ((with_reducible refine modD_ok ?_); omega) | ((with_reducible refine fdivD_ok ?_ ?_) <;> omega) | ((with_reducible refine mulD_ok ?_ ?_) <;> omega) | ((with_reducible refine powD_ok ?_ ?_) <;> omega) | exact rfl)
local macro_rules | `(tactic| walk_at "pvm") => `(tactic| first | with_reducible assumption | exact List.getElem?_set_self (by assumption))
local macro_rules | `(tactic| walk_at "pvk") => `(tactic| first | with_reducible exact k_d | ((with_reducible apply k_ref); (· exact rfl); (· walk_at "pvm")) | ((with_reducible apply k_own); exact rfl) | ((with_reducible apply k_val); (· exact rfl); (· first | exact rfl | with_reducible assumption)))
local macro_rules | `(tactic| walk_at "pvl") => `(tactic| first | with_reducible exact k_nil | ((with_reducible apply k_cons); (· walk_at "pvk"); (· walk_at "pvl")))
local macro_rules | `(tactic| walk_at "pvr") => `(tactic| first
  | with_reducible exact r_C | with_reducible exact r_lNil | with_reducible exact r_alNil | with_reducible exact r_d0 | with_reducible exact r_pNil
  | ((with_reducible apply r_var); exact rfl) | ((with_reducible apply r_varO); exact rfl) | ((with_reducible apply r_aVar); exact rfl)
  | ((with_reducible apply r_aE); walk_at "pvr")
  | ((with_reducible apply r_bin); (· walk_at "pvr"); (· walk_at "pvr"); (· walk_at "pvk"); (· walk_at "pvk"); (· walk_at "pvd"))
  | ((with_reducible apply r_un); (· walk_at "pvr"); (· walk_at "pvk"); (· walk_at "pvd"))
  | ((with_reducible apply r_lCons); (· walk_at "pvr"); (· walk_at "pvr"))
  | ((with_reducible apply r_alCons); (· walk_at "pvr"); (· walk_at "pvr"))
  | ((with_reducible apply r_B); (· walk_at "pvr"); (· walk_at "pvl"); (· walk_at "pvd"))
  | ((with_reducible apply r_tup); (· walk_at "pvr"); (· first | decide | (simp <;> done)))
  | ((with_reducible apply r_lst); (· walk_at "pvr"); (· first | decide | (simp <;> done)))
  | ((with_reducible apply r_box); (· walk_at "pvr"); (· first | decide | (simp <;> done)))
  | ((with_reducible apply r_tBl); walk_at "pvr")
  | ((with_reducible apply r_not); walk_at "pvr")
  | ((with_reducible apply r_exc); walk_at "pvr")
  | ((with_reducible apply r_pCons); (· walk_at "pvr"); (· walk_at "pvr"); (· walk_at "pvr"); (· exact rfl))
  | ((with_reducible apply r_disp); (· walk_at "pvr"); (· first | decide | (simp <;> done)))
  | ((with_reducible apply r_call); (· walk_at "pvr"); (· exact rfl); (· walk_at "pvd"))
  | ((with_reducible apply r_vNot); walk_at "pvr"))

def φ_law : Fn := fun ds μ => bodyR (m_law φ_cells φ_right φ_pot (startE N_law.length ds) μ)
def meL : M D := (mCall 1 φ_right (lCons (mCall 2 φ_pot (lCons (mVar 0) (lCons (mVar 1) lNil))) lNil))
theorem one_ok {ns : List Int} {i : Int} {μ : Mem} (hz : ns.length ≤ 1000) (h0 : 0 ≤ i) (h1 : i < 3) : ∃ μ', meL [some (.val (.frl ns)), some (.val (.int i))] μ = .ok (.bl true) [some (.val (.frl ns)), some (.val (.int i))] μ' := by
  obtain ⟨μ1, e1, hp⟩ := pot_ok (μ := μ) h0 (by omega) hz
  obtain ⟨μ2, e2⟩ := right_ok hp (by omega)
  refine ⟨μ2, ?_⟩
  unfold meL
  apply r_call
  · apply r_lCons
    · apply r_call
      · walk_at "pvr"
      · exact rfl
      · exact e1
    · exact r_lNil
  · exact rfl
  · exact e2
theorem each_ok {ns : List Int} (hz : ns.length ≤ 1000) : ∀ (ds acc : List D) (μ : Mem), (∀ x ∈ ds, ∃ i : Int, x = .int i ∧ 0 ≤ i ∧ i < 3) → acc.length + ds.length ≤ 1000 → ∃ μ', lcM (gN 1) tYesM meL [1] ds acc [some (.val (.frl ns)), none] μ = .ok (.lst (acc ++ ds.map fun _ => .bl true)) [some (.val (.frl ns)), none] μ'
  | [], acc, μ, _, _ => ⟨μ, by unfold lcM; rw [List.map_nil, List.append_nil]⟩
  | x :: ds, acc, μ, h, hl => by
    obtain ⟨i, rfl, h0, h1⟩ := h x List.mem_cons_self
    obtain ⟨μ1, e1⟩ := one_ok (μ := μ) hz h0 h1
    obtain ⟨μ2, e2⟩ := each_ok hz ds (acc ++ [.bl true]) μ1 (fun y hy => h y (List.mem_cons_of_mem _ hy)) (by rw [List.length_append, List.length_singleton]; rw [List.length_cons] at hl; omega)
    refine ⟨μ2, ?_⟩
    have hs : acc.length < sizeLine := small1000 (by rw [List.length_cons] at hl; omega)
    unfold lcM
    rw [show gN 1 (.int i) (wipeE [some (.val (.frl ns)), none] [1]) = some [some (.val (.frl ns)), some (.val (.int i))] from rfl]
    dsimp only
    rw [show tYesM [some (.val (.frl ns)), some (.val (.int i))] μ = .ok true [some (.val (.frl ns)), some (.val (.int i))] μ from rfl]
    dsimp only
    rw [e1]
    dsimp only
    rw [if_pos hs, show wipeE [some (.val (.frl ns)), some (.val (.int i))] [1] = [some (.val (.frl ns)), none] from rfl, e2, List.map_cons, List.append_assoc]
    rfl
theorem bls_true : ∀ ds : List D, blsD (ds.map fun _ => .bl true) = some (ds.map fun _ => true)
  | [] => rfl
  | _ :: ds => by
    rw [List.map_cons, List.map_cons]
    unfold blsD
    rw [bls_true ds]
    try rfl
theorem law_ok {ns : List Int} (hz : ns.length ≤ 1000) : ∃ μ, φ_law [.frl ns] [] = .ok (.bl true) μ := by
  obtain ⟨k, ek, k0, k1⟩ := cells_ok (ns := ns) (μ := [])
  have hr : ∀ x ∈ rangeD 0 k, ∃ i : Int, x = .int i ∧ 0 ≤ i ∧ i < 3 := fun x hx => by
    obtain ⟨t, ht, rfl⟩ := List.mem_map.mp hx
    have := List.mem_range.mp ht
    exact ⟨_, rfl, by omega, by omega⟩
  have hlen : (rangeD 0 k).length = (k - 0).toNat := by unfold rangeD; rw [List.length_map, List.length_range]
  obtain ⟨μ2, e2⟩ := each_ok hz (rangeD 0 k) [] [] hr (by rw [hlen, List.length_nil]; omega)
  refine ⟨μ2, ?_⟩
  have e : m_law φ_cells φ_right φ_pot (startE N_law.length [.frl ns]) [] = .ret (.bl true) μ2 := by
    unfold m_law
    apply q_ret
    apply r_B
    · apply r_alCons
      · apply r_aE
        apply r_lc
        · apply q_seqI
          · apply r_call
            · walk_at "pvr"
            · exact rfl
            · exact ek
          · exact rfl
        · exact e2
      · exact r_alNil
    · walk_at "pvl"
    · show (blsD ([] ++ (rangeD 0 k).map fun _ => D.bl true)).map (fun bs => D.bl (bs.all id)) = _
      rw [List.nil_append, bls_true]
      show some (D.bl (((rangeD 0 k).map fun _ => true).all id)) = _
      rw [show ((rangeD 0 k).map fun _ => true).all id = true by simp]
  show bodyR (m_law φ_cells φ_right φ_pot _ []) = _
  rw [e]; rfl
end Lw

namespace Lw
open PySem PySem.Spec PyProof.Rows L2 Pv

def tb (K : PySem.W.Frag) : Tbl := ⟨fun _ => 0, fun _ => [], xT K nm⟩
theorem facts {w : World} {K : PySem.W.Frag} {h : Heap} {mg : Str → Option Value} {f : Addr} (X : K.In h) (G : h.Ns mainGlobals mg) (hfa : mg ("law" : Str) = some (.ref f)) (c : obsX file nm fa fn K = valX fn) :
    ∃ fd : FuncData, (∀ (s : Shared) (v : Value), BindsTo s fd ⟨[v], []⟩ [("_law_script", v)]) ∧ ∀ base : Heap, K.In base → base.Ns mainGlobals mg → FnG R.prog w K mg base 5 f fd ["_law_script"] (spD K (tb K) 1 φ_law) := by
  have c0 : He.SaysD fa fn K := congrArg (fun z : AlX => z.1) c
  have XA : XAll R.prog K (tb K) mg nm := xall_of (T := tb K) X G c (by decide +kernel) rfl
  obtain ⟨fd_l_pot, F0_l_pot⟩ := c0.def_ 0 (d := d_l_pot) rfl
  have F_l_pot : Fun K "_law_pot" "_law_pot" s_l_pot (He.ga K "_law_pot") fd_l_pot := fun_of F0_l_pot
  have m_l_pot := He.glo_ok X G (c0.fact 0 (f := .glo "_law_pot") rfl)
  obtain ⟨fd_l_take, F0_l_take⟩ := c0.def_ 1 (d := d_l_take) rfl
  have F_l_take : Fun K "_law_take" "_law_take" s_l_take (He.ga K "_law_take") fd_l_take := fun_of F0_l_take
  have m_l_take := He.glo_ok X G (c0.fact 1 (f := .glo "_law_take") rfl)
  obtain ⟨fd_l_of, F0_l_of⟩ := c0.def_ 2 (d := d_l_of) rfl
  have F_l_of : Fun K "_law_of" "_law_of" s_l_of (He.ga K "_law_of") fd_l_of := fun_of F0_l_of
  have m_l_of := He.glo_ok X G (c0.fact 2 (f := .glo "_law_of") rfl)
  obtain ⟨fd_l_cells, F0_l_cells⟩ := c0.def_ 3 (d := d_l_cells) rfl
  have F_l_cells : Fun K "_law_cells" "_law_cells" s_l_cells (He.ga K "_law_cells") fd_l_cells := fun_of F0_l_cells
  have m_l_cells := He.glo_ok X G (c0.fact 3 (f := .glo "_law_cells") rfl)
  obtain ⟨fd_l_odd, F0_l_odd⟩ := c0.def_ 4 (d := d_l_odd) rfl
  have F_l_odd : Fun K "_law_odd" "_law_odd" s_l_odd (He.ga K "_law_odd") fd_l_odd := fun_of F0_l_odd
  have m_l_odd := He.glo_ok X G (c0.fact 4 (f := .glo "_law_odd") rfl)
  obtain ⟨fd_l_created, F0_l_created⟩ := c0.def_ 5 (d := d_l_created) rfl
  have F_l_created : Fun K "_law_created" "_law_created" s_l_created (He.ga K "_law_created") fd_l_created := fun_of F0_l_created
  have m_l_created := He.glo_ok X G (c0.fact 5 (f := .glo "_law_created") rfl)
  obtain ⟨fd_l_kinds, F0_l_kinds⟩ := c0.def_ 6 (d := d_l_kinds) rfl
  have F_l_kinds : Fun K "_law_kinds" "_law_kinds" s_l_kinds (He.ga K "_law_kinds") fd_l_kinds := fun_of F0_l_kinds
  have m_l_kinds := He.glo_ok X G (c0.fact 6 (f := .glo "_law_kinds") rfl)
  obtain ⟨fd_l_right, F0_l_right⟩ := c0.def_ 7 (d := d_l_right) rfl
  have F_l_right : Fun K "_law_right" "_law_right" s_l_right (He.ga K "_law_right") fd_l_right := fun_of F0_l_right
  have m_l_right := He.glo_ok X G (c0.fact 7 (f := .glo "_law_right") rfl)
  obtain ⟨fd_law, F0_law⟩ := c0.def_ 8 (d := d_law) rfl
  have F_law : Fun K "law" "law" s_law (He.ga K "law") fd_law := fun_of F0_law
  have m_law := He.glo_ok X G (c0.fact 8 (f := .glo "law") rfl)
  have Z_len : mg "len" = none := He.free_ok X G (c0.fact 9 (f := .free "len") rfl)
  have Z_int : mg "int" = none := He.free_ok X G (c0.fact 10 (f := .free "int") rfl)
  have Z_abs : mg "abs" = none := He.free_ok X G (c0.fact 11 (f := .free "abs") rfl)
  have Z_list : mg "list" = none := He.free_ok X G (c0.fact 12 (f := .free "list") rfl)
  have Z_range : mg "range" = none := He.free_ok X G (c0.fact 13 (f := .free "range") rfl)
  have Z_max : mg "max" = none := He.free_ok X G (c0.fact 14 (f := .free "max") rfl)
  have Z_min : mg "min" = none := He.free_ok X G (c0.fact 15 (f := .free "min") rfl)
  have Z_super : mg "super" = none := He.free_ok X G (c0.fact 16 (f := .free "super") rfl)
  have Z_isinstance : mg "isinstance" = none := He.free_ok X G (c0.fact 17 (f := .free "isinstance") rfl)
  have Z_ValueError : mg "ValueError" = none := He.free_ok X G (c0.fact 18 (f := .free "ValueError") rfl)
  have Z_enumerate : mg "enumerate" = none := He.free_ok X G (c0.fact 19 (f := .free "enumerate") rfl)
  have Z_repr : mg "repr" = none := He.free_ok X G (c0.fact 20 (f := .free "repr") rfl)
  have Z_any : mg "any" = none := He.free_ok X G (c0.fact 21 (f := .free "any") rfl)
  have Z_all : mg "all" = none := He.free_ok X G (c0.fact 22 (f := .free "all") rfl)
  have g_PlanError : mg "PlanError" = some (.ref ((tb K).exc 0)) := XA.glob 0 "PlanError" rfl
  have g_BadBook : mg "BadBook" = some (.ref ((tb K).exc 1)) := XA.glob 1 "BadBook" rfl
  have g_NoTask : mg "NoTask" = some (.ref ((tb K).exc 2)) := XA.glob 2 "NoTask" rfl
  have g_BadFact : mg "BadFact" = some (.ref ((tb K).exc 3)) := XA.glob 3 "BadFact" rfl
  have g_Full : mg "Full" = some (.ref ((tb K).exc 4)) := XA.glob 4 "Full" rfl
  have g_NoFact : mg "NoFact" = some (.ref ((tb K).exc 5)) := XA.glob 5 "NoFact" rfl
  have g_OtherTasks : mg "OtherTasks" = some (.ref ((tb K).exc 6)) := XA.glob 6 "OtherTasks" rfl
  have g_BadPlan : mg "BadPlan" = some (.ref ((tb K).exc 7)) := XA.glob 7 "BadPlan" rfl
  have g_BadTasks : mg "BadTasks" = some (.ref ((tb K).exc 8)) := XA.glob 8 "BadTasks" rfl
  have g_BadFacts : mg "BadFacts" = some (.ref ((tb K).exc 9)) := XA.glob 9 "BadFacts" rfl
  have g_BadClaims : mg "BadClaims" = some (.ref ((tb K).exc 10)) := XA.glob 10 "BadClaims" rfl
  have g_NoPlan : mg "NoPlan" = some (.ref ((tb K).exc 11)) := XA.glob 11 "NoPlan" rfl
  have g_TooMany : mg "TooMany" = some (.ref ((tb K).exc 12)) := XA.glob 12 "TooMany" rfl
  have g_BadNumber : mg "BadNumber" = some (.ref ((tb K).exc 13)) := XA.glob 13 "BadNumber" rfl
  have g_BadPrices : mg "BadPrices" = some (.ref ((tb K).exc 14)) := XA.glob 14 "BadPrices" rfl
  have g_TooManyOpen : mg "TooManyOpen" = some (.ref ((tb K).exc 15)) := XA.glob 15 "TooManyOpen" rfl
  have g_BadOffers : mg "BadOffers" = some (.ref ((tb K).exc 16)) := XA.glob 16 "BadOffers" rfl
  have g_BadWishes : mg "BadWishes" = some (.ref ((tb K).exc 17)) := XA.glob 17 "BadWishes" rfl
  have g_Contrary : mg "Contrary" = some (.ref ((tb K).exc 18)) := XA.glob 18 "Contrary" rfl
  have g_NothingToUndo : mg "NothingToUndo" = some (.ref ((tb K).exc 19)) := XA.glob 19 "NothingToUndo" rfl
  have g_NothingToRedo : mg "NothingToRedo" = some (.ref ((tb K).exc 20)) := XA.glob 20 "NothingToRedo" rfl
  have g_NoTrial : mg "NoTrial" = some (.ref ((tb K).exc 21)) := XA.glob 21 "NoTrial" rfl
  have g_BadJournal : mg "BadJournal" = some (.ref ((tb K).exc 22)) := XA.glob 22 "BadJournal" rfl
  have g_BadLine : mg "BadLine" = some (.ref ((tb K).exc 23)) := XA.glob 23 "BadLine" rfl
  have e := hfa.symm.trans m_law
  cases e
  refine ⟨fd_law, fun s v => ?_, fun base KB GB => ?_⟩
  · exact FunD.bindsA (ps := ["_law_script"]) F0_law (fun _ _ _ _ _ _ us hl => match us, hl with | [_], _ => rfl) s [v] rfl
  · have C_l_pot : Callee R.prog w K mg base (tb K) "_law_pot" 1 2 φ_pot := Callee.mk F_l_pot (ok_l_pot (F := F_l_pot) (Z_len := Z_len) (Z_int := Z_int) (Z_abs := Z_abs) (φ := φ_pot) (hφ := fun _ _ _ => .inr rfl)) m_l_pot (F_l_pot.binds fun _ _ _ _ _ _ us hl => match us, hl with | [_, _], _ => rfl)
    have C_l_take : Callee R.prog w K mg base (tb K) "_law_take" 1 2 φ_take := Callee.mk F_l_take (ok_l_take (F := F_l_take) (Z_int := Z_int) (φ := φ_take) (hφ := fun _ _ _ => .inr rfl)) m_l_take (F_l_take.binds fun _ _ _ _ _ _ us hl => match us, hl with | [_, _], _ => rfl)
    have C_l_of : Callee R.prog w K mg base (tb K) "_law_of" 2 2 φ_of := Callee.mk F_l_of (ok_l_of (F := F_l_of) (K_l_take := C_l_take) (Z_len := Z_len) (φ := φ_of) (hφ := fun _ _ _ => .inr rfl)) m_l_of (F_l_of.binds fun _ _ _ _ _ _ us hl => match us, hl with | [_, _], _ => rfl)
    have C_l_cells : Callee R.prog w K mg base (tb K) "_law_cells" 1 2 φ_cells := Callee.mk F_l_cells (ok_l_cells (F := F_l_cells) (Z_list := Z_list) (Z_range := Z_range) (Z_max := Z_max) (Z_min := Z_min) (Z_len := Z_len) (φ := φ_cells) (hφ := fun _ _ _ => .inr rfl)) m_l_cells (F_l_cells.binds fun _ _ _ _ _ _ us hl => match us, hl with | [_, _], _ => rfl)
    have C_l_odd : Callee R.prog w K mg base (tb K) "_law_odd" 3 1 φ_odd := Callee.mk F_l_odd (ok_l_odd (F := F_l_odd) (K_l_of := C_l_of) (φ := φ_odd) (hφ := fun _ _ _ => .inr rfl)) m_l_odd (F_l_odd.binds fun _ _ _ _ _ _ us hl => match us, hl with | [_], _ => rfl)
    have C_l_created : Callee R.prog w K mg base (tb K) "_law_created" 2 1 φ_created := Callee.mk F_l_created (ok_l_created (F := F_l_created) (Z_super := Z_super) (XN := XA.num) (g_OtherTasks := g_OtherTasks) (g_NoFact := g_NoFact) (g_Full := g_Full) (g_BadFact := g_BadFact) (g_NoTask := g_NoTask) (g_BadBook := g_BadBook) (g_NoPlan := g_NoPlan) (g_BadClaims := g_BadClaims) (g_BadFacts := g_BadFacts) (g_BadTasks := g_BadTasks) (g_BadPlan := g_BadPlan) (g_BadOffers := g_BadOffers) (g_TooManyOpen := g_TooManyOpen) (g_BadPrices := g_BadPrices) (g_BadNumber := g_BadNumber) (g_TooMany := g_TooMany) (g_NoTrial := g_NoTrial) (g_NothingToRedo := g_NothingToRedo) (g_NothingToUndo := g_NothingToUndo) (g_Contrary := g_Contrary) (g_BadWishes := g_BadWishes) (g_BadLine := g_BadLine) (g_BadJournal := g_BadJournal) (φ := φ_created) (hφ := fun _ _ _ => .inr rfl)) m_l_created (F_l_created.binds fun _ _ _ _ _ _ us hl => match us, hl with | [_], _ => rfl)
    have C_l_kinds : Callee R.prog w K mg base (tb K) "_law_kinds" 2 1 φ_kinds := Callee.mk F_l_kinds (ok_l_kinds (F := F_l_kinds) (Z_isinstance := Z_isinstance) (XN := XA.num) (g_Full := g_Full) (g_BadFact := g_BadFact) (g_NoTask := g_NoTask) (g_BadBook := g_BadBook) (g_BadPlan := g_BadPlan) (g_OtherTasks := g_OtherTasks) (g_NoFact := g_NoFact) (g_BadClaims := g_BadClaims) (g_BadFacts := g_BadFacts) (g_BadTasks := g_BadTasks) (g_BadNumber := g_BadNumber) (g_TooMany := g_TooMany) (g_NoPlan := g_NoPlan) (g_BadOffers := g_BadOffers) (g_TooManyOpen := g_TooManyOpen) (g_BadPrices := g_BadPrices) (g_NothingToUndo := g_NothingToUndo) (g_Contrary := g_Contrary) (g_BadWishes := g_BadWishes) (g_BadJournal := g_BadJournal) (g_NoTrial := g_NoTrial) (g_NothingToRedo := g_NothingToRedo) (g_BadLine := g_BadLine) (k_Full := XA.kit 4 (by decide)) (k_BadFact := XA.kit 3 (by decide)) (k_NoTask := XA.kit 2 (by decide)) (k_BadBook := XA.kit 1 (by decide)) (k_BadPlan := XA.kit 7 (by decide)) (k_OtherTasks := XA.kit 6 (by decide)) (k_NoFact := XA.kit 5 (by decide)) (k_BadClaims := XA.kit 10 (by decide)) (k_BadFacts := XA.kit 9 (by decide)) (k_BadTasks := XA.kit 8 (by decide)) (k_BadNumber := XA.kit 13 (by decide)) (k_TooMany := XA.kit 12 (by decide)) (k_NoPlan := XA.kit 11 (by decide)) (k_BadOffers := XA.kit 16 (by decide)) (k_TooManyOpen := XA.kit 15 (by decide)) (k_BadPrices := XA.kit 14 (by decide)) (k_NothingToUndo := XA.kit 19 (by decide)) (k_Contrary := XA.kit 18 (by decide)) (k_BadWishes := XA.kit 17 (by decide)) (k_BadJournal := XA.kit 22 (by decide)) (k_NoTrial := XA.kit 21 (by decide)) (k_NothingToRedo := XA.kit 20 (by decide)) (k_BadLine := XA.kit 23 (by decide)) (φ := φ_kinds) (hφ := fun _ _ _ => .inr rfl)) m_l_kinds (F_l_kinds.binds fun _ _ _ _ _ _ us hl => match us, hl with | [_], _ => rfl)
    have C_l_right : CalleeG R.prog w K mg base (tb K) "_law_right" 4 1 φ_right := CalleeG.mk F_l_right (ok_l_right (F := F_l_right) (K_l_odd := C_l_odd) (K_l_of := C_l_of) (K_l_created := C_l_created) (K_l_kinds := C_l_kinds) (Z_enumerate := Z_enumerate) (Z_range := Z_range) (Z_repr := Z_repr) (Z_isinstance := Z_isinstance) (Z_ValueError := Z_ValueError) (Z_super := Z_super) (Z_any := Z_any) (XN := XA.num) (g_PlanError := g_PlanError) (k_PlanError := XA.kit 0 (by decide)) (k_VE := XA.ve) (SM := XA.sm) (φ := φ_right) (hφ := fun _ _ _ => .inr rfl)) m_l_right (F_l_right.binds fun _ _ _ _ _ _ us hl => match us, hl with | [_], _ => rfl)
    exact (ok_law (F := F_law) (K_l_cells := C_l_cells) (K_l_right := C_l_right) (K_l_pot := C_l_pot) (Z_all := Z_all) (φ := φ_law) (hφ := fun _ _ _ => .inr rfl))
end Lw
open PySem PySem.W PySem.Calls PyProof.Rows
theorem PySem.Challenge.cw_whatplan_k00_errors_and_what_they_keep_holds : PySem.Challenge.rw_whatplan_k00_errors_and_what_they_keep.Holds := by
  w_on; o_law
  refine HandSHeadRun.head_any (r := Lw.R) (q := view Lw.R.prog [34]) (H := Lw.hk) (ob := Lw.ob) (M := 6000) (loose := Lw.loose) (d := HandSHeadRun.topDef Lw.R.prog 34) (kwd := []) Lw.ob_eq
    (by kernel_rfl) (fun s => by kernel_rfl) Lw.run (by kernel_rfl) (by kernel_rfl) (by kernel_rfl) (by rfl) (by first | assumption | decide +kernel) (by decide +kernel) ⟨rfl, rfl, rfl, rfl, rfl, by decide +kernel⟩ ?hw ?hc
  case hw => w_witness2
  case hc =>
    refine Pv.walk_ofG (l := PySem.Challenge.rw_whatplan_k00_errors_and_what_they_keep) (n := 63) (k := 5) (x := "_law_script") rfl (by decide) (by kernel_rfl) ⟨rfl, by decide, by decide⟩ ?F
    intro w mg fa h Y G hmg0
    obtain ⟨K, KX, c⟩ := Y
    have hmg : mg ("law" : PySem.Str) = some (.ref fa) := by
      have e : (HandSHeadRun.topDef Lw.R.prog 34).name = ("law" : PySem.Str) := by kernel_rfl
      rw [← e]
      exact hmg0
    obtain ⟨fd, hb, hF⟩ := Lw.facts (w := w) KX G hmg c
    exact ⟨K, Lw.tb K, fd, Lw.φ_law, KX, hb, fun ns hl => Lw.law_ok (by omega), hF⟩

