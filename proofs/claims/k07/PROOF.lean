import PyProof.Rows.All
import HandS.ForMost
import HandS.ForExc
import HandS.TupAny
import HandS.IsInst
import HandS.CallSlots
import HandS.Walk
import HandS.TupMul
import HandS.SortInts
import HandS.More
import HandS.SortKw
import HandS.Iter
import KE.GoesEnum
import KE.GoesMore
import HandS.Defaults
import HandS.Small
import HandS.TryMany
import HandS.SetFor
import HandS.Strs
import HandS.Zip
import KE.GoesEnumKw
import HandS.OwnEq
import HandS.Codes
import HandS.Conv
import KE.DataMinMax
import HandS.Style
import HandS.NamedTupGet
import KE.KExcInit
import HandS.Flt
import PySem.Challenge.RW_tappet_k07_whole_a_foot_ridden_by_anothe
set_option Elab.async false
set_option linter.all false
set_option maxRecDepth 100000
set_option maxHeartbeats 2000000
/-! data, cells, and what evaluates to what -/
namespace TG
open PySem L2

/-- data that never change -/
inductive D where
  | non | bl (b : Bool) | int (i : Int) | str (x : Str) | tup (l : List D) | lst (l : List D) | dic (l : List (Key × D)) | ins (c : Str) (l : List (Str × D)) | scr (l : List D)
/-- a value: data, or a cell's number -/
inductive W where
  | d (x : D) | r (n : Nat)
/-- what may change -/
inductive Cell where
  | lst (l : List W) | dic (l : List (Key × W)) | ins (c : Str) (l : List (Str × W))
abbrev S := List Cell
/-- what a slot holds -/
inductive EV where
  | no | w (x : W) | own (l : List W) | ownD (l : List (Key × W)) | ownI (c : Str) (l : List (Str × W))
abbrev Rho := List EV
inductive Res (α : Type) where
  | ok (a : α) (s : S) | exc (c : Str) (x : Option D) (s : S) | no
def Res.bind {α β : Type} : Res α → (α → S → Res β) → Res β
  | .ok a s, k => k a s
  | .exc c x s, _ => .exc c x s
  | .no, _ => .no
abbrev Cmp (α : Type) := Rho → S → Res α

section
variable (K : PySem.W.Frag) (cl : Str → Option Addr)
mutual
inductive Rep (H0 : Hp) : V → D → Prop
  | non : Rep H0 .non .non
  | bl {b} : Rep H0 (.bl b) (.bl b)
  | int {i} : Rep H0 (.int i) (.int i)
  | str {x} : Rep H0 (.str x) (.str x)
  | tup {p vs l} : H0 p = some (.tup vs) → Reps H0 vs l → Rep H0 (.ref p) (.tup l)
  | lst {p vs l} : H0 p = some (.lst vs) → Reps H0 vs l → Rep H0 (.ref p) (.lst l)
  | scr {p vs l} : SqL K H0 p vs → Reps H0 vs l → Rep H0 (.ref p) (.scr l)
  | dic {p kvs l} : H0 p = some (.dK kvs) → RepK H0 kvs l → Rep H0 (.ref p) (.dic l)
  | ins {p C dx fs c l} : H0 p = some (.ins C dx fs) → cl c = some C → RepF H0 fs l → Rep H0 (.ref p) (.ins c l)
inductive Reps (H0 : Hp) : List V → List D → Prop
  | nil : Reps H0 [] []
  | cons {v d vs ds} : Rep H0 v d → Reps H0 vs ds → Reps H0 (v :: vs) (d :: ds)
inductive RepK (H0 : Hp) : List (Key × V) → List (Key × D) → Prop
  | nil : RepK H0 [] []
  | cons {k v d vs ds} : Rep H0 v d → RepK H0 vs ds → RepK H0 ((k, v) :: vs) ((k, d) :: ds)
inductive RepF (H0 : Hp) : List (Str × V) → List (Str × D) → Prop
  | nil : RepF H0 [] []
  | cons {k v d vs ds} : Rep H0 v d → RepF H0 vs ds → RepF H0 ((k, v) :: vs) ((k, d) :: ds)
end
end

section
variable {K : PySem.W.Frag} {cl : Str → Option Addr} {H0 H0' H H' : Hp}
theorem same_l {a : Addr} {xs : List V} (e : Same H0 H0') (h : SqL K H0 a xs) : SqL K H0' a xs := e.seq h
theorem same_rd {a : Addr} {u : HO} (e : Same H0 H0') (h : Rd H0 a u) : Rd H0' a u := by
  rcases h with h | ⟨o, h⟩
  · exact .inl (e _ _ h)
  · exact .inr ⟨o, e _ _ h⟩
theorem same_t {a : Addr} {xs : List V} (e : Same H0 H0') (h : SqT K H0 a xs) : SqT K H0' a xs := by
  rcases h with h | h
  · exact .inl (same_rd e h)
  · exact .inr h
mutual
theorem Rep.mono (e : Same H0 H0') {v d} (h : Rep K cl H0 v d) : Rep K cl H0' v d := match h with
  | .non => .non
  | .bl => .bl
  | .int => .int
  | .str => .str
  | .tup a b => .tup (e _ _ a) (b.mono e)
  | .lst a b => .lst (e _ _ a) (b.mono e)
  | .scr a b => .scr (same_l e a) (b.mono e)
  | .dic a b => .dic (e _ _ a) (b.mono e)
  | .ins a b c => .ins (e _ _ a) b (c.mono e)
theorem Reps.mono (e : Same H0 H0') {v d} (h : Reps K cl H0 v d) : Reps K cl H0' v d := match h with
  | .nil => .nil
  | .cons a b => .cons (a.mono e) (b.mono e)
theorem RepK.mono (e : Same H0 H0') {v d} (h : RepK K cl H0 v d) : RepK K cl H0' v d := match h with
  | .nil => .nil
  | .cons a b => .cons (a.mono e) (b.mono e)
theorem RepF.mono (e : Same H0 H0') {v d} (h : RepF K cl H0 v d) : RepF K cl H0' v d := match h with
  | .nil => .nil
  | .cons a b => .cons (a.mono e) (b.mono e)
end
end

/-- a value -/
def RepW (K : PySem.W.Frag) (cl : Str → Option Addr) (H0 : Hp) (m : List Addr) (v : V) : W → Prop
  | .d x => Rep K cl H0 v x
  | .r n => ∃ a, m[n]? = some a ∧ v = .ref a
inductive RepWs (K : PySem.W.Frag) (cl : Str → Option Addr) (H0 : Hp) (m : List Addr) : List V → List W → Prop
  | nil : RepWs K cl H0 m [] []
  | cons {v d vs ds} : RepW K cl H0 m v d → RepWs K cl H0 m vs ds → RepWs K cl H0 m (v :: vs) (d :: ds)
inductive RepWK (K : PySem.W.Frag) (cl : Str → Option Addr) (H0 : Hp) (m : List Addr) {κ : Type} : List (κ × V) → List (κ × W) → Prop
  | nil : RepWK K cl H0 m [] []
  | cons {k v d vs ds} : RepW K cl H0 m v d → RepWK K cl H0 m vs ds → RepWK K cl H0 m ((k, v) :: vs) ((k, d) :: ds)

def CellR (K : PySem.W.Frag) (cl : Str → Option Addr) (H0 H : Hp) (m : List Addr) (a : Addr) : Cell → Prop
  | .lst l => ∃ vs, H a = some (.lst vs) ∧ RepWs K cl H0 m vs l
  | .dic l => ∃ kvs, H a = some (.dK kvs) ∧ RepWK K cl H0 m kvs l
  | .ins c l => ∃ C dx fs, H a = some (.ins C dx fs) ∧ cl c = some C ∧ RepWK K cl H0 m fs l
structure Stt (K : PySem.W.Frag) (cl : Str → Option Addr) (H0 H : Hp) (m : List Addr) (s : S) : Prop where
  sub : Same H0 H
  len : m.length = s.length
  nd : m.Nodup
  cell : ∀ (n : Nat) a c, m[n]? = some a → s[n]? = some c → H0 a = none ∧ CellR K cl H0 H m a c

structure Go (H0 H : Hp) (m ow : List Addr) (H0' H' : Hp) (m' ow' : List Addr) : Prop where
  s0 : Same H0 H0'
  pre : m <+: m'
  fr : ∀ a o, H a = some o → a ∉ m → a ∉ ow → H' a = some o
  dom : ∀ a, H a ≠ none → H' a ≠ none
  n0 : ∀ a, H a ≠ none → a ∉ m → a ∉ ow → H0 a = none → H0' a = none
  nm : ∀ a ∈ m', a ∈ m ∨ a ∈ ow ∨ H a = none
  nw : ∀ a ∈ ow', a ∈ ow ∨ H a = none
abbrev GoE (H0 H : Hp) (m : List Addr) (H0' H' : Hp) (m' : List Addr) : Prop := Go H0 H m [] H0' H' m' []

section
variable {K : PySem.W.Frag} {cl : Str → Option Addr} {H0 H H1 H1' H2 H2' : Hp} {m m1 m2 ow ow1 ow2 : List Addr} {s : S}
theorem Go.refl : Go H0 H m ow H0 H m ow :=
  ⟨Same.refl _, List.prefix_rfl, fun _ _ h _ _ => h, fun _ h => h, fun _ _ _ _ h => h, fun _ h => .inl h, fun _ h => .inl h⟩
theorem Go.trans (g : Go H0 H m ow H1 H1' m1 ow1) (g' : Go H1 H1' m1 ow1 H2 H2' m2 ow2) : Go H0 H m ow H2 H2' m2 ow2 := by
  refine ⟨g.s0.trans g'.s0, g.pre.trans g'.pre, fun a o h h1 h2 => ?_, fun a h => g'.dom a (g.dom a h), fun a h h1 h2 h3 => ?_, fun a h => ?_, fun a h => ?_⟩
  · have n1 : a ∉ m1 := fun z => by rcases g.nm a z with q | q | q <;> first | exact h1 q | exact h2 q | (rw [q] at h; cases h)
    have n2 : a ∉ ow1 := fun z => by rcases g.nw a z with q | q <;> first | exact h2 q | (rw [q] at h; cases h)
    exact g'.fr a o (g.fr a o h h1 h2) n1 n2
  · have n1 : a ∉ m1 := fun z => by rcases g.nm a z with q | q | q <;> first | exact h1 q | exact h2 q | exact h q
    have n2 : a ∉ ow1 := fun z => by rcases g.nw a z with q | q <;> first | exact h2 q | exact h q
    exact g'.n0 a (g.dom a h) n1 n2 (g.n0 a h h1 h2 h3)
  · rcases g'.nm a h with q | q | q
    · exact g.nm a q
    · rcases g.nw a q with q | q
      · exact .inr (.inl q)
      · exact .inr (.inr q)
    · refine .inr (.inr ?_)
      exact Classical.byContradiction fun z => g.dom a z q
  · rcases g'.nw a h with q | q
    · exact g.nw a q
    · refine .inr ?_
      exact Classical.byContradiction fun z => g.dom a z q
/-- an expression's way, for a frame with own lists -/
theorem Go.lift (g : GoE H0 H m H1 H1' m1) : Go H0 H m ow H1 H1' m1 ow :=
  ⟨g.s0, g.pre, fun a o h h1 _ => g.fr a o h h1 (by simp), g.dom, fun a h h1 _ h3 => g.n0 a h h1 (by simp) h3, fun a h => by
    rcases g.nm a h with q | q | q
    · exact .inl q
    · cases q
    · exact .inr (.inr q), fun a h => .inl h⟩
theorem RepW.mono {H0 H0' : Hp} {m m' : List Addr} (e : Same H0 H0') (p : m <+: m') {v : V} {x : W} (h : RepW K cl H0 m v x) : RepW K cl H0' m' v x := by
  cases x with
  | d x => exact Rep.mono e h
  | r n =>
    obtain ⟨a, h1, h2⟩ := h
    exact ⟨a, by
      obtain ⟨t, rfl⟩ := p
      rw [List.getElem?_append_left]
      · exact h1
      · exact (List.getElem?_eq_some_iff.mp h1).1, h2⟩
theorem RepWs.mono {H0 H0' : Hp} {m m' : List Addr} (e : Same H0 H0') (p : m <+: m') {v : List V} {x : List W} (h : RepWs K cl H0 m v x) : RepWs K cl H0' m' v x := by
  induction h with
  | nil => exact .nil
  | cons a _ ih => exact .cons (a.mono e p) ih
theorem RepWK.mono {κ : Type} {H0 H0' : Hp} {m m' : List Addr} (e : Same H0 H0') (p : m <+: m') {v : List (κ × V)} {x : List (κ × W)} (h : RepWK K cl H0 m v x) : RepWK K cl H0' m' v x := by
  induction h with
  | nil => exact .nil
  | cons a _ ih => exact .cons (a.mono e p) ih
end

/-- a slot -/
def SlotR (K : PySem.W.Frag) (cl : Str → Option Addr) (H0 H : Hp) (m ow : List Addr) (v : Option (Option V)) : EV → Prop
  | .no => True
  | .w x => ∃ u, v = some (some u) ∧ RepW K cl H0 m u x
  | .own l => ∃ p vs, v = some (some (.ref p)) ∧ p ∈ ow ∧ H p = some (.lst vs) ∧ RepWs K cl H0 m vs l
  | .ownD l => ∃ p kvs, v = some (some (.ref p)) ∧ p ∈ ow ∧ H p = some (.dK kvs) ∧ RepWK K cl H0 m kvs l
  | .ownI c l => ∃ p C dx fs, v = some (some (.ref p)) ∧ p ∈ ow ∧ H p = some (.ins C dx fs) ∧ cl c = some C ∧ RepWK K cl H0 m fs l
def EV.isOwn : EV → Bool
  | .no => false | .w _ => false | .own _ => true | .ownD _ => true | .ownI _ _ => true
structure EnvR (K : PySem.W.Frag) (cl : Str → Option Addr) (H0 H : Hp) (m ow : List Addr) (σ : L2.St) (ρ : Rho) : Prop where
  len : σ.length = ρ.length
  slot : ∀ (i : Nat) e, ρ[i]? = some e → SlotR K cl H0 H m ow σ[i]? e
  apart : ∀ (i j : Nat) e e' p, ρ[i]? = some e → ρ[j]? = some e' → e.isOwn = true → e'.isOwn = true → σ[i]? = some (some (.ref p)) → σ[j]? = some (some (.ref p)) → i = j
  owns : ∀ p ∈ ow, H p ≠ none ∧ H0 p = none ∧ p ∉ m
structure Ctx (K : PySem.W.Frag) (cl : Str → Option Addr) (H0 H : Hp) (m ow : List Addr) (s : S) (σ : L2.St) (ρ : Rho) : Prop where
  st : Stt K cl H0 H m s
  en : EnvR K cl H0 H m ow σ ρ
section
variable {K : PySem.W.Frag} {cl : Str → Option Addr} {H0 H H1 H1' : Hp} {m m1 ow : List Addr} {s s1 : S} {σ : L2.St} {ρ : Rho}
theorem EnvR.go (e : EnvR K cl H0 H m ow σ ρ) (g : GoE H0 H m H1 H1' m1) : EnvR K cl H1 H1' m1 ow σ ρ := by
  have kp : ∀ p o, p ∈ ow → H p = some o → H1' p = some o := fun p o h h' => g.fr p o h' (e.owns p h).2.2 (by simp)
  refine ⟨e.len, fun i x h => ?_, e.apart, fun p h => ?_⟩
  · have q := e.slot i x h
    cases x with
    | no => trivial
    | w x =>
      obtain ⟨u, h1, h2⟩ := q
      exact ⟨u, h1, h2.mono g.s0 g.pre⟩
    | own l =>
      obtain ⟨p, vs, h1, h2, h3, h4⟩ := q
      exact ⟨p, vs, h1, h2, kp p _ h2 h3, h4.mono g.s0 g.pre⟩
    | ownD l =>
      obtain ⟨p, vs, h1, h2, h3, h4⟩ := q
      exact ⟨p, vs, h1, h2, kp p _ h2 h3, h4.mono g.s0 g.pre⟩
    | ownI c l =>
      obtain ⟨p, C, dx, fs, h1, h2, h3, h4, h5⟩ := q
      exact ⟨p, C, dx, fs, h1, h2, kp p _ h2 h3, h4, h5.mono g.s0 g.pre⟩
  · obtain ⟨h1, h2, h3⟩ := e.owns p h
    refine ⟨g.dom p h1, g.n0 p h1 h3 (by simp) h2, fun z => ?_⟩
    rcases g.nm p z with q | q | q
    · exact h3 q
    · cases q
    · exact h1 q
theorem Ctx.go (c : Ctx K cl H0 H m ow s σ ρ) (g : GoE H0 H m H1 H1' m1) (st : Stt K cl H1 H1' m1 s1) : Ctx K cl H1 H1' m1 ow s1 σ ρ := ⟨st, c.en.go g⟩
end

/-- how a class of exceptions names what it keeps -/
def excFld (c : Str) : Str := if c = "BadWish" then "wish" else if c = "BadPage" then "row" else "number"
/-- an exception's class and field -/
def ExcR (K : PySem.W.Frag) (cl : Str → Option Addr) (H0 H : Hp) (cv : Value) (dd : Option Addr) (c : Str) : Option D → Prop
  | none => ∃ C, cl c = some C ∧ cv = .ref C
  | some x => ∃ C d v, cl c = some C ∧ cv = .ref C ∧ dd = some d ∧ H0 d = some (.xd [(excFld c, v)]) ∧ Rep K cl H0 v x

abbrev RRT (β α : Type) := Hp → Hp → Hp → List Addr → β → α → Prop
/-- start heap, base, heap, cells -/
def rrW (K : PySem.W.Frag) (cl : Str → Option Addr) : RRT V W := fun _ H0 _ m v x => RepW K cl H0 m v x
def rrB : RRT Bool Bool := fun _ _ _ _ v x => v = x
def rrA (K : PySem.W.Frag) (cl : Str → Option Addr) : RRT (List V) (List W) := fun _ H0 _ m v x => RepWs K cl H0 m v x
def rrO : RRT (Option Int) (Option Int) := fun _ _ _ _ v x => v = x
/-- a new list -/
def rrL (K : PySem.W.Frag) (cl : Str → Option Addr) : RRT V (List W) := fun H H0 H' m v l => ∃ p vs, v = .ref p ∧ H p = none ∧ H' p = some (.lst vs) ∧ H0 p = none ∧ p ∉ m ∧ RepWs K cl H0 m vs l
/-- a new dict -/
def rrD (K : PySem.W.Frag) (cl : Str → Option Addr) : RRT V (List (Key × W)) := fun H H0 H' m v l => ∃ p vs, v = .ref p ∧ H p = none ∧ H' p = some (.dK vs) ∧ H0 p = none ∧ p ∉ m ∧ RepWK K cl H0 m vs l

/-- the start may be earlier -/
class Early {β α : Type} (RR : RRT β α) : Prop where
  back : ∀ {H H1 H0 H' : Hp} {m : List Addr} {v : β} {x : α}, (∀ a, H a ≠ none → H1 a ≠ none) → RR H1 H0 H' m v x → RR H H0 H' m v x
theorem dom_none {H H1 : Hp} (d : ∀ a, H a ≠ none → H1 a ≠ none) {p : Addr} (h : H1 p = none) : H p = none := Classical.byContradiction fun z => d p z h
instance {K cl} : Early (rrW K cl) := ⟨fun _ h => h⟩
instance : Early rrB := ⟨fun _ h => h⟩
instance {K cl} : Early (rrA K cl) := ⟨fun _ h => h⟩
instance : Early rrO := ⟨fun _ h => h⟩
instance {K cl} : Early (rrL K cl) := ⟨fun d ⟨p, vs, a, b, c⟩ => ⟨p, vs, a, dom_none d b, c⟩⟩
instance {K cl} : Early (rrD K cl) := ⟨fun d ⟨p, vs, a, b, c⟩ => ⟨p, vs, a, dom_none d b, c⟩⟩

def RunE (K : PySem.W.Frag) (cl : Str → Option Addr) {β α : Type} (RR : RRT β α) (Wx : WX) (H0 H : Hp) (m : List Addr) (σ : L2.St) (Q : β → Hp → Prop) : Res α → Prop
  | .ok a s' => ∀ v H0' H' m', GoE H0 H m H0' H' m' → Stt K cl H0' H' m' s' → RR H H0' H' m' v a → Q v H'
  | .exc c x s' => ∀ cv dd H0' H' m', GoE H0 H m H0' H' m' → Stt K cl H0' H' m' s' → ExcR K cl H0' H' cv dd c x → Wx cv dd σ H'
  | .no => False
def Tof (K : PySem.W.Frag) (cl : Str → Option Addr) {β α : Type} (RR : RRT β α) (Wx : WX) (e : Cmp α) : L2.St → Hp → (β → Hp → Prop) → Prop := fun σ H Q =>
  ∃ H0 m ow s ρ, Ctx K cl H0 H m ow s σ ρ ∧ RunE K cl RR Wx H0 H m σ Q (e ρ s)

section
variable {K : PySem.W.Frag} {cl : Str → Option Addr} {H0 H H1 H1' : Hp} {m m1 ow : List Addr} {s s1 : S} {σ : L2.St} {ρ : Rho} {Wx : WX} {α β γ δ : Type}
theorem RunE.shift {RR : RRT β α} [Early RR] {Q : β → Hp → Prop} {r : Res α} (h : RunE K cl RR Wx H0 H m σ Q r) (g : GoE H0 H m H1 H1' m1) : RunE K cl RR Wx H1 H1' m1 σ Q r := by
  cases r with
  | ok a s' => exact fun v H0' H' m' g' st rr => h v H0' H' m' (g.trans g') st (Early.back g.dom rr)
  | exc c x s' => exact fun cv dd H0' H' m' g' st rr => h cv dd H0' H' m' (g.trans g') st rr
  | no => exact h
theorem RunE.imp {RR : RRT β α} {Q Q' : β → Hp → Prop} {r : Res α} (h : RunE K cl RR Wx H0 H m σ Q r) (k : ∀ v H', Q v H' → Q' v H') : RunE K cl RR Wx H0 H m σ Q' r := by
  cases r with
  | ok a s' => exact fun v H0' H' m' g' st rr => k _ _ (h v H0' H' m' g' st rr)
  | exc c x s' => exact h
  | no => exact h
/-- first the one, then the other -/
theorem RunE.bind {RR : RRT β α} {RS : RRT δ γ} [Early RS] {Q : δ → Hp → Prop} {Q1 : β → Hp → Prop} {r : Res α} {k : α → S → Res γ} (h : RunE K cl RS Wx H0 H m σ Q (r.bind k))
    (q : ∀ a s1 v H1 H1' m1, GoE H0 H m H1 H1' m1 → Stt K cl H1 H1' m1 s1 → RR H H1 H1' m1 v a → RunE K cl RS Wx H1 H1' m1 σ Q (k a s1) → Q1 v H1') : RunE K cl RR Wx H0 H m σ Q1 r := by
  cases r with
  | ok a s' =>
    have h : RunE K cl RS Wx H0 H m σ Q (k a s') := h
    exact fun v H0' H' m' g st rr => q a s' v H0' H' m' g st rr (h.shift g)
  | exc c x s' => exact h
  | no => exact h
theorem RunE.done {RR : RRT β α} {Q : β → Hp → Prop} {a : α} {v : β} (h : RunE K cl RR Wx H0 H m σ Q (.ok a s)) (st : Stt K cl H0 H m s) (rr : RR H H0 H m v a) : Q v H := h v H0 H m Go.refl st rr
theorem PE.weaken {X : Cx} {e : Expr} {t t' : TE} (h : PE X e t) (w : ∀ σ H Q, t' σ H Q → t σ H Q) : PE X e t' := ⟨fun pins s σ H Q I q => h.run pins s σ H Q I (w σ H Q q)⟩
theorem PT.weaken {X : Cx} {e : Expr} {t t' : TT} (h : PT X e t) (w : ∀ σ H Q, t' σ H Q → t σ H Q) : PT X e t' := ⟨fun pins s σ H Q I q => h.run pins s σ H Q I (w σ H Q q)⟩
theorem PW.weaken {X : Cx} {e : Expr} {t t' : TT} (h : PW X e t) (w : ∀ σ H Q, t' σ H Q → t σ H Q) : PW X e t' := ⟨fun wh pins s σ H Q I q => h.run wh pins s σ H Q I (w σ H Q q)⟩
theorem PA.weaken {X : Cx} {e : List Expr} {t t' : TA} (h : PA X e t) (w : ∀ σ H Q, t' σ H Q → t σ H Q) : PA X e t' := ⟨fun pos pins s σ H Q I q => h.run pos pins s σ H Q I (w σ H Q q)⟩
theorem PO.weaken {X : Cx} {e : Option Expr} {t t' : TO} (h : PO X e t) (w : ∀ σ H Q, t' σ H Q → t σ H Q) : PO X e t' := ⟨fun pins s σ H Q I q => h.run pins s σ H Q I (w σ H Q q)⟩
theorem PS.weaken {X : Cx} {e : Stmt} {t t' : TS} (h : PS X e t) (w : ∀ D σ H, t' D σ H → t D σ H) : PS X e t' := ⟨fun pins s σ H D I q => h.run pins s σ H D I (w D σ H q)⟩
theorem PSs.weaken {X : Cx} {e : List Stmt} {t t' : TS} (h : PSs X e t) (w : ∀ D σ H, t' D σ H → t D σ H) : PSs X e t' := ⟨fun pins s σ H D I q => h.run pins s σ H D I (w D σ H q)⟩
end

/-! ### the judgements -/
def JE (cl : Str → Option Addr) (Wx : WX) (X : Cx) (e : Expr) (c : Cmp W) : Prop := PE X e (Tof X.K cl (rrW X.K cl) Wx c)
def JL (cl : Str → Option Addr) (Wx : WX) (X : Cx) (e : Expr) (c : Cmp (List W)) : Prop := PE X e (Tof X.K cl (rrL X.K cl) Wx c)
def JD (cl : Str → Option Addr) (Wx : WX) (X : Cx) (e : Expr) (c : Cmp (List (Key × W))) : Prop := PE X e (Tof X.K cl (rrD X.K cl) Wx c)
def JT (cl : Str → Option Addr) (Wx : WX) (X : Cx) (e : Expr) (c : Cmp Bool) : Prop := PT X e (Tof X.K cl rrB Wx c)
def JW (cl : Str → Option Addr) (Wx : WX) (X : Cx) (e : Expr) (c : Cmp Bool) : Prop := PW X e (Tof X.K cl rrB Wx c)
def JA (cl : Str → Option Addr) (Wx : WX) (X : Cx) (e : List Expr) (c : Cmp (List W)) : Prop := PA X e (Tof X.K cl (rrA X.K cl) Wx c)
def JO (cl : Str → Option Addr) (Wx : WX) (X : Cx) (e : Option Expr) (c : Cmp (Option Int)) : Prop := PO X e (Tof X.K cl rrO Wx c)
end TG

set_option Elab.async false
set_option linter.all false
set_option maxRecDepth 100000
set_option maxHeartbeats 2000000
namespace TG
open PySem L2

/-! ### looking into values -/
def asInt : W → Option Int | .d (.int i) => some i | _ => none
def asBool : W → Option Bool | .d (.bl b) => some b | _ => none
def asStr : W → Option Str | .d (.str x) => some x | _ => none
def asTup : W → Option (List D) | .d (.tup l) => some l | _ => none
def asData : W → Option D | .d x => some x | .r _ => none
def wD (l : List D) : List W := l.map W.d
/-- a list: data or a cell -/
def asLst : W → S → Option (List W)
  | .d (.lst l), _ => some (wD l)
  | .d _, _ => none
  | .r n, s => match s[n]? with | some (.lst l) => some l | _ => none
def allData : List W → Option (List D)
  | [] => some []
  | .d x :: r => (allData r).map (x :: ·)
  | .r _ :: _ => none
def allInts : List W → Option (List Int)
  | [] => some []
  | .d (.int i) :: r => (allInts r).map (i :: ·)
  | _ :: _ => none
def allBools : List W → Option (List Bool)
  | [] => some []
  | .d (.bl i) :: r => (allBools r).map (i :: ·)
  | _ :: _ => none
def allStrs : List W → Option (List Str)
  | [] => some []
  | .d (.str i) :: r => (allStrs r).map (i :: ·)
  | _ :: _ => none
theorem allData_wD (l : List D) : allData (wD l) = some l := by
  induction l with
  | nil => rfl
  | cons a l ih => show (allData (wD l)).map (a :: ·) = _; rw [ih]; rfl
theorem allInts_wD (l : List Int) : allInts (wD (l.map D.int)) = some l := by
  induction l with
  | nil => rfl
  | cons a l ih => show (allInts (wD (l.map D.int))).map (a :: ·) = _; rw [ih]; rfl
theorem allBools_wD (l : List Bool) : allBools (wD (l.map D.bl)) = some l := by
  induction l with
  | nil => rfl
  | cons a l ih => show (allBools (wD (l.map D.bl))).map (a :: ·) = _; rw [ih]; rfl
theorem allStrs_wD (l : List Str) : allStrs (wD (l.map D.str)) = some l := by
  induction l with
  | nil => rfl
  | cons a l ih => show (allStrs (wD (l.map D.str))).map (a :: ·) = _; rw [ih]; rfl

section
variable {K : PySem.W.Frag} {cl : Str → Option Addr} {H0 H H0' H' : Hp} {m m' : List Addr} {s s' : S} {v : V} {w : W} {p : Addr} {o : HO}
theorem asInt_ok {i : Int} (h : RepW K cl H0 m v w) (e : asInt w = some i) : v = .int i := by
  unfold asInt at e
  split at e
  · cases e; cases h; rfl
  · cases e
theorem asBool_ok {i : Bool} (h : RepW K cl H0 m v w) (e : asBool w = some i) : v = .bl i := by
  unfold asBool at e
  split at e
  · cases e; cases h; rfl
  · cases e
theorem asStr_ok {i : Str} (h : RepW K cl H0 m v w) (e : asStr w = some i) : v = .str i := by
  unfold asStr at e
  split at e
  · cases e; cases h; rfl
  · cases e
theorem asTup_ok {l : List D} (h : RepW K cl H0 m v w) (e : asTup w = some l) : ∃ p vs, v = .ref p ∧ H0 p = some (.tup vs) ∧ Reps K cl H0 vs l := by
  unfold asTup at e
  split at e
  · cases e
    cases h
    exact ⟨_, _, rfl, ‹_›, ‹_›⟩
  · cases e
theorem Reps.ws {vs : List V} {l : List D} (h : Reps K cl H0 vs l) : RepWs K cl H0 m vs (wD l) := by
  induction l generalizing vs with
  | nil => cases h; exact .nil
  | cons a l ih =>
    cases h with
    | cons h1 h2 => exact .cons h1 (ih h2)
theorem RepWs.ds {vs : List V} {l : List W} {ds : List D} (h : RepWs K cl H0 m vs l) (e : allData l = some ds) : Reps K cl H0 vs ds := by
  induction h generalizing ds with
  | nil => cases e; exact .nil
  | @cons v d vs l h1 h2 ih =>
    cases d with
    | r n => cases e
    | d x =>
      unfold allData at e
      cases q : allData l with
      | none => rw [q] at e; cases e
      | some z => rw [q] at e; cases e; exact .cons h1 (ih q)
theorem RepWs.ints {vs : List V} {l : List W} {ns : List Int} (h : RepWs K cl H0 m vs l) (e : allInts l = some ns) : vs = ns.map V.int := by
  induction h generalizing ns with
  | nil => cases e; rfl
  | @cons v d vs l h1 h2 ih =>
    unfold allInts at e
    split at e
    · rename_i q; cases q
    · rename_i i r q
      cases q
      cases q2 : allInts l with
      | none => rw [q2] at e; cases e
      | some z => rw [q2] at e; cases e; cases h1; rw [ih q2]; rfl
    · cases e
theorem RepWs.bools {vs : List V} {l : List W} {ns : List Bool} (h : RepWs K cl H0 m vs l) (e : allBools l = some ns) : vs = ns.map V.bl := by
  induction h generalizing ns with
  | nil => cases e; rfl
  | @cons v d vs l h1 h2 ih =>
    unfold allBools at e
    split at e
    · rename_i q; cases q
    · rename_i i r q
      cases q
      cases q2 : allBools l with
      | none => rw [q2] at e; cases e
      | some z => rw [q2] at e; cases e; cases h1; rw [ih q2]; rfl
    · cases e
theorem RepWs.strs {vs : List V} {l : List W} {ns : List Str} (h : RepWs K cl H0 m vs l) (e : allStrs l = some ns) : vs = ns.map V.str := by
  induction h generalizing ns with
  | nil => cases e; rfl
  | @cons v d vs l h1 h2 ih =>
    unfold allStrs at e
    split at e
    · rename_i q; cases q
    · rename_i i r q
      cases q
      cases q2 : allStrs l with
      | none => rw [q2] at e; cases e
      | some z => rw [q2] at e; cases e; cases h1; rw [ih q2]; rfl
    · cases e
theorem RepWs.length {vs : List V} {l : List W} (h : RepWs K cl H0 m vs l) : vs.length = l.length := by
  induction h with
  | nil => rfl
  | cons _ _ ih => rw [List.length_cons, List.length_cons, ih]
theorem RepWs.get {vs : List V} {l : List W} (h : RepWs K cl H0 m vs l) : ∀ {i : Nat} {x : W}, l[i]? = some x → ∃ v, vs[i]? = some v ∧ RepW K cl H0 m v x := by
  induction h with
  | nil => intro i x e; simp at e
  | cons h1 _ ih =>
    intro i x e
    cases i with
    | zero => simp at e; subst e; exact ⟨_, rfl, h1⟩
    | succ i =>
      obtain ⟨v, h1, h2⟩ := ih (i := i) (x := x) (by simpa using e)
      exact ⟨v, by simpa using h1, h2⟩
theorem RepWs.set {vs : List V} {l : List W} (h : RepWs K cl H0 m vs l) {v : V} {x : W} (hx : RepW K cl H0 m v x) : ∀ i : Nat, RepWs K cl H0 m (vs.set i v) (l.set i x) := by
  induction h with
  | nil => intro i; exact .nil
  | cons h1 h2 ih =>
    intro i
    cases i with
    | zero => exact .cons hx h2
    | succ i => exact .cons h1 (ih i)
theorem RepWs.append {vs us : List V} {l k : List W} (h : RepWs K cl H0 m vs l) (h' : RepWs K cl H0 m us k) : RepWs K cl H0 m (vs ++ us) (l ++ k) := by
  induction h with
  | nil => exact h'
  | cons h1 _ ih => exact .cons h1 ih
theorem RepWs.take {vs : List V} {l : List W} (h : RepWs K cl H0 m vs l) : ∀ n, RepWs K cl H0 m (vs.take n) (l.take n) := by
  induction h with
  | nil => intro n; simpa using RepWs.nil
  | cons h1 _ ih =>
    intro n
    cases n with
    | zero => exact .nil
    | succ n => exact .cons h1 (ih n)
theorem RepWs.drop {vs : List V} {l : List W} (h : RepWs K cl H0 m vs l) : ∀ n, RepWs K cl H0 m (vs.drop n) (l.drop n) := by
  induction h with
  | nil => intro n; simpa using RepWs.nil
  | cons h1 h2 ih =>
    intro n
    cases n with
    | zero => exact .cons h1 h2
    | succ n => exact ih n
theorem Reps.length {vs : List V} {l : List D} (h : Reps K cl H0 vs l) : vs.length = l.length := by
  have := (h.ws (m := [])).length
  simpa [wD] using this
theorem asLst_ok {l : List W} (st : Stt K cl H0 H m s) (h : RepW K cl H0 m v w) (e : asLst w s = some l) : ∃ p vs, v = .ref p ∧ H p = some (.lst vs) ∧ RepWs K cl H0 m vs l := by
  unfold asLst at e
  split at e
  · cases e
    cases h
    exact ⟨_, _, rfl, st.sub _ _ ‹_›, Reps.ws ‹_›⟩
  · cases e
  · obtain ⟨a, h1, h2⟩ := h
    split at e
    · cases e
      obtain ⟨_, vs, h3, h4⟩ := st.cell _ a _ h1 ‹_›
      exact ⟨a, vs, h2, h3, h4⟩
    · cases e
theorem asTup_at {l : List D} (st : Stt K cl H0 H m s) (h : RepW K cl H0 m v w) (e : asTup w = some l) : ∃ p vs, v = .ref p ∧ H p = some (.tup vs) ∧ RepWs K cl H0 m vs (wD l) := by
  obtain ⟨p, vs, h1, h2, h3⟩ := asTup_ok h e
  exact ⟨p, vs, h1, st.sub _ _ h2, h3.ws⟩
/-- a list or a tuple -/
def asSeq (w : W) (s : S) : Option (List W) := match asTup w with | some l => some (wD l) | none => asLst w s
theorem asSeq_ok {l : List W} (st : Stt K cl H0 H m s) (h : RepW K cl H0 m v w) (e : asSeq w s = some l) : ∃ p vs, v = .ref p ∧ (H p = some (.lst vs) ∨ H p = some (.tup vs)) ∧ RepWs K cl H0 m vs l := by
  unfold asSeq at e
  split at e
  · rename_i l' q
    cases e
    obtain ⟨p, vs, h1, h2, h3⟩ := asTup_at st h q
    exact ⟨p, vs, h1, .inr h2, h3⟩
  · obtain ⟨p, vs, h1, h2, h3⟩ := asLst_ok st h e
    exact ⟨p, vs, h1, .inl h2, h3⟩

/-! ### heaps -/
theorem same_upd {H : Hp} {p : Addr} {o : HO} (h : H p = none) : Same H (upd H p o) := fun b x e => by
  rw [upd_ne (ne_of_none e h)]; exact e
theorem CellR.mono (e : Same H0 H0') (q : m <+: m') {a : Addr} {c : Cell} (h : CellR K cl H0 H m a c) (k : ∀ o, H a = some o → H' a = some o) : CellR K cl H0' H' m' a c := by
  cases c with
  | lst l => obtain ⟨vs, h1, h2⟩ := h; exact ⟨vs, k _ h1, h2.mono e q⟩
  | dic l => obtain ⟨vs, h1, h2⟩ := h; exact ⟨vs, k _ h1, h2.mono e q⟩
  | ins c l => obtain ⟨C, dx, fs, h1, h2, h3⟩ := h; exact ⟨C, dx, fs, k _ h1, h2, h3.mono e q⟩
theorem CellR.there {a : Addr} {c : Cell} (h : CellR K cl H0 H m a c) : H a ≠ none := by
  cases c with
  | lst l => obtain ⟨vs, h1, h2⟩ := h; rw [h1]; simp
  | dic l => obtain ⟨vs, h1, h2⟩ := h; rw [h1]; simp
  | ins c l => obtain ⟨C, dx, fs, h1, h2⟩ := h; rw [h1]; simp
theorem Stt.cellOf (st : Stt K cl H0 H m s) {a : Addr} (h : a ∈ m) : ∃ (n : Nat) (c : Cell), m[n]? = some a ∧ s[n]? = some c ∧ H0 a = none ∧ CellR K cl H0 H m a c := by
  obtain ⟨n, hn⟩ := List.mem_iff_getElem?.mp h
  have hl : n < s.length := by
    rw [← st.len]; exact (List.getElem?_eq_some_iff.mp hn).1
  have hc : s[n]? = some s[n] := by simp [hl]
  obtain ⟨h1, h2⟩ := st.cell n a _ hn hc
  exact ⟨n, s[n], hn, hc, h1, h2⟩
theorem Stt.notM (st : Stt K cl H0 H m s) (hp : H p = none) : p ∉ m := fun h => by
  obtain ⟨n, c, _, _, _, h2⟩ := st.cellOf h
  exact h2.there hp
theorem Stt.h0 (st : Stt K cl H0 H m s) (hp : H p = none) : H0 p = none := by
  cases e : H0 p with
  | none => rfl
  | some o => rw [st.sub _ _ e] at hp; cases hp
theorem Stt.freeze (st : Stt K cl H0 H m s) (h0 : H0 p = none) (hp : H p = some o) (hm : p ∉ m) : Stt K cl (upd H0 p o) H m s := by
  refine ⟨fun b x e => ?_, st.len, st.nd, fun n a c h1 h2 => ?_⟩
  · by_cases hb : b = p
    · subst hb; rw [upd_same] at e; cases e; exact hp
    · rw [upd_ne hb] at e; exact st.sub _ _ e
  · obtain ⟨q1, q2⟩ := st.cell n a c h1 h2
    have ne : a ≠ p := fun z => hm (z ▸ List.mem_of_getElem? h1)
    exact ⟨by rw [upd_ne ne]; exact q1, q2.mono (same_upd h0) List.prefix_rfl fun _ z => z⟩
theorem Stt.fresh (st : Stt K cl H0 H m s) (hp : H p = none) : Stt K cl H0 (upd H p o) m s := by
  refine ⟨st.sub.trans (same_upd hp), st.len, st.nd, fun n a c h1 h2 => ?_⟩
  obtain ⟨q1, q2⟩ := st.cell n a c h1 h2
  exact ⟨q1, q2.mono (Same.refl _) List.prefix_rfl (same_upd hp a)⟩
theorem Stt.alloc (st : Stt K cl H0 H m s) (hp : H p = none) : Stt K cl (upd H0 p o) (upd H p o) m s :=
  (st.fresh hp).freeze (st.h0 hp) upd_same (st.notM hp)
theorem Go.fresh (hp : H p = none) : GoE H0 H m H0 (upd H p o) m :=
  ⟨Same.refl _, List.prefix_rfl, fun a x h _ _ => same_upd hp a x h, fun a h => by
    unfold upd; split
    · simp
    · exact h, fun _ _ _ _ h => h, fun _ h => .inl h, fun _ h => .inl h⟩
theorem Go.freeze (st : Stt K cl H0 H m s) (g : GoE H0 H m H0' H' m') (hp : H p = none) : GoE H0 H m (upd H0' p o) H' m' := by
  refine ⟨fun b x e => ?_, g.pre, g.fr, g.dom, fun a h h1 h2 h3 => ?_, g.nm, g.nw⟩
  · have : b ≠ p := fun z => by subst z; rw [st.h0 hp] at e; cases e
    rw [upd_ne this]; exact g.s0 _ _ e
  · have : a ≠ p := fun z => h (z ▸ hp)
    rw [upd_ne this]; exact g.n0 a h h1 h2 h3
theorem Go.alloc (st : Stt K cl H0 H m s) (hp : H p = none) : GoE H0 H m (upd H0 p o) (upd H p o) m := (Go.fresh hp).freeze st hp
end

/-! ### evaluators -/
def eC (x : D) : Cmp W := fun _ s => .ok (.d x) s
def eVar (i : Nat) : Cmp W := fun ρ s => match ρ[i]? with | some (.w x) => .ok x s | _ => .no
def eBin (f : W → W → S → Res W) (a b : Cmp W) : Cmp W := fun ρ s => (a ρ s).bind fun x s1 => (b ρ s1).bind fun y s2 => f x y s2
def eUn (f : W → S → Res W) (a : Cmp W) : Cmp W := fun ρ s => (a ρ s).bind fun x s1 => f x s1
def eTest (a : Cmp W) : Cmp Bool := fun ρ s => (a ρ s).bind fun x s1 => match asBool x with | some b => .ok b s1 | none => .no
def eNil : Cmp (List W) := fun _ s => .ok [] s
def eCons (a : Cmp W) (b : Cmp (List W)) : Cmp (List W) := fun ρ s => (a ρ s).bind fun x s1 => (b ρ s1).bind fun y s2 => .ok (x :: y) s2
def eArgs (f : List W → S → Res W) (a : Cmp (List W)) : Cmp W := fun ρ s => (a ρ s).bind fun x s1 => f x s1
def eNoPart : Cmp (Option Int) := fun _ s => .ok none s
def ePart (a : Cmp W) : Cmp (Option Int) := fun ρ s => (a ρ s).bind fun x s1 => match asInt x with | some i => .ok (some i) s1 | none => .no
def eSl (f : W → Option Int → Option Int → S → Res W) (a : Cmp W) (l h : Cmp (Option Int)) : Cmp W := fun ρ s => (a ρ s).bind fun x s1 => (l ρ s1).bind fun i s2 => (h ρ s2).bind fun j s3 => f x i j s3
def eAndT (a b : Cmp Bool) : Cmp Bool := fun ρ s => (a ρ s).bind fun x s1 => if x = true then b ρ s1 else .ok false s1
def eOrT (a b : Cmp Bool) : Cmp Bool := fun ρ s => (a ρ s).bind fun x s1 => if x = true then .ok true s1 else b ρ s1
def eNotT (a : Cmp Bool) : Cmp Bool := fun ρ s => (a ρ s).bind fun x s1 => .ok (!x) s1
def eAndV (a b : Cmp W) : Cmp W := fun ρ s => (a ρ s).bind fun x s1 => match asBool x with | some true => b ρ s1 | some false => .ok (.d (.bl false)) s1 | none => .no
def eOrV (a b : Cmp W) : Cmp W := fun ρ s => (a ρ s).bind fun x s1 => match asBool x with | some false => b ρ s1 | some true => .ok (.d (.bl true)) s1 | none => .no
def eNotV (a : Cmp W) : Cmp W := fun ρ s => (a ρ s).bind fun x s1 => match asBool x with | some b => .ok (.d (.bl (!b))) s1 | none => .no
def eIf (t : Cmp Bool) (a b : Cmp W) : Cmp W := fun ρ s => (t ρ s).bind fun x s1 => if x = true then a ρ s1 else b ρ s1
def eChain (f g : W → W → S → Res W) (a b c : Cmp W) : Cmp W := fun ρ s => (a ρ s).bind fun x s1 => (b ρ s1).bind fun y s2 => (f x y s2).bind fun z s3 =>
  match asBool z with | some true => (c ρ s3).bind fun w s4 => g y w s4 | some false => .ok (.d (.bl false)) s3 | none => .no
def mkTup (l : List W) (s : S) : Res W := match allData l with | some ds => if ds.length ≤ 16777216 then .ok (.d (.tup ds)) s else .no | none => .no
def eTup (a : Cmp (List W)) : Cmp W := fun ρ s => (a ρ s).bind mkTup
def eLst (a : Cmp (List W)) : Cmp (List W) := fun ρ s => (a ρ s).bind fun l s1 => if l.length ≤ 16777216 then .ok l s1 else .no
/-- a new list becomes data -/
def frzL (l : List W) (s : S) : Res W := match allData l with | some ds => .ok (.d (.lst ds)) s | none => .no
def eFrz (a : Cmp (List W)) : Cmp W := fun ρ s => (a ρ s).bind frzL
/-- a new list becomes a cell -/
def eCell (a : Cmp (List W)) : Cmp W := fun ρ s => (a ρ s).bind fun l s1 => .ok (.r s1.length) (s1 ++ [.lst l])

/-! ### how a rule on values is met -/
def OpS (K : PySem.W.Frag) (cl : Str → Option Addr) (r : R2) (f : W → W → S → Res W) : Prop := ∀ (Wx : WX) (σ : L2.St) (H0 H : Hp) (m : List Addr) (s : S) (x y : V) (wx wy : W) (Q : VK),
  Stt K cl H0 H m s → RepW K cl H0 m x wx → RepW K cl H0 m y wy → RunE K cl (rrW K cl) Wx H0 H m σ Q (f wx wy s) → r x y H Q
def UnS (K : PySem.W.Frag) (cl : Str → Option Addr) (r : V → Hp → VK → Prop) (f : W → S → Res W) : Prop := ∀ (Wx : WX) (σ : L2.St) (H0 H : Hp) (m : List Addr) (s : S) (x : V) (wx : W) (Q : VK),
  Stt K cl H0 H m s → RepW K cl H0 m x wx → RunE K cl (rrW K cl) Wx H0 H m σ Q (f wx s) → r x H Q
def CallS (K : PySem.W.Frag) (cl : Str → Option Addr) (r : List V → Hp → VK → Prop) (f : List W → S → Res W) : Prop := ∀ (Wx : WX) (σ : L2.St) (H0 H : Hp) (m : List Addr) (s : S) (xs : List V) (ws : List W) (Q : VK),
  Stt K cl H0 H m s → RepWs K cl H0 m xs ws → RunE K cl (rrW K cl) Wx H0 H m σ Q (f ws s) → r xs H Q
def SlS (K : PySem.W.Frag) (cl : Str → Option Addr) (r : V → Option Int → Option Int → Hp → VK → Prop) (f : W → Option Int → Option Int → S → Res W) : Prop := ∀ (Wx : WX) (σ : L2.St) (H0 H : Hp) (m : List Addr) (s : S) (x : V) (i j : Option Int) (wx : W) (Q : VK),
  Stt K cl H0 H m s → RepW K cl H0 m x wx → RunE K cl (rrW K cl) Wx H0 H m σ Q (f wx i j s) → r x i j H Q
/-- one of two rules -/
theorem OpR.or {X : Cx} {f : Value → Value → Sem Value} {r r' : R2} (h : OpR X f r) (h' : OpR X f r') : OpR X f (fun x y H Q => r x y H Q ∨ r' x y H Q) := fun pins s σ H x y v u Q I a b q => by
  rcases q with q | q
  · exact h pins s σ H x y v u Q I a b q
  · exact h' pins s σ H x y v u Q I a b q
theorem IxR.or {X : Cx} {r r' : R2} (h : IxR X r) (h' : IxR X r') : IxR X (fun x y H Q => r x y H Q ∨ r' x y H Q) := fun va sl pins s σ H x y v u Q I a b q => by
  rcases q with q | q
  · exact h va sl pins s σ H x y v u Q I a b q
  · exact h' va sl pins s σ H x y v u Q I a b q
theorem CallR.or {X : Cx} {f : Value} {r r' : List V → Hp → VK → Prop} (h : CallR X f r) (h' : CallR X f r') : CallR X f (fun x H Q => r x H Q ∨ r' x H Q) := fun pins s σ H x v Q I a q => by
  rcases q with q | q
  · exact h pins s σ H x v Q I a q
  · exact h' pins s σ H x v Q I a q
section
variable {X : Cx} {cl : Str → Option Addr} {Wx : WX} {a b c e : Expr} {es : List Expr} {pos : Pos} {ea eb ec : Cmp W} {el : Cmp (List W)} {et eu : Cmp Bool}

theorem je_var (i : Nat) {x : Str} (hN : X.N[i]? = some x := by rfl) (hv : Vis X.env.scope x := by first | exact Or.inl rfl | exact Or.inr (Or.inl rfl) | exact Or.inr (Or.inr rfl)) (hd : (x == ("__debug__" : Str)) = false := by decide)
    (hcd : (x == ("__classdict__" : Str)) = false := by decide) : JE cl Wx X (.Name x pos) (eVar i) :=
  PE.weaken (pe_var hN hv hd hcd) fun σ H Q ⟨H0, m, ow, s, ρ, cx, h⟩ => by
    unfold eVar at h
    split at h
    · rename_i x e
      obtain ⟨u, h1, h2⟩ := cx.en.slot i _ e
      exact ⟨u, h1, h.done cx.st h2⟩
    · exact h.elim
theorem je_int {i : Int} {j} : JE cl Wx X (.Constant (.int i) j pos) (eC (.int i)) := PE.weaken pe_int fun σ H Q ⟨H0, m, ow, s, ρ, cx, h⟩ => h.done cx.st .int
theorem je_bl {i : Bool} {j} : JE cl Wx X (.Constant (.bool i) j pos) (eC (.bl i)) := PE.weaken pe_bl fun σ H Q ⟨H0, m, ow, s, ρ, cx, h⟩ => h.done cx.st .bl
theorem je_non {j} : JE cl Wx X (.Constant .none j pos) (eC .non) := PE.weaken pe_non fun σ H Q ⟨H0, m, ow, s, ρ, cx, h⟩ => h.done cx.st .non
theorem je_str {x : Str} {j} : JE cl Wx X (.Constant (.str x) j pos) (eC (.str x)) := PE.weaken pe_str fun σ H Q ⟨H0, m, ow, s, ρ, cx, h⟩ => h.done cx.st .str
/-- a constant of the module: a number, a text -/
theorem je_globI {x : Str} {i : Int} {t : Tok} (hg : Gl X x) (hm : X.mg x = some (.int i t)) (hd : (x == ("__debug__" : Str)) = false := by decide) : JE cl Wx X (.Name x pos) (eC (.int i)) :=
  PE.weaken (pe_glob (v := .int i) hg hm ⟨t, rfl⟩ hd) fun σ H Q ⟨H0, m, ow, s, ρ, cx, h⟩ => h.done cx.st .int
theorem je_globS {x : Str} {i : Str} {t : Tok} (hg : Gl X x) (hm : X.mg x = some (.str i t)) (hd : (x == ("__debug__" : Str)) = false := by decide) : JE cl Wx X (.Name x pos) (eC (.str i)) :=
  PE.weaken (pe_glob (v := .str i) hg hm ⟨t, rfl⟩ hd) fun σ H Q ⟨H0, m, ow, s, ρ, cx, h⟩ => h.done cx.st .str

theorem tOp_of {r : R2} {f : W → W → S → Res W} (ho : OpS X.K cl r f) {σ : L2.St} {H : Hp} {Q : VK} (h : Tof X.K cl (rrW X.K cl) Wx (eBin f ea eb) σ H Q) : tOp r (Tof X.K cl (rrW X.K cl) Wx ea) (Tof X.K cl (rrW X.K cl) Wx eb) σ H Q := by
  obtain ⟨H0, m, ow, s, ρ, cx, h⟩ := h
  exact ⟨H0, m, ow, s, ρ, cx, RunE.bind h fun x s1 v H1 H1' m1 g st rr h2 => ⟨H1, m1, ow, s1, ρ, cx.go g st, RunE.bind h2 fun y s2 u H2 H2' m2 g' st' rr' h3 =>
    ho Wx σ H2 H2' m2 s2 v u x y Q st' (RepW.mono g'.s0 g'.pre rr) rr' h3⟩⟩
theorem je_bin {op : Operator} {r : R2} {f : W → W → S → Res W} (hf : OpR X (binaryOp op) r) (ho : OpS X.K cl r f) (ha : JE cl Wx X a ea) (hb : JE cl Wx X b eb) : JE cl Wx X (.BinOp a op b pos) (eBin f ea eb) :=
  PE.weaken (pe_op hf ha hb) fun σ H Q h => tOp_of ho h
theorem je_cmp {op : CmpOp} {r : R2} {f : W → W → S → Res W} (hf : OpR X (compareOp op) r) (ho : OpS X.K cl r f) (ha : JE cl Wx X a ea) (hb : JE cl Wx X b eb) (hm : behindInMarks op b = false := by first | exact nobehind _ (by decide) (by decide) | rfl) : JE cl Wx X (.Compare a [op] [b] pos) (eBin f ea eb) :=
  PE.weaken (pe_cmpR hf ha hb hm) fun σ H Q h => tOp_of ho h
theorem tTest_of {t : TE} (hw : ∀ σ H Q, Tof X.K cl (rrW X.K cl) Wx ea σ H Q → t σ H Q) {σ : L2.St} {H : Hp} {Q : Bool → Hp → Prop} (h : Tof X.K cl rrB Wx (eTest ea) σ H Q) : tTest t σ H Q := by
  obtain ⟨H0, m, ow, s, ρ, cx, h⟩ := h
  refine hw σ H _ ⟨H0, m, ow, s, ρ, cx, RunE.bind h fun x s1 v H1 H1' m1 g st rr h2 => ?_⟩
  have h2 : RunE X.K cl rrB Wx H1 H1' m1 σ Q (match asBool x with | some b => .ok b s1 | none => .no) := h2
  cases e : asBool x with
  | none => rw [e] at h2; exact h2.elim
  | some k =>
    rw [e] at h2
    exact ⟨k, asBool_ok rr e, h2.done st rfl⟩
theorem jt_cmp {op : CmpOp} {r : R2} {f : W → W → S → Res W} (hf : OpR X (compareOp op) r) (ho : OpS X.K cl r f) (ha : JE cl Wx X a ea) (hb : JE cl Wx X b eb) (hm : behindInMarks op b = false := by first | exact nobehind _ (by decide) (by decide) | rfl) : JT cl Wx X (.Compare a [op] [b] pos) (eTest (eBin f ea eb)) :=
  PT.weaken (pt_cmpR hf ha hb hm) fun σ H Q h => tTest_of (fun σ H Q h => tOp_of ho h) h
theorem jt_val (ha : JE cl Wx X a ea) (he : ∀ whole, isTrue a X.env whole = (do let v ← whole; standAt a.pos; holding [v] (truthy v)) := by intro _; rfl) : JT cl Wx X a (eTest ea) :=
  PT.weaken (pt_val ha he) fun σ H Q h => tTest_of (fun σ H Q h => h) h
theorem tChain_of {r r' : R2} {f f' : W → W → S → Res W} (ho : OpS X.K cl r f) (ho' : OpS X.K cl r' f') {σ : L2.St} {H : Hp} {Q : VK} (h : Tof X.K cl (rrW X.K cl) Wx (eChain f f' ea eb ec) σ H Q) :
    tChain r r' (Tof X.K cl (rrW X.K cl) Wx ea) (Tof X.K cl (rrW X.K cl) Wx eb) (Tof X.K cl (rrW X.K cl) Wx ec) σ H Q := by
  obtain ⟨H0, m, ow, s, ρ, cx, h⟩ := h
  refine ⟨H0, m, ow, s, ρ, cx, RunE.bind h fun x s1 v H1 H1' m1 g st rr h2 => ⟨H1, m1, ow, s1, ρ, cx.go g st, RunE.bind h2 fun y s2 u H2 H2' m2 g' st' rr' h3 => ?_⟩⟩
  have rr := RepW.mono g'.s0 g'.pre rr
  refine ho Wx σ H2 H2' m2 s2 v u x y _ st' rr rr' (RunE.bind h3 fun z s3 uz H3 H3' m3 g3 st3 rz h4 => ?_)
  have h4 : RunE X.K cl (rrW X.K cl) Wx H3 H3' m3 σ Q (match asBool z with | some true => (ec ρ s3).bind fun w s4 => f' y w s4 | some false => .ok (.d (.bl false)) s3 | none => .no) := h4
  cases e : asBool z with
  | none => rw [e] at h4; exact h4.elim
  | some k =>
    rw [e] at h4
    refine ⟨k, asBool_ok rz e, ?_⟩
    cases k with
    | true =>
      refine iteT ⟨H3, m3, ow, s3, ρ, ((cx.go g st).go g' st').go g3 st3, RunE.bind h4 fun w s4 uw H4 H4' m4 g4 st4 rw' h5 => ?_⟩
      exact ho' Wx σ H4 H4' m4 s4 u uw y w Q st4 (RepW.mono (g3.trans g4).s0 (g3.trans g4).pre rr') rw' h5
    | false => exact iteF (h4.done st3 .bl)
theorem je_chain {op op' : CmpOp} {r r' : R2} {f f' : W → W → S → Res W} (hf : OpR X (compareOp op) r) (hf' : OpR X (compareOp op') r') (ho : OpS X.K cl r f) (ho' : OpS X.K cl r' f') (ha : JE cl Wx X a ea) (hb : JE cl Wx X b eb) (hc : JE cl Wx X c ec)
    (hm : lastMarks [op, op'] [b, c] = false := by rfl) : JE cl Wx X (.Compare a [op, op'] [b, c] pos) (eChain f f' ea eb ec) := PE.weaken (pe_chain hf hf' ha hb hc hm) fun σ H Q h => tChain_of ho ho' h
theorem jt_chain {op op' : CmpOp} {r r' : R2} {f f' : W → W → S → Res W} (hf : OpR X (compareOp op) r) (hf' : OpR X (compareOp op') r') (ho : OpS X.K cl r f) (ho' : OpS X.K cl r' f') (ha : JE cl Wx X a ea) (hb : JE cl Wx X b eb) (hc : JE cl Wx X c ec)
    (hm : lastMarks [op, op'] [b, c] = false := by rfl) : JT cl Wx X (.Compare a [op, op'] [b, c] pos) (eTest (eChain f f' ea eb ec)) := PT.weaken (pt_chain hf hf' ha hb hc hm) fun σ H Q h => tTest_of (fun σ H Q h => tChain_of ho ho' h) h
theorem je_un {op : UnaryOp} {r : V → Hp → VK → Prop} {f : W → S → Res W} (hf : UnR X (unaryOp op) r) (ho : UnS X.K cl r f) (ha : JE cl Wx X a ea) : JE cl Wx X (.UnaryOp op a pos) (eUn f ea) :=
  PE.weaken (pe_un hf ha) fun σ H Q ⟨H0, m, ow, s, ρ, cx, h⟩ => ⟨H0, m, ow, s, ρ, cx, RunE.bind h fun x s1 v H1 H1' m1 g st rr h2 => ho Wx σ H1 H1' m1 s1 v x Q st rr h2⟩
/-! is None -/
def fIsN (neg : Bool) : W → S → Res W := fun x s => .ok (.d (.bl (match x with | .d .non => !neg | _ => neg))) s
theorem isN_ok {K : PySem.W.Frag} {H0 : Hp} {m : List Addr} {v : V} {w : W} (h : RepW K cl H0 m v w) : decide (v = .non) = (match w with | .d .non => true | _ => false) := by
  cases w with
  | r n => obtain ⟨a, _, rfl⟩ := h; simp
  | d x => cases h <;> simp
theorem je_isN {j p'} (ha : JE cl Wx X a ea) : JE cl Wx X (.Compare a [.Is] [.Constant .none j p'] pos) (eUn (fIsN false) ea) :=
  PE.weaken (pe_cmp (pc_isN ha)) fun σ H Q ⟨H0, m, ow, s, ρ, cx, h⟩ => ⟨H0, m, ow, s, ρ, cx, RunE.bind h fun x s1 v H1 H1' m1 g st rr h2 => by
    rw [isN_ok rr]
    refine RunE.done (RR := rrW X.K cl) h2 st ?_
    cases x with
    | r n => exact Rep.bl
    | d x => cases x <;> exact Rep.bl⟩
theorem je_notN {j p'} (ha : JE cl Wx X a ea) : JE cl Wx X (.Compare a [.IsNot] [.Constant .none j p'] pos) (eUn (fIsN true) ea) :=
  PE.weaken (pe_cmp (pc_notN ha)) fun σ H Q ⟨H0, m, ow, s, ρ, cx, h⟩ => ⟨H0, m, ow, s, ρ, cx, RunE.bind h fun x s1 v H1 H1' m1 g st rr h2 => by
    rw [isN_ok rr]
    refine RunE.done (RR := rrW X.K cl) h2 st ?_
    cases x with
    | r n => exact Rep.bl
    | d x => cases x <;> exact Rep.bl⟩
theorem tB_of {t : TE} (hw : ∀ σ H Q, Tof X.K cl (rrW X.K cl) Wx ea σ H Q → t σ H Q) {σ : L2.St} {H : Hp} {Q : Bool → Hp → Prop} (h : Tof X.K cl rrB Wx (eTest ea) σ H Q) : tB t σ H Q := tTest_of hw h
theorem jt_isN {j p'} (ha : JE cl Wx X a ea) : JT cl Wx X (.Compare a [.Is] [.Constant .none j p'] pos) (eTest (eUn (fIsN false) ea)) :=
  PT.weaken (pt_cmp (pc_isN ha)) fun σ H Q h => tTest_of (fun σ H Q ⟨H0, m, ow, s, ρ, cx, h⟩ => ⟨H0, m, ow, s, ρ, cx, RunE.bind h fun x s1 v H1 H1' m1 g st rr h2 => by
    rw [isN_ok rr]
    refine RunE.done (RR := rrW X.K cl) h2 st ?_
    cases x with
    | r n => exact Rep.bl
    | d x => cases x <;> exact Rep.bl⟩) h
theorem jt_notN {j p'} (ha : JE cl Wx X a ea) : JT cl Wx X (.Compare a [.IsNot] [.Constant .none j p'] pos) (eTest (eUn (fIsN true) ea)) :=
  PT.weaken (pt_cmp (pc_notN ha)) fun σ H Q h => tTest_of (fun σ H Q ⟨H0, m, ow, s, ρ, cx, h⟩ => ⟨H0, m, ow, s, ρ, cx, RunE.bind h fun x s1 v H1 H1' m1 g st rr h2 => by
    rw [isN_ok rr]
    refine RunE.done (RR := rrW X.K cl) h2 st ?_
    cases x with
    | r n => exact Rep.bl
    | d x => cases x <;> exact Rep.bl⟩) h
/-! and, or, not -/
variable {rest : List Expr}
theorem jw_and1 (ha : JT cl Wx X a et) : JW cl Wx X (.BoolOp .And [a] pos) et := pw_and1 ha
theorem jw_or1 (ha : JT cl Wx X a et) : JW cl Wx X (.BoolOp .Or [a] pos) et := pw_or1 ha
theorem jw_and (ha : JT cl Wx X a et) (hb : JW cl Wx X (.BoolOp .And (b :: rest) pos) eu) : JW cl Wx X (.BoolOp .And (a :: b :: rest) pos) (eAndT et eu) :=
  PW.weaken (pw_and ha hb) fun σ H Q ⟨H0, m, ow, s, ρ, cx, h⟩ => ⟨H0, m, ow, s, ρ, cx, RunE.bind (RR := rrB) h fun x s1 v H1 H1' m1 g st rr h2 => by
    cases rr
    cases x with
    | true => exact iteT ⟨H1, m1, ow, s1, ρ, cx.go g st, h2⟩
    | false => exact iteF (RunE.done (RR := rrB) h2 st rfl)⟩
theorem jw_or (ha : JT cl Wx X a et) (hb : JW cl Wx X (.BoolOp .Or (b :: rest) pos) eu) : JW cl Wx X (.BoolOp .Or (a :: b :: rest) pos) (eOrT et eu) :=
  PW.weaken (pw_or ha hb) fun σ H Q ⟨H0, m, ow, s, ρ, cx, h⟩ => ⟨H0, m, ow, s, ρ, cx, RunE.bind (RR := rrB) h fun x s1 v H1 H1' m1 g st rr h2 => by
    cases rr
    cases x with
    | true => exact iteT (RunE.done (RR := rrB) h2 st rfl)
    | false => exact iteF ⟨H1, m1, ow, s1, ρ, cx.go g st, h2⟩⟩
theorem jt_w (h : JW cl Wx X a et) : JT cl Wx X a et := PW.pt h
theorem jt_not (ha : JT cl Wx X a et) : JT cl Wx X (.UnaryOp .Not a pos) (eNotT et) :=
  PT.weaken (pt_not ha) fun σ H Q ⟨H0, m, ow, s, ρ, cx, h⟩ => ⟨H0, m, ow, s, ρ, cx, RunE.bind (RR := rrB) h fun x s1 v H1 H1' m1 g st rr h2 => by
    cases rr
    exact RunE.done (RR := rrB) h2 st rfl⟩
theorem je_one {op} (h : JE cl Wx X a ea) : JE cl Wx X (.BoolOp op [a] pos) ea := pe_one h
theorem je_and (ha : JE cl Wx X a ea) (hb : JE cl Wx X (.BoolOp .And (b :: rest) pos) eb) : JE cl Wx X (.BoolOp .And (a :: b :: rest) pos) (eAndV ea eb) :=
  PE.weaken (pe_and ha hb) fun σ H Q ⟨H0, m, ow, s, ρ, cx, h⟩ => ⟨H0, m, ow, s, ρ, cx, RunE.bind h fun x s1 v H1 H1' m1 g st rr h2 => by
    have h2 : RunE X.K cl (rrW X.K cl) Wx H1 H1' m1 σ Q (match asBool x with | some true => eb ρ s1 | some false => .ok (.d (.bl false)) s1 | none => .no) := h2
    cases e : asBool x with
    | none => rw [e] at h2; exact h2.elim
    | some k =>
      rw [e] at h2
      refine ⟨k, asBool_ok rr e, ?_⟩
      cases k with
      | true => exact iteT ⟨H1, m1, ow, s1, ρ, cx.go g st, h2⟩
      | false => exact iteF (h2.done st .bl)⟩
theorem je_or (ha : JE cl Wx X a ea) (hb : JE cl Wx X (.BoolOp .Or (b :: rest) pos) eb) : JE cl Wx X (.BoolOp .Or (a :: b :: rest) pos) (eOrV ea eb) :=
  PE.weaken (pe_or ha hb) fun σ H Q ⟨H0, m, ow, s, ρ, cx, h⟩ => ⟨H0, m, ow, s, ρ, cx, RunE.bind h fun x s1 v H1 H1' m1 g st rr h2 => by
    have h2 : RunE X.K cl (rrW X.K cl) Wx H1 H1' m1 σ Q (match asBool x with | some false => eb ρ s1 | some true => .ok (.d (.bl true)) s1 | none => .no) := h2
    cases e : asBool x with
    | none => rw [e] at h2; exact h2.elim
    | some k =>
      rw [e] at h2
      refine ⟨k, asBool_ok rr e, ?_⟩
      cases k with
      | true => exact iteT (h2.done st .bl)
      | false => exact iteF ⟨H1, m1, ow, s1, ρ, cx.go g st, h2⟩⟩
theorem je_not (ha : JE cl Wx X a ea) : JE cl Wx X (.UnaryOp .Not a pos) (eNotV ea) :=
  PE.weaken (pe_not ha) fun σ H Q ⟨H0, m, ow, s, ρ, cx, h⟩ => ⟨H0, m, ow, s, ρ, cx, RunE.bind h fun x s1 v H1 H1' m1 g st rr h2 => by
    have h2 : RunE X.K cl (rrW X.K cl) Wx H1 H1' m1 σ Q (match asBool x with | some b => .ok (.d (.bl (!b))) s1 | none => .no) := h2
    cases e : asBool x with
    | none => rw [e] at h2; exact h2.elim
    | some k =>
      rw [e] at h2
      exact ⟨k, asBool_ok rr e, h2.done st .bl⟩⟩
theorem je_if (ht : JT cl Wx X c et) (ha : JE cl Wx X a ea) (hb : JE cl Wx X b eb) : JE cl Wx X (.IfExp c a b pos) (eIf et ea eb) :=
  PE.weaken (pe_ifExp ht ha hb) fun σ H Q ⟨H0, m, ow, s, ρ, cx, h⟩ => ⟨H0, m, ow, s, ρ, cx, RunE.bind (RR := rrB) h fun x s1 v H1 H1' m1 g st rr h2 => by
    cases rr
    cases x with
    | true => exact iteT ⟨H1, m1, ow, s1, ρ, cx.go g st, h2⟩
    | false => exact iteF ⟨H1, m1, ow, s1, ρ, cx.go g st, h2⟩⟩
/-! arguments, displays -/
theorem ja_nil : JA cl Wx X [] eNil := PA.weaken pa_nil fun σ H Q ⟨H0, m, ow, s, ρ, cx, h⟩ => RunE.done (RR := rrA X.K cl) h cx.st .nil
theorem ja_cons (ha : JE cl Wx X e ea) (hr : JA cl Wx X es el) (hs : starEach (e :: es) X.env = (false, eval e X.env) :: starEach es X.env := by rfl) : JA cl Wx X (e :: es) (eCons ea el) :=
  PA.weaken (pa_cons ha hr hs) fun σ H Q ⟨H0, m, ow, s, ρ, cx, h⟩ => ⟨H0, m, ow, s, ρ, cx, RunE.bind h fun x s1 v H1 H1' m1 g st rr h2 => ⟨H1, m1, ow, s1, ρ, cx.go g st, RunE.bind h2 fun y s2 u H2 H2' m2 g' st' rr' h3 =>
    RunE.done (RR := rrA X.K cl) h3 st' (.cons (RepW.mono g'.s0 g'.pre rr) rr')⟩⟩
theorem size_of {n : Nat} (h : n ≤ 16777216) : n ≤ sizeLine := by rw [sizeLine_eq]; exact h
theorem je_tup {x1} (h : JA cl Wx X es el) : JE cl Wx X (.Tuple es x1 pos) (eTup el) :=
  PE.weaken (pe_tup h) fun σ H Q ⟨H0, m, ow, s, ρ, cx, h⟩ => ⟨H0, m, ow, s, ρ, cx, RunE.bind h fun x s1 v H1 H1' m1 g st rr h2 => by
    unfold mkTup at h2
    cases e : allData x with
    | none => rw [e] at h2; exact h2.elim
    | some ds =>
      rw [e] at h2
      have rd := RepWs.ds rr e
      by_cases hl : ds.length ≤ 16777216
      · have h2 : RunE X.K cl (rrW X.K cl) Wx H1 H1' m1 σ Q (if ds.length ≤ 16777216 then .ok (.d (.tup ds)) s1 else .no) := h2
        rw [if_pos hl] at h2
        refine ⟨size_of (by rw [rd.length]; exact hl), fun p hp => ?_⟩
        exact h2 _ _ _ _ (Go.alloc st hp) (st.alloc hp) (Rep.tup upd_same (rd.mono (same_upd (st.h0 hp))))
      · have h2 : RunE X.K cl (rrW X.K cl) Wx H1 H1' m1 σ Q (if ds.length ≤ 16777216 then .ok (.d (.tup ds)) s1 else .no) := h2
        rw [if_neg hl] at h2
        exact h2.elim⟩
theorem jl_lst (h : JA cl Wx X es el) : JL cl Wx X (.List es pos) (eLst el) :=
  PE.weaken (pe_lst h) fun σ H Q ⟨H0, m, ow, s, ρ, cx, h⟩ => ⟨H0, m, ow, s, ρ, cx, RunE.bind h fun x s1 v H1 H1' m1 g st rr h2 => by
    have h2 : RunE X.K cl (rrL X.K cl) Wx H1 H1' m1 σ Q (if x.length ≤ 16777216 then .ok x s1 else .no) := h2
    by_cases hl : x.length ≤ 16777216
    · rw [if_pos hl] at h2
      refine ⟨size_of (by rw [RepWs.length rr]; exact hl), fun p hp => ?_⟩
      exact h2 _ _ _ _ (Go.fresh hp) (st.fresh hp) ⟨p, v, rfl, hp, upd_same, st.h0 hp, st.notM hp, rr⟩
    · rw [if_neg hl] at h2
      exact h2.elim⟩
/-- a new list as data -/
theorem frz_tof {K : PySem.W.Frag} {σ : L2.St} {H : Hp} {Q : VK} : Tof K cl (rrW K cl) Wx (eFrz el) σ H Q → Tof K cl (rrL K cl) Wx el σ H Q :=
  fun ⟨H0, m, ow, s, ρ, cx, h⟩ => ⟨H0, m, ow, s, ρ, cx, by
    have h : RunE K cl (rrW K cl) Wx H0 H m σ Q ((el ρ s).bind frzL) := h
    cases e1 : el ρ s with
    | no => rw [e1] at h; exact h.elim
    | exc c x s' => rw [e1] at h; exact h
    | ok l s' =>
      rw [e1] at h
      have h : RunE K cl (rrW K cl) Wx H0 H m σ Q (frzL l s') := h
      unfold frzL at h
      cases e2 : allData l with
      | none => rw [e2] at h; exact h.elim
      | some ds =>
        rw [e2] at h
        intro v H0' H' m' g st ⟨p, vs, h1, h2, h3, h4, h5, h6⟩
        exact h v (upd H0' p (.lst vs)) H' m' (g.freeze cx.st h2) (st.freeze h4 h3 h5) (by
          subst h1
          exact Rep.lst upd_same ((h6.ds e2).mono (same_upd h4)))⟩
theorem je_frz (h : JL cl Wx X e el) : JE cl Wx X e (eFrz el) := PE.weaken h fun σ H Q => frz_tof
/-- a new list as a cell -/
theorem je_cell (h : JL cl Wx X e el) : JE cl Wx X e (eCell el) :=
  PE.weaken h fun σ H Q ⟨H0, m, ow, s, ρ, cx, h⟩ => ⟨H0, m, ow, s, ρ, cx, by
    have h : RunE X.K cl (rrW X.K cl) Wx H0 H m σ Q ((el ρ s).bind fun l s1 => .ok (.r s1.length) (s1 ++ [.lst l])) := h
    cases e1 : el ρ s with
    | no => rw [e1] at h; exact h.elim
    | exc c x s' => rw [e1] at h; exact h
    | ok l s' =>
      rw [e1] at h
      have h : RunE X.K cl (rrW X.K cl) Wx H0 H m σ Q (.ok (.r s'.length) (s' ++ [.lst l])) := h
      intro v H0' H' m' g st ⟨p, vs, h1, h2, h3, h4, h5, h6⟩
      refine h v H0' H' (m' ++ [p]) ⟨g.s0, g.pre.trans (List.prefix_append _ _), g.fr, g.dom, g.n0, fun a ha => ?_, g.nw⟩ ⟨st.sub, by simp [st.len], ?_, fun n a c q1 q2 => ?_⟩ ?_
      · rcases List.mem_append.mp ha with ha | ha
        · exact g.nm a ha
        · rw [List.mem_singleton] at ha; subst ha; exact .inr (.inr h2)
      · rw [List.nodup_append]
        exact ⟨st.nd, by simp, fun a ha b hb => by rw [List.mem_singleton] at hb; subst hb; intro z; subst z; exact h5 ha⟩
      · by_cases hn : n < m'.length
        · rw [List.getElem?_append_left hn] at q1
          rw [List.getElem?_append_left (by rw [← st.len]; exact hn)] at q2
          obtain ⟨r1, r2⟩ := st.cell n a c q1 q2
          exact ⟨r1, r2.mono (Same.refl _) (List.prefix_append _ _) fun _ z => z⟩
        · have hn' : n = m'.length := by
            have := (List.getElem?_eq_some_iff.mp q1).1
            rw [List.length_append] at this
            simp at this
            omega
          subst hn'
          rw [List.getElem?_append_right (Nat.le_refl _)] at q1
          rw [st.len, List.getElem?_append_right (Nat.le_refl _)] at q2
          simp at q1 q2
          subst q1
          subst q2
          exact ⟨h4, vs, h3, h6.mono (Same.refl _) (List.prefix_append _ _)⟩
      · refine ⟨p, ?_, h1⟩
        rw [← st.len, List.getElem?_append_right (Nat.le_refl _)]
        simp⟩
/-! subscripts -/
theorem je_ix {r : R2} {f : W → W → S → Res W} (hf : IxR X r) (ho : OpS X.K cl r f) (ha : JE cl Wx X a ea) (hb : JE cl Wx X b eb) (hs : PlainIx b := by exact fun _ _ => rfl) : JE cl Wx X (.Subscript a b pos) (eBin f ea eb) :=
  PE.weaken (pe_ix hf ha hb hs) fun σ H Q h => tOp_of ho h
variable {lo hi : Option Expr} {p2 : Pos} {elo ehi : Cmp (Option Int)}
theorem jo_none : JO cl Wx X none eNoPart := PO.weaken po_none fun σ H Q ⟨H0, m, ow, s, ρ, cx, h⟩ => RunE.done (RR := rrO) h cx.st rfl
theorem jo_some (ha : JE cl Wx X a ea) : JO cl Wx X (some a) (ePart ea) := PO.weaken (po_some ha) fun σ H Q ⟨H0, m, ow, s, ρ, cx, h⟩ => ⟨H0, m, ow, s, ρ, cx, RunE.bind h fun x s1 v H1 H1' m1 g st rr h2 => by
    have h2 : RunE X.K cl rrO Wx H1 H1' m1 σ Q (match asInt x with | some i => .ok (some i) s1 | none => .no) := h2
    cases e : asInt x with
    | none => rw [e] at h2; exact h2.elim
    | some k =>
      rw [e] at h2
      exact ⟨k, asInt_ok rr e, h2.done st rfl⟩⟩
theorem je_slice {r : V → Option Int → Option Int → Hp → VK → Prop} {f : W → Option Int → Option Int → S → Res W} (hf : SlR X r) (ho : SlS X.K cl r f) (ha : JE cl Wx X a ea) (hl : JO cl Wx X lo elo) (hh : JO cl Wx X hi ehi) :
    JE cl Wx X (.Subscript a (.Slice lo hi none p2) pos) (eSl f ea elo ehi) :=
  PE.weaken (pe_slice hf ha hl hh) fun σ H Q ⟨H0, m, ow, s, ρ, cx, h⟩ => ⟨H0, m, ow, s, ρ, cx, RunE.bind h fun x s1 v H1 H1' m1 g st rr h2 => ⟨H1, m1, ow, s1, ρ, cx.go g st, RunE.bind h2 fun y s2 u H2 H2' m2 g' st' rr' h3 =>
    ⟨H2, m2, ow, s2, ρ, (cx.go g st).go g' st', RunE.bind h3 fun z s3 uz H3 H3' m3 g3 st3 r3 h4 => by
      cases rr'; cases r3
      exact ho Wx σ H3 H3' m3 s3 v y z x Q st3 (RepW.mono (g'.trans g3).s0 (g'.trans g3).pre rr) h4⟩⟩⟩
/-! calls of built-ins -/
theorem tCB_of {r : List V → Hp → VK → Prop} {f : List W → S → Res W} (ho : CallS X.K cl r f) {σ : L2.St} {H : Hp} {Q : VK} (h : Tof X.K cl (rrW X.K cl) Wx (eArgs f el) σ H Q) : tCB r (Tof X.K cl (rrA X.K cl) Wx el) σ H Q := by
  obtain ⟨H0, m, ow, s, ρ, cx, h⟩ := h
  exact ⟨H0, m, ow, s, ρ, cx, RunE.bind h fun x s1 v H1 H1' m1 g st rr h2 => ho Wx σ H1 H1' m1 s1 v x Q st rr h2⟩
theorem je_callB {x : Str} {p : Pos} {id : String} {r : List V → Hp → VK → Prop} {f : List W → S → Res W} (hf : CallR X (.builtin id) r) (ho : CallS X.K cl r f) (hg : Gl X x) (hm : X.mg x = none) (hv : bootBuiltins x = some (.builtin id)) (ha : JA cl Wx X (e :: es) el)
    (h1 : x ≠ Str.ofString "__name__" := by decide) (h2 : (x == Str.ofString "__debug__") = false := by decide) (h3 : starEach (e :: es) X.env = (false, eval e X.env) :: starEach es X.env := by rfl) (h4 : ((backTo pos (starEach es X.env)).any fun x => x.fst) = false := by rfl) :
    JE cl Wx X (.Call (.Name x p) (e :: es) [] pos) (eArgs f el) := PE.weaken (pe_callB hf hg hm hv ha h1 h2 h3 h4) fun σ H Q h => tCB_of ho h
theorem je_callTy {x : Str} {p : Pos} {T : String} {r : List V → Hp → VK → Prop} {f : List W → S → Res W} (hf : CallR X (.type T) r) (ho : CallS X.K cl r f) (hg : Gl X x) (hm : X.mg x = none) (hv : bootBuiltins x = some (.type T)) (ha : JA cl Wx X (e :: es) el)
    (h1 : x ≠ Str.ofString "__name__" := by decide) (h2 : (x == Str.ofString "__debug__") = false := by decide) (h3 : starEach (e :: es) X.env = (false, eval e X.env) :: starEach es X.env := by rfl) (h4 : ((backTo pos (starEach es X.env)).any fun x => x.fst) = false := by rfl) :
    JE cl Wx X (.Call (.Name x p) (e :: es) [] pos) (eArgs f el) := PE.weaken (pe_callTy hf hg hm hv ha h1 h2 h3 h4) fun σ H Q h => tCB_of ho h
end
end TG

set_option Elab.async false
set_option linter.all false
set_option maxRecDepth 100000
set_option maxHeartbeats 2000000
namespace TG
open PySem L2 PyProof.Rows

/-! ### values' operations -/
def fI2 (g : Int → Int → D) : W → W → S → Res W := fun x y s => match asInt x, asInt y with | some i, some j => .ok (.d (g i j)) s | _, _ => .no
def fI2c (c : Int → Int → Bool) (g : Int → Int → D) : W → W → S → Res W := fun x y s => match asInt x, asInt y with | some i, some j => if c i j = true then .ok (.d (g i j)) s else .no | _, _ => .no
def kMul (i j : Int) : Bool := decide (i.natAbs < 18446744073709551616 ∨ j.natAbs < 18446744073709551616)
def kMod (i j : Int) : Bool := decide (j ≠ 0)
def kDiv (i j : Int) : Bool := decide (j ≠ 0 ∧ j.natAbs < 1073741824)
def kPow (i j : Int) : Bool := decide (0 ≤ j ∧ j ≤ 1000000 ∧ i.natAbs < 18446744073709551616)
def catT (x y : List D) (s : S) : Res W := if x.length + y.length ≤ 16777216 then .ok (.d (.tup (x ++ y))) s else .no
def catL (x y : List W) (s : S) : Res W := if x.length + y.length ≤ 16777216 then (match allData (x ++ y) with | some ds => .ok (.d (.lst ds)) s | none => .no) else .no
def fAdd : W → W → S → Res W := fun x y s =>
  match asInt x, asInt y with
  | some i, some j => .ok (.d (.int (i + j))) s
  | _, _ => match asStr x, asStr y with
    | some i, some j => if i.length + j.length ≤ 16777216 then .ok (.d (.str (i ++ j))) s else .no
    | _, _ => match asTup x, asTup y with
      | some i, some j => catT i j s
      | _, _ => match asLst x s, asLst y s with
        | some i, some j => catL i j s
        | _, _ => .no
def fMul : W → W → S → Res W := fun x y s =>
  match asInt x, asInt y with
  | some i, some j => if kMul i j = true then .ok (.d (.int (i * j))) s else .no
  | _, _ => match asTup x, asInt y with
    | some l, some k => if l ≠ [] ∧ 2 ≤ k ∧ k ≤ 1000 ∧ l.length ≤ 1000 then .ok (.d (.tup (List.replicate k.toNat l).flatten)) s else .no
    | _, _ => .no

section
variable {X : Cx} {K : PySem.W.Frag} {cl : Str → Option Addr}
theorem ops_I2 {g : Int → Int → D} {gv : Int → Int → V} (hg : ∀ H0 i j, Rep K cl H0 (gv i j) (g i j)) : OpS K cl (rI0 gv) (fI2 g) := fun Wx σ H0 H m s x y wx wy Q st rx ry h => by
  unfold fI2 at h
  split at h
  · rename_i i j e1 e2
    exact ⟨i, j, asInt_ok rx e1, asInt_ok ry e2, RunE.done (RR := rrW K cl) h st (hg _ _ _)⟩
  · exact h.elim
theorem ops_I2c {g : Int → Int → D} {gv : Int → Int → V} {c : Int → Int → Bool} {C : Int → Int → Prop} (hc : ∀ i j, c i j = true → C i j) (hg : ∀ H0 i j, Rep K cl H0 (gv i j) (g i j)) : OpS K cl (rI C gv) (fI2c c g) := fun Wx σ H0 H m s x y wx wy Q st rx ry h => by
  unfold fI2c at h
  split at h
  · rename_i i j e1 e2
    split at h
    · exact ⟨i, j, asInt_ok rx e1, asInt_ok ry e2, hc _ _ ‹_›, RunE.done (RR := rrW K cl) h st (hg _ _ _)⟩
    · exact h.elim
  · exact h.elim
abbrev fSub := fI2 fun i j => .int (i - j)
abbrev fMod := fI2c kMod fun i j => .int (i.fmod j)
abbrev fDiv := fI2c kDiv fun i j => .int (i.fdiv j)
abbrev fPow := fI2c kPow fun i j => .int (i ^ j.toNat)
abbrev fLt := fI2 fun i j => .bl (decide (i < j))
abbrev fLe := fI2 fun i j => .bl (decide (i ≤ j))
abbrev fGt := fI2 fun i j => .bl (decide (j < i))
abbrev fGe := fI2 fun i j => .bl (decide (j ≤ i))
theorem ops_sub : OpS K cl (rI0 fun i j => .int (i - j)) fSub := ops_I2 fun _ _ _ => .int
theorem ops_mod : OpS K cl (rI (fun _ j => j ≠ 0) fun i j => .int (i.fmod j)) fMod := ops_I2c (fun i j h => of_decide_eq_true h) fun _ _ _ => .int
theorem ops_div : OpS K cl (rI CDivN fun i j => .int (i.fdiv j)) fDiv := ops_I2c (fun i j h => by have q : j ≠ 0 ∧ j.natAbs < 1073741824 := of_decide_eq_true h; exact q) fun _ _ _ => .int
theorem ops_pow : OpS K cl (rI CPow fun i j => .int (i ^ j.toNat)) fPow := ops_I2c (fun i j h => by have q : 0 ≤ j ∧ j ≤ 1000000 ∧ i.natAbs < 18446744073709551616 := of_decide_eq_true h; exact ⟨q.1, q.2.1, by rw [show (2 : Nat) ^ 64 = 18446744073709551616 by decide]; exact q.2.2⟩) fun _ _ _ => .int
theorem ops_lt : OpS K cl (rI0 fun i j => .bl (decide (i < j))) fLt := ops_I2 fun _ _ _ => .bl
theorem ops_le : OpS K cl (rI0 fun i j => .bl (decide (i ≤ j))) fLe := ops_I2 fun _ _ _ => .bl
theorem ops_gt : OpS K cl (rI0 fun i j => .bl (decide (j < i))) fGt := ops_I2 fun _ _ _ => .bl
theorem ops_ge : OpS K cl (rI0 fun i j => .bl (decide (j ≤ i))) fGe := ops_I2 fun _ _ _ => .bl
theorem Reps.append {H0 : Hp} {vs us : List V} {l k : List D} (h : Reps K cl H0 vs l) (h' : Reps K cl H0 us k) : Reps K cl H0 (vs ++ us) (l ++ k) := by
  induction l generalizing vs with
  | nil => cases h; exact h'
  | cons a l ih => cases h with | cons h1 h2 => exact .cons h1 (ih h2)
theorem sqL_of {H : Hp} {a : Addr} {xs : List V} (h : H a = some (.lst xs)) : SqL K H a xs := .inl (.inl h)
theorem sqT_of {H : Hp} {a : Addr} {xs : List V} (h : H a = some (.tup xs)) : SqT K H a xs := .inl (.inl h)

def rAddAll (K : PySem.W.Frag) : R2 := fun x y H Q => (rI0 (fun i j => .int (i + j)) x y H Q ∨ (∃ i j, x = .str i ∧ y = .str j ∧ i.length + j.length ≤ sizeLine ∧ Q (.str (i ++ j)) H)) ∨ rCatA K x y H Q ∨ rCat x y H Q
theorem op_addAll : OpR X (binaryOp .Add) (rAddAll X.K) := (op_add.or op_add_str).or (op_catA.or op_cat)
theorem ops_add : OpS K cl (rAddAll K) fAdd := fun Wx σ H0 H m s x y wx wy Q st rx ry h => by
  unfold fAdd at h
  split at h
  · rename_i i j e1 e2
    exact .inl (.inl ⟨i, j, asInt_ok rx e1, asInt_ok ry e2, RunE.done (RR := rrW K cl) h st .int⟩)
  split at h
  · rename_i i j e1 e2
    split at h
    · exact .inl (.inr ⟨i, j, asStr_ok rx e1, asStr_ok ry e2, size_of ‹_›, RunE.done (RR := rrW K cl) h st .str⟩)
    · exact h.elim
  split at h
  · rename_i i j e1 e2
    unfold catT at h
    split at h
    · rename_i hl
      obtain ⟨p, vs, h1, h2, h3⟩ := asTup_ok rx e1
      obtain ⟨q, us, k1, k2, k3⟩ := asTup_ok ry e2
      refine .inr (.inl ⟨p, q, vs, us, h1, k1, sqT_of (st.sub _ _ h2), sqT_of (st.sub _ _ k2), size_of (by rw [h3.length, k3.length]; exact hl), fun e => ?_, fun e e' => ?_, fun e e' l hl => ?_⟩)
      · subst e
        have : i = [] := List.eq_nil_of_length_eq_zero (by rw [← h3.length]; rfl)
        subst this
        exact RunE.done (RR := rrW K cl) h st (.tup k2 k3)
      · subst e'
        have : j = [] := List.eq_nil_of_length_eq_zero (by rw [← k3.length]; rfl)
        subst this
        rw [List.append_nil] at h
        exact RunE.done (RR := rrW K cl) h st (.tup h2 h3)
      · exact h _ _ _ _ (Go.alloc st hl) (st.alloc hl) (Rep.tup upd_same ((h3.append k3).mono (same_upd (st.h0 hl))))
    · exact h.elim
  split at h
  · rename_i i j e1 e2
    unfold catL at h
    split at h
    · rename_i hl
      split at h
      · rename_i ds e3
        obtain ⟨p, vs, h1, h2, h3⟩ := asLst_ok st rx e1
        obtain ⟨q, us, k1, k2, k3⟩ := asLst_ok st ry e2
        refine .inr (.inr ⟨p, q, vs, us, h1, k1, h2, k2, size_of (by rw [h3.length, k3.length]; exact hl), fun l hl => ?_⟩)
        exact h _ _ _ _ (Go.alloc st hl) (st.alloc hl) (Rep.lst upd_same (((h3.append k3).ds e3).mono (same_upd (st.h0 hl))))
      · exact h.elim
    · exact h.elim
  · exact h.elim
def rMulAll (K : PySem.W.Frag) : R2 := fun x y H Q => rI CMul (fun i j => .int (i * j)) x y H Q ∨ rRepT K x y H Q
theorem op_mulAll : OpR X (binaryOp .Mult) (rMulAll X.K) := op_mul.or op_repT
theorem Reps.rep {H0 : Hp} {vs : List V} {l : List D} (h : Reps K cl H0 vs l) : ∀ k, Reps K cl H0 (List.replicate k vs).flatten (List.replicate k l).flatten
  | 0 => .nil
  | k + 1 => by
    rw [List.replicate_succ, List.replicate_succ, List.flatten_cons, List.flatten_cons]
    exact h.append (h.rep k)
theorem ops_mul : OpS K cl (rMulAll K) fMul := fun Wx σ H0 H m s x y wx wy Q st rx ry h => by
  unfold fMul at h
  split at h
  · rename_i i j e1 e2
    split at h
    · rename_i hc
      refine .inl ⟨i, j, asInt_ok rx e1, asInt_ok ry e2, ?_, RunE.done (RR := rrW K cl) h st .int⟩
      have hc := of_decide_eq_true hc
      unfold CMul
      rw [show ((2 : Int) ^ 64) = 18446744073709551616 by decide]
      omega
    · exact h.elim
  split at h
  · rename_i l k e1 e2
    split at h
    · rename_i hc
      obtain ⟨h0, h1, h2, h3⟩ := hc
      obtain ⟨p, vs, q1, q2, q3⟩ := asTup_ok rx e1
      refine .inr ⟨p, k, vs, q1, asInt_ok ry e2, sqT_of (st.sub _ _ q2), fun z => h0 ?_, h1, h2, by rw [q3.length]; exact h3, fun t ht => ?_⟩
      · subst z
        exact List.eq_nil_of_length_eq_zero (by rw [← q3.length]; rfl)
      · exact h _ _ _ _ (Go.alloc st ht) (st.alloc ht) (Rep.tup upd_same ((q3.rep _).mono (same_upd (st.h0 ht))))
    · exact h.elim
  · exact h.elim

/-! ### == -/
mutual
def D.py : D → PyData
  | .non => .none
  | .bl b => .bool b
  | .int i => .int i
  | .str x => .str x
  | .tup l => .tuple (D.pys l)
  | .lst l => .list (D.pys l)
  | .dic _ => .dict []
  | .ins _ _ => .dict []
  | .scr _ => .dict []
def D.pys : List D → List PyData
  | [] => []
  | x :: r => D.py x :: D.pys r
end
mutual
theorem Rep.dp {H0 H : Hp} (e : Same H0 H) : ∀ {d : D} {v : V}, Rep K cl H0 v d → d.py.canLay0 = true → Dp K H v d.py
  | .non, _, h, _ => by cases h; exact .non
  | .bl b, _, h, _ => by cases h; exact .bl b
  | .int i, _, h, _ => by cases h; exact .int i
  | .str x, _, h, _ => by cases h; exact .str x
  | .tup l, _, h, c => by
    cases h with
    | tup h1 h2 =>
      unfold D.py at c ⊢
      exact .tup (sqT_of (e _ _ h1)) (Reps.dp e h2 (by rw [PyData.canLay0] at c; exact c))
  | .lst l, _, h, c => by
    cases h with
    | lst h1 h2 =>
      unfold D.py at c ⊢
      exact .lst (sqL_of (e _ _ h1)) (Reps.dp e h2 (by rw [PyData.canLay0] at c; exact c))
  | .dic l, _, h, c => by unfold D.py at c; cases c
  | .ins a l, _, h, c => by unfold D.py at c; cases c
  | .scr l, _, h, c => by unfold D.py at c; cases c
theorem Reps.dp {H0 H : Hp} (e : Same H0 H) : ∀ {l : List D} {vs : List V}, Reps K cl H0 vs l → PyData.canLayAll0 (D.pys l) = true → DpAll K H vs (D.pys l)
  | [], _, h, _ => by cases h; exact .nil
  | x :: r, _, h, c => by
    cases h with
    | cons h1 h2 =>
      unfold D.pys at c ⊢
      rw [PyData.canLayAll0, Bool.and_eq_true] at c
      exact .cons (h1.dp e c.1) (h2.dp e c.2)
end
def eqD (a b : D) : Option Bool := if SeqAt.shaped a.py = true ∧ SeqAt.shaped b.py = true then some (PyData.eqv a.py b.py) else none
def fEq (neg : Bool) : W → W → S → Res W := fun x y s => match asData x, asData y with
  | some a, some b => match eqD a b with | some k => .ok (.d (.bl (if neg then !k else k))) s | none => .no
  | _, _ => .no
theorem asData_ok {H0 : Hp} {m : List Addr} {v : V} {w : W} {x : D} (h : RepW K cl H0 m v w) (e : asData w = some x) : Rep K cl H0 v x := by
  cases w with
  | d y => cases e; exact h
  | r n => cases e
theorem eqD_ok {a b : D} {k : Bool} (h : eqD a b = some k) : SeqAt.shaped a.py = true ∧ SeqAt.shaped b.py = true ∧ k = PyData.eqv a.py b.py := by
  unfold eqD at h
  split at h
  · rename_i q; cases h; exact ⟨q.1, q.2, rfl⟩
  · cases h
theorem ops_eq : OpS K cl (rEqD K) (fEq false) := fun Wx σ H0 H m s x y wx wy Q st rx ry h => by
  unfold fEq at h
  split at h
  · rename_i a b e1 e2
    split at h
    · rename_i k e3
      obtain ⟨h1, h2, rfl⟩ := eqD_ok e3
      exact ⟨a.py, b.py, (asData_ok rx e1).dp st.sub (SeqAt.canLay_of_shaped h1), (asData_ok ry e2).dp st.sub (SeqAt.canLay_of_shaped h2), h1, h2, RunE.done (RR := rrW K cl) h st .bl⟩
    · exact h.elim
  · exact h.elim
theorem ops_ne : OpS K cl (rNeD K) (fEq true) := fun Wx σ H0 H m s x y wx wy Q st rx ry h => by
  unfold fEq at h
  split at h
  · rename_i a b e1 e2
    split at h
    · rename_i k e3
      obtain ⟨h1, h2, rfl⟩ := eqD_ok e3
      exact ⟨a.py, b.py, (asData_ok rx e1).dp st.sub (SeqAt.canLay_of_shaped h1), (asData_ok ry e2).dp st.sub (SeqAt.canLay_of_shaped h2), h1, h2, RunE.done (RR := rrW K cl) h st .bl⟩
    · exact h.elim
  · exact h.elim

/-! ### in -/
def flatD : D → Bool | .non => true | .bl _ => true | .int _ => true | .str _ => true | _ => false
def eqF : D → D → Bool
  | .non, .non => true
  | .bl a, .bl b => a == b
  | .bl a, .int b => (if a then 1 else 0) == b
  | .int a, .bl b => a == (if b then 1 else 0)
  | .int a, .int b => a == b
  | .str a, .str b => a == b
  | _, _ => false
def inD (x : D) (l : List D) : Bool := l.any fun y => eqF y x
def keyD : D → Option Key | .int i => some (.inl i) | .str x => some (.inr x) | _ => none
def getK {α : Type} : List (Key × α) → Key → Option α
  | [], _ => none
  | (k, v) :: r, x => if k = x then some v else getK r x
def wK (l : List (Key × D)) : List (Key × W) := l.map fun p => (p.1, W.d p.2)
/-- a dict: data or a cell -/
def asDic : W → S → Option (List (Key × W))
  | .d (.dic l), _ => some (wK l)
  | .d _, _ => none
  | .r n, s => match s[n]? with | some (.dic l) => some l | _ => none
def fIn (neg : Bool) : W → W → S → Res W := fun x y s => match asData x with
  | none => .no
  | some a => match asSeq y s with
    | some l => (match allData l with
      | some ds => if flatD a = true ∧ ds.all flatD = true then .ok (.d (.bl (if neg then !inD a ds else inD a ds))) s else .no
      | none => .no)
    | none => match asDic y s with
      | some kvs => (match keyD a with | some k => .ok (.d (.bl (if neg then !(getK kvs k).isSome else (getK kvs k).isSome))) s | none => .no)
      | none => match a, asStr y with
        | .str z, some t => .ok (.d (.bl (if neg then !!(Builtin.Str.occurrences t z 0 t.length 1).isEmpty else !(Builtin.Str.occurrences t z 0 t.length 1).isEmpty))) s
        | _, _ => .no
theorem flat_ok {H0 : Hp} {v : V} {d : D} (h : Rep K cl H0 v d) (f : flatD d = true) : flatV v = true := by
  cases h <;> first | rfl | cases f
theorem eqF_ok {H0 : Hp} {v u : V} {d e : D} (h : Rep K cl H0 v d) (h' : Rep K cl H0 u e) (f : flatD d = true) (f' : flatD e = true) : eqV v u = eqF d e := by
  cases h <;> first | (cases f; done) | (cases h' <;> first | (cases f'; done) | rfl)
theorem flats_ok {H0 : Hp} {vs : List V} {l : List D} (h : Reps K cl H0 vs l) (f : l.all flatD = true) : vs.all flatV = true := by
  induction l generalizing vs with
  | nil => cases h; rfl
  | cons a l ih =>
    cases h with
    | cons h1 h2 =>
      rw [List.all_cons, Bool.and_eq_true] at f
      rw [List.all_cons, flat_ok h1 f.1, ih h2 f.2]
      rfl
theorem in_ok {H0 : Hp} {v : V} {d : D} (hv : Rep K cl H0 v d) (fv : flatD d = true) {vs : List V} {l : List D} (h : Reps K cl H0 vs l) (f : l.all flatD = true) : inV v vs = inD d l := by
  induction l generalizing vs with
  | nil => cases h; rfl
  | cons a l ih =>
    cases h with
    | cons h1 h2 =>
      rw [List.all_cons, Bool.and_eq_true] at f
      show (eqV _ _ || inV v _) = (eqF _ _ || inD d l)
      rw [eqF_ok h1 hv f.1 fv, ih h2 f.2]
theorem key_ok {H0 : Hp} {v : V} {d : D} {k : Key} (h : Rep K cl H0 v d) (e : keyD d = some k) : v = kV k := by
  cases h <;> first | (cases e; rfl) | cases e
theorem RepK.wk {H0 : Hp} {m : List Addr} {vs : List (Key × V)} {l : List (Key × D)} (h : RepK K cl H0 vs l) : RepWK K cl H0 m vs (wK l) := by
  induction l generalizing vs with
  | nil => cases h; exact .nil
  | cons a l ih => cases h with | cons h1 h2 => exact .cons h1 (ih h2)
theorem asDic_ok {H0 H : Hp} {m : List Addr} {s : S} {v : V} {w : W} {l : List (Key × W)} (st : Stt K cl H0 H m s) (h : RepW K cl H0 m v w) (e : asDic w s = some l) : ∃ p vs, v = .ref p ∧ H p = some (.dK vs) ∧ RepWK K cl H0 m vs l := by
  unfold asDic at e
  split at e
  · cases e
    cases h
    exact ⟨_, _, rfl, st.sub _ _ ‹_›, RepK.wk ‹_›⟩
  · cases e
  · obtain ⟨a, h1, h2⟩ := h
    split at e
    · cases e
      obtain ⟨_, vs, h3, h4⟩ := st.cell _ a _ h1 ‹_›
      exact ⟨a, vs, h2, h3, h4⟩
    · cases e
theorem getK_ok {H0 : Hp} {m : List Addr} {kvs : List (Key × V)} {l : List (Key × W)} (h : RepWK K cl H0 m kvs l) (k : Key) : (∃ v x, valV kvs k = some v ∧ getK l k = some x ∧ RepW K cl H0 m v x) ∨ (valV kvs k = none ∧ getK l k = none) := by
  induction h with
  | nil => exact .inr ⟨rfl, rfl⟩
  | @cons k' v d vs ds h1 h2 ih =>
    by_cases e : k' = k
    · subst e
      exact .inl ⟨v, d, by simp [valV], by simp [getK], h1⟩
    · rcases ih with ⟨u, x, q1, q2, q3⟩ | ⟨q1, q2⟩
      · refine .inl ⟨u, x, ?_, ?_, q3⟩
        · rw [← q1]; simp [valV, e]
        · rw [← q2]; simp [getK, e]
      · refine .inr ⟨?_, ?_⟩
        · rw [← q1]; simp [valV, e]
        · rw [← q2]; simp [getK, e]
end
end TG

set_option Elab.async false
set_option linter.all false
set_option maxRecDepth 100000
set_option maxHeartbeats 2000000
namespace TG
open PySem L2 PyProof.Rows

section
variable {X : Cx} {K : PySem.W.Frag} {cl : Str → Option Addr}
/-! ### in, not in -/
def rDIn (neg : Bool) : R2 := fun x y H Q => ∃ a o, y = .ref a ∧ DGet H a x o ∧ Q (.bl (if neg then !o.isSome else o.isSome)) H
def rInAll (K : PySem.W.Frag) (neg : Bool) : R2 := fun x y H Q => (rIn K neg x y H Q ∨ rDIn neg x y H Q) ∨ (∃ i j, x = V.str i ∧ y = V.str j ∧ Q (V.bl (if neg then !!(Builtin.Str.occurrences j i 0 j.length 1).isEmpty else !(Builtin.Str.occurrences j i 0 j.length 1).isEmpty)) H)
theorem op_inDict (hu : X.A.units + 1 < cLine) : OpR X (compareOp .In) (rDIn false) := fun pins s σ H x y v u Q I rx ry ⟨a, o, ey, g, q⟩ => by
  subst ey
  obtain rfl : u = Value.ref a := ry
  exact d_in hu I g rx fun s3 I3 => ⟨.bl o.isSome, H, I3, rfl, q⟩
theorem op_niDict (hu : X.A.units + 1 < cLine) : OpR X (compareOp .NotIn) (rDIn true) := fun pins s σ H x y v u Q I rx ry ⟨a, o, ey, g, q⟩ => by
  subst ey
  obtain rfl : u = Value.ref a := ry
  exact d_notIn hu I g rx fun s3 I3 => ⟨.bl (!o.isSome), H, I3, rfl, q⟩
theorem op_inAll (hu : X.A.units + 1 < cLine) : OpR X (compareOp .In) (rInAll X.K false) := (op_in_seq.or (op_inDict hu)).or op_in_str
theorem op_niAll (hu : X.A.units + 1 < cLine) : OpR X (compareOp .NotIn) (rInAll X.K true) := (op_notIn_seq.or (op_niDict hu)).or op_notin_str
theorem ops_in (neg : Bool) : OpS K cl (rInAll K neg) (fIn neg) := fun Wx σ H0 H m s x y wx wy Q st rx ry h => by
  unfold fIn at h
  split at h
  · exact h.elim
  rename_i a e1
  have ra := asData_ok rx e1
  split at h
  · rename_i l e2
    split at h
    · rename_i ds e3
      split at h
      · rename_i hf
        obtain ⟨p, vs, q1, q2, q3⟩ := asSeq_ok st ry e2
        have rd := q3.ds e3
        refine .inl (.inl ⟨p, vs, q1, ?_, flat_ok ra hf.1, flats_ok rd hf.2, ?_⟩)
        · rcases q2 with q2 | q2
          · exact .inl (sqL_of q2)
          · exact .inr (sqT_of q2)
        · rw [in_ok ra hf.1 rd hf.2]
          exact RunE.done (RR := rrW K cl) h st .bl
      · exact h.elim
    · exact h.elim
  · split at h
    · rename_i kvs e3
      split at h
      · rename_i k e4
        obtain ⟨p, vs, q1, q2, q3⟩ := asDic_ok st ry e3
        have q := key_ok ra e4
        subst q
        refine .inl (.inr ⟨p, _, q1, DGet.k q2, ?_⟩)
        have e : (valV vs k).isSome = (getK kvs k).isSome := by
          rcases getK_ok q3 k with ⟨v, x, z1, z2, _⟩ | ⟨z1, z2⟩
          · rw [z1, z2]; rfl
          · rw [z1, z2]; rfl
        rw [e]
        exact RunE.done (RR := rrW K cl) h st .bl
      · exact h.elim
    · split at h
      · rename_i z t e4
        cases ra
        exact .inr ⟨_, _, rfl, asStr_ok ry e4, RunE.done (RR := rrW K cl) h st .bl⟩
      · exact h.elim
/-! ### subscripts -/
def fIx : W → W → S → Res W := fun x y s => match asSeq x s, asInt y with
  | some l, some k => (match atI l k with | some w => .ok w s | none => .no)
  | _, _ => match asStr x, asInt y with
    | some z, some k => if z.length ≤ 16777216 then (match atI z.cps.toList k with | some c => .ok (.d (.str ⟨#[c]⟩)) s | none => .no) else .no
    | _, _ => match asDic x s, y with
      | some kvs, .d a => (match keyD a with | some k => (match getK kvs k with | some w => .ok w s | none => .no) | none => .no)
      | _, _ => .no
def rDIx : R2 := fun x y H Q => ∃ a v, x = .ref a ∧ DGet H a y (some v) ∧ Q v H
def rIxAll (K : PySem.W.Frag) : R2 := fun x y H Q => rIx K x y H Q ∨ rDIx x y H Q
theorem ix_dict (hu : X.A.units + 1 < cLine) : IxR X rDIx := fun va sl pins s σ H x y v u Q I rx ry ⟨a, w, ex, g, q⟩ hs => by
  subst ex
  obtain rfl : v = Value.ref a := rx
  exact tail_any (dict_typeIs I g) PySem.F.slot_dict_getitem.lookup (d_getItem hu I g ry fun w' s3 I3 rw' => ⟨w, H, I3, rw', q⟩) hs
theorem ix_all (hu : X.A.units + 1 < cLine) : IxR X (rIxAll X.K) := ix_seq.or (ix_dict hu)
theorem atI_ok {H0 : Hp} {m : List Addr} {vs : List V} {l : List W} {k : Int} {w : W} (h : RepWs K cl H0 m vs l) (e : atI l k = some w) : ∃ v, atI vs k = some v ∧ RepW K cl H0 m v w := by
  unfold atI at e ⊢
  rw [h.length]
  cases q : ixN l.length k with
  | none => rw [q] at e; cases e
  | some j => rw [q] at e; exact h.get e
theorem ops_ix : OpS K cl (rIxAll K) fIx := fun Wx σ H0 H m s x y wx wy Q st rx ry h => by
  unfold fIx at h
  split at h
  · rename_i l k e1 e2
    split at h
    · rename_i w e3
      obtain ⟨p, vs, q1, q2, q3⟩ := asSeq_ok st rx e1
      obtain ⟨v, r1, r2⟩ := atI_ok q3 e3
      have d := RunE.done (RR := rrW K cl) h st r2
      rcases q2 with q2 | q2
      · exact .inl (.inl ⟨p, vs, k, v, q1, asInt_ok ry e2, sqL_of q2, r1, d⟩)
      · exact .inl (.inr (.inl ⟨p, vs, k, v, q1, asInt_ok ry e2, sqT_of q2, r1, d⟩))
    · exact h.elim
  split at h
  · rename_i z k e1 e2
    split at h
    · rename_i hl
      split at h
      · rename_i c e3
        exact .inl (.inr (.inr ⟨z, k, c, asStr_ok rx e1, asInt_ok ry e2, size_of hl, e3, RunE.done (RR := rrW K cl) h st .str⟩))
      · exact h.elim
    · exact h.elim
  split at h
  · rename_i kvs a e1 _ _
    split at h
    · rename_i k e2
      split at h
      · rename_i w e3
        obtain ⟨p, vs, q1, q2, q3⟩ := asDic_ok st rx e1
        have q := key_ok ry e2
        subst q
        rcases getK_ok q3 k with ⟨v, x, z1, z2, z3⟩ | ⟨z1, z2⟩
        · rw [z2] at e3
          cases e3
          refine .inr ⟨p, v, q1, ?_, RunE.done (RR := rrW K cl) h st z3⟩
          rw [← z1]
          exact DGet.k q2
        · rw [z2] at e3; cases e3
      · exact h.elim
    · exact h.elim
  · exact h.elim
/-! slices -/
def cut {α : Type} (xs : List α) (lo hi : Option Int) : List α := (xs.drop (HT.sIx xs.length 0 lo)).take (HT.sIx xs.length xs.length hi - HT.sIx xs.length 0 lo)
def asScr : W → Option (List D) | .d (.scr l) => some l | _ => none
def fSl : W → Option Int → Option Int → S → Res W := fun x i j s => match asTup x with
  | some l => .ok (.d (.tup (cut l i j))) s
  | none => match asLst x s with
    | some l => (match allData (cut l i j) with | some ds => .ok (.d (.lst ds)) s | none => .no)
    | none => match asScr x with
      | some l => .ok (.d (.lst (cut l i j))) s
      | none => match asStr x with
        | some z => if z.length ≤ 16777216 then .ok (.d (.str (cutS z i j))) s else .no
        | none => .no
def rSlAll (K : PySem.W.Frag) : V → Option Int → Option Int → Hp → VK → Prop := fun x i j H Q => (rSlA K x i j H Q ∨ rSlL K x i j H Q) ∨ rSlS x i j H Q
theorem sl_all : SlR X (rSlAll X.K) := (sl_tupA.or sl_list).or sl_str
theorem Reps.take {H0 : Hp} {vs : List V} {l : List D} (h : Reps K cl H0 vs l) : ∀ n, Reps K cl H0 (vs.take n) (l.take n) := by
  induction l generalizing vs with
  | nil => intro n; cases h; simpa using Reps.nil
  | cons a l ih =>
    intro n
    cases h with
    | cons h1 h2 =>
      cases n with
      | zero => exact .nil
      | succ n => exact .cons h1 (ih h2 n)
theorem Reps.drop {H0 : Hp} {vs : List V} {l : List D} (h : Reps K cl H0 vs l) : ∀ n, Reps K cl H0 (vs.drop n) (l.drop n) := by
  induction l generalizing vs with
  | nil => intro n; cases h; simpa using Reps.nil
  | cons a l ih =>
    intro n
    cases h with
    | cons h1 h2 =>
      cases n with
      | zero => exact .cons h1 h2
      | succ n => exact ih h2 n
theorem Reps.cut {H0 : Hp} {vs : List V} {l : List D} (h : Reps K cl H0 vs l) (i j : Option Int) : Reps K cl H0 (cutV vs i j) (TG.cut l i j) := by
  unfold cutV TG.cut
  rw [h.length]
  exact (h.drop _).take _
theorem RepWs.cut {H0 : Hp} {m : List Addr} {vs : List V} {l : List W} (h : RepWs K cl H0 m vs l) (i j : Option Int) : RepWs K cl H0 m (cutV vs i j) (TG.cut l i j) := by
  unfold cutV TG.cut
  rw [h.length]
  exact (h.drop _).take _
theorem cut_whole {α : Type} {xs : List α} {i j : Option Int} (h1 : HT.sIx xs.length 0 i = 0) (h2 : HT.sIx xs.length xs.length j = xs.length) : cut xs i j = xs := by
  unfold cut
  rw [h1, h2, List.drop_zero, Nat.sub_zero, List.take_length]
theorem sls_all : SlS K cl (rSlAll K) fSl := fun Wx σ H0 H m s x i j wx Q st rx h => by
  unfold fSl at h
  split at h
  · rename_i l e1
    obtain ⟨p, vs, q1, q2, q3⟩ := asTup_ok rx e1
    refine .inl (.inl ⟨p, vs, q1, sqT_of (st.sub _ _ q2), fun ⟨z1, z2⟩ => ?_, fun _ t ht => ?_⟩)
    · rw [q3.length] at z1 z2
      rw [cut_whole z1 z2] at h
      subst q1
      exact RunE.done (RR := rrW K cl) h st (.tup q2 q3)
    · exact h _ _ _ _ (Go.alloc st ht) (st.alloc ht) (Rep.tup upd_same ((q3.cut i j).mono (same_upd (st.h0 ht))))
  split at h
  · rename_i l e1
    split at h
    · rename_i ds e2
      obtain ⟨p, vs, q1, q2, q3⟩ := asLst_ok st rx e1
      refine .inl (.inr ⟨p, vs, q1, sqL_of q2, fun t ht => ?_⟩)
      exact h _ _ _ _ (Go.alloc st ht) (st.alloc ht) (Rep.lst upd_same (((q3.cut i j).ds e2).mono (same_upd (st.h0 ht))))
    · exact h.elim
  split at h
  · rename_i l e1
    cases wx with
    | r n => cases e1
    | d y =>
      cases y <;> first | (cases e1; done) | skip
      cases e1
      cases rx with
      | scr q2 q3 =>
        refine .inl (.inr ⟨_, _, rfl, same_l st.sub q2, fun t ht => ?_⟩)
        exact h _ _ _ _ (Go.alloc st ht) (st.alloc ht) (Rep.lst upd_same ((q3.cut i j).mono (same_upd (st.h0 ht))))
  split at h
  · rename_i z e1
    split at h
    · exact .inr ⟨z, asStr_ok rx e1, size_of ‹_›, RunE.done (RR := rrW K cl) h st .str⟩
    · exact h.elim
  · exact h.elim
/-! ### one value -/
def fNeg : W → S → Res W := fun x s => match asInt x with | some i => .ok (.d (.int (-i))) s | none => .no
theorem uns_neg : UnS K cl (rU fun i => .int (-i)) fNeg := fun Wx σ H0 H m s x wx Q st rx h => by
  unfold fNeg at h
  split at h
  · rename_i i e; exact ⟨i, asInt_ok rx e, RunE.done (RR := rrW K cl) h st .int⟩
  · exact h.elim
/-! ### calls of built-ins: functions of the arguments -/
def c1 (f : W → S → Res W) : List W → S → Res W | [x], s => f x s | _, _ => .no
def c2 (f : W → W → S → Res W) : List W → S → Res W | [x, y], s => f x y s | _, _ => .no
theorem calls1 {r : List V → Hp → VK → Prop} {f : W → S → Res W} (h : UnS K cl (fun x H Q => r [x] H Q) f) : CallS K cl r (c1 f) := fun Wx σ H0 H m s xs ws Q st rx q => by
  cases rx with
  | nil => exact q.elim
  | cons h1 h2 =>
    cases h2 with
    | nil => exact h Wx σ H0 H m s _ _ Q st h1 q
    | cons _ _ => exact q.elim
theorem calls2 {r : List V → Hp → VK → Prop} {f : W → W → S → Res W} (h : OpS K cl (fun x y H Q => r [x, y] H Q) f) : CallS K cl r (c2 f) := fun Wx σ H0 H m s xs ws Q st rx q => by
  cases rx with
  | nil => exact q.elim
  | cons h1 h2 =>
    cases h2 with
    | nil => exact q.elim
    | cons h2 h3 =>
      cases h3 with
      | nil => exact h Wx σ H0 H m s _ _ _ _ Q st h1 h2 q
      | cons _ _ => exact q.elim
def fLen : W → S → Res W := fun x s => match asSeq x s with
  | some l => .ok (.d (.int l.length)) s
  | none => match asStr x with
    | some z => if z.length ≤ 16777216 then .ok (.d (.int z.length)) s else .no
    | none => .no
theorem calls_len : CallS K cl (fun xs H Q => ∃ x n, xs = [x] ∧ LenV K x H n ∧ Q (V.int ↑n) H) (c1 fLen) := calls1 fun Wx σ H0 H m s x wx Q st rx h => by
  unfold fLen at h
  split at h
  · rename_i l e1
    obtain ⟨p, vs, q1, q2, q3⟩ := asSeq_ok st rx e1
    subst q1
    refine ⟨_, l.length, rfl, ?_, RunE.done (RR := rrW K cl) h st .int⟩
    rcases q2 with q2 | q2
    · exact .inl ⟨vs, sqL_of q2, q3.length.symm⟩
    · exact .inr ⟨vs, sqT_of q2, q3.length.symm⟩
  split at h
  · rename_i z e1
    split at h
    · have q := asStr_ok rx e1
      subst q
      exact ⟨_, z.length, rfl, ⟨size_of ‹_›, rfl⟩, RunE.done (RR := rrW K cl) h st .int⟩
    · exact h.elim
  · exact h.elim
def fAbs : W → S → Res W := fun x s => match asInt x with | some i => .ok (.d (.int (if i < 0 then -i else i))) s | none => .no
theorem calls_abs : CallS K cl (fun xs H Q => ∃ i, xs = [V.int i] ∧ Q (V.int (if i < 0 then -i else i)) H) (c1 fAbs) := calls1 fun Wx σ H0 H m s x wx Q st rx h => by
  unfold fAbs at h
  split at h
  · rename_i i e; exact ⟨i, by rw [asInt_ok rx e], RunE.done (RR := rrW K cl) h st .int⟩
  · exact h.elim
abbrev fMin2 := fI2 fun i j => .int (if j < i then j else i)
abbrev fMax2 := fI2 fun i j => .int (if j > i then j else i)
theorem calls_min2 : CallS K cl (fun xs H Q => ∃ i j, xs = [V.int i, V.int j] ∧ Q (V.int (if j < i then j else i)) H) (c2 fMin2) := calls2 fun Wx σ H0 H m s x y wx wy Q st rx ry h => by
  unfold fMin2 fI2 at h
  split at h
  · rename_i i j e1 e2; exact ⟨i, j, by rw [asInt_ok rx e1, asInt_ok ry e2], RunE.done (RR := rrW K cl) h st .int⟩
  · exact h.elim
theorem calls_max2 : CallS K cl (fun xs H Q => ∃ i j, xs = [V.int i, V.int j] ∧ Q (V.int (if j > i then j else i)) H) (c2 fMax2) := calls2 fun Wx σ H0 H m s x y wx wy Q st rx ry h => by
  unfold fMax2 fI2 at h
  split at h
  · rename_i i j e1 e2; exact ⟨i, j, by rw [asInt_ok rx e1, asInt_ok ry e2], RunE.done (RR := rrW K cl) h st .int⟩
  · exact h.elim
def asIntsL (x : W) (s : S) : Option (List Int) := (asLst x s).bind allInts
theorem asIntsL_ok {H0 H : Hp} {m : List Addr} {s : S} {v : V} {w : W} {l : List Int} (st : Stt K cl H0 H m s) (h : RepW K cl H0 m v w) (e : asIntsL w s = some l) : ∃ p, v = .ref p ∧ H p = some (.lst (l.map V.int)) := by
  unfold asIntsL at e
  cases q : asLst w s with
  | none => rw [q] at e; cases e
  | some z =>
    rw [q] at e
    obtain ⟨p, vs, q1, q2, q3⟩ := asLst_ok st h q
    have := q3.ints e
    subst this
    exact ⟨p, q1, q2⟩
def fMaxL : W → S → Res W := fun x s => match asIntsL x s with | some l => (match l.max? with | some i => .ok (.d (.int i)) s | none => .no) | none => .no
def fMinL : W → S → Res W := fun x s => match asIntsL x s with | some l => (match l.min? with | some i => .ok (.d (.int i)) s | none => .no) | none => .no
theorem calls_maxL : CallS K cl (rMax K) (c1 fMaxL) := calls1 fun Wx σ H0 H m s x wx Q st rx h => by
  unfold fMaxL at h
  split at h
  · rename_i l e
    split at h
    · rename_i i e2
      obtain ⟨p, q1, q2⟩ := asIntsL_ok st rx e
      have q := List.max?_eq_some_iff.mp e2
      refine ⟨p, l, by rw [q1], sqL_of q2, List.length_pos_of_mem q.1, fun M hM hb => ?_⟩
      have : M = i := Int.le_antisymm (q.2 _ hM) (hb _ q.1)
      subst this
      exact RunE.done (RR := rrW K cl) h st .int
    · exact h.elim
  · exact h.elim
theorem calls_minL : CallS K cl (rMin K) (c1 fMinL) := calls1 fun Wx σ H0 H m s x wx Q st rx h => by
  unfold fMinL at h
  split at h
  · rename_i l e
    split at h
    · rename_i i e2
      obtain ⟨p, q1, q2⟩ := asIntsL_ok st rx e
      have q := List.min?_eq_some_iff.mp e2
      refine ⟨p, l, by rw [q1], sqL_of q2, List.length_pos_of_mem q.1, fun M hM hb => ?_⟩
      have : M = i := Int.le_antisymm (hb _ q.1) (q.2 _ hM)
      subst this
      exact RunE.done (RR := rrW K cl) h st .int
    · exact h.elim
  · exact h.elim
def fSum : W → S → Res W := fun x s => match asIntsL x s with | some l => .ok (.d (.int l.sum)) s | none => .no
theorem calls_sum : CallS K cl (rSum K) (c1 fSum) := calls1 fun Wx σ H0 H m s x wx Q st rx h => by
  unfold fSum at h
  split at h
  · rename_i l e
    obtain ⟨p, q1, q2⟩ := asIntsL_ok st rx e
    exact ⟨p, l, by rw [q1], sqL_of q2, RunE.done (RR := rrW K cl) h st .int⟩
  · exact h.elim
def fAll : W → S → Res W := fun x s => match (asLst x s).bind allBools with | some l => .ok (.d (.bl (l.all id))) s | none => .no
def fAny : W → S → Res W := fun x s => match (asLst x s).bind allBools with | some l => .ok (.d (.bl (l.any id))) s | none => .no
theorem asBoolsL_ok {H0 H : Hp} {m : List Addr} {s : S} {v : V} {w : W} {l : List Bool} (st : Stt K cl H0 H m s) (h : RepW K cl H0 m v w) (e : (asLst w s).bind allBools = some l) : ∃ p, v = .ref p ∧ H p = some (.lst (l.map V.bl)) := by
  cases q : asLst w s with
  | none => rw [q] at e; cases e
  | some z =>
    rw [q] at e
    obtain ⟨p, vs, q1, q2, q3⟩ := asLst_ok st h q
    have := q3.bools e
    subst this
    exact ⟨p, q1, q2⟩
theorem calls_all : CallS K cl (rAll K) (c1 fAll) := calls1 fun Wx σ H0 H m s x wx Q st rx h => by
  unfold fAll at h
  split at h
  · rename_i l e
    obtain ⟨p, q1, q2⟩ := asBoolsL_ok st rx e
    exact ⟨p, l, by rw [q1], sqL_of q2, RunE.done (RR := rrW K cl) h st .bl⟩
  · exact h.elim
theorem calls_any : CallS K cl (rAny K) (c1 fAny) := calls1 fun Wx σ H0 H m s x wx Q st rx h => by
  unfold fAny at h
  split at h
  · rename_i l e
    obtain ⟨p, q1, q2⟩ := asBoolsL_ok st rx e
    exact ⟨p, l, by rw [q1], sqL_of q2, RunE.done (RR := rrW K cl) h st .bl⟩
  · exact h.elim
def fTuple : W → S → Res W := fun x s => match asTup x with
  | some l => .ok (.d (.tup l)) s
  | none => match (asLst x s).bind allData with | some ds => .ok (.d (.tup ds)) s | none => .no
theorem asDataL_ok {H0 H : Hp} {m : List Addr} {s : S} {v : V} {w : W} {l : List D} (st : Stt K cl H0 H m s) (h : RepW K cl H0 m v w) (e : (asLst w s).bind allData = some l) : ∃ p vs, v = .ref p ∧ H p = some (.lst vs) ∧ Reps K cl H0 vs l := by
  cases q : asLst w s with
  | none => rw [q] at e; cases e
  | some z =>
    rw [q] at e
    obtain ⟨p, vs, q1, q2, q3⟩ := asLst_ok st h q
    exact ⟨p, vs, q1, q2, q3.ds e⟩
theorem calls_tuple : CallS K cl (fun xs H Q => ∃ p ys, xs = [V.ref p] ∧ ((SqL K H p ys ∧ ∀ (l : Addr), H l = none → Q (V.ref l) (upd H l (HO.tup ys))) ∨ SqT K H p ys ∧ Q (V.ref p) H)) (c1 fTuple) := calls1 fun Wx σ H0 H m s x wx Q st rx h => by
  unfold fTuple at h
  split at h
  · rename_i l e
    obtain ⟨p, vs, q1, q2, q3⟩ := asTup_ok rx e
    subst q1
    exact ⟨p, vs, rfl, .inr ⟨sqT_of (st.sub _ _ q2), RunE.done (RR := rrW K cl) h st (.tup q2 q3)⟩⟩
  split at h
  · rename_i l e
    obtain ⟨p, vs, q1, q2, q3⟩ := asDataL_ok st rx e
    refine ⟨p, vs, by rw [q1], .inl ⟨sqL_of q2, fun t ht => ?_⟩⟩
    exact h _ _ _ _ (Go.alloc st ht) (st.alloc ht) (Rep.tup upd_same (q3.mono (same_upd (st.h0 ht))))
  · exact h.elim
def fInt : W → S → Res W := fun x s => match asInt x with
  | some i => .ok (.d (.int i)) s
  | none => match asBool x with | some b => .ok (.d (.int (if b = true then 1 else 0))) s | none => .no
theorem calls_int : CallS K cl (fun xs H Q => (∃ i, xs = [V.int i] ∧ Q (V.int i) H) ∨ ∃ k, xs = [V.bl k] ∧ Q (V.int (if k = true then 1 else 0)) H) (c1 fInt) := calls1 fun Wx σ H0 H m s x wx Q st rx h => by
  unfold fInt at h
  split at h
  · rename_i i e; exact .inl ⟨i, by rw [asInt_ok rx e], RunE.done (RR := rrW K cl) h st .int⟩
  split at h
  · rename_i i e; exact .inr ⟨i, by rw [asBool_ok rx e], RunE.done (RR := rrW K cl) h st .int⟩
  · exact h.elim
def fStr : W → S → Res W := fun x s => match asInt x with | some i => if i.natAbs.log2 < 1920 then .ok (.d (.str (Str.ofString (toString i)))) s else .no | none => .no
theorem calls_str : CallS K cl (fun xs H Q => ∃ i, xs = [V.int i] ∧ i.natAbs.log2 < 1920 ∧ Q (V.str (Str.ofString (toString i))) H) (c1 fStr) := calls1 fun Wx σ H0 H m s x wx Q st rx h => by
  unfold fStr at h
  split at h
  · rename_i i e
    split at h
    · exact ⟨i, by rw [asInt_ok rx e], ‹_›, RunE.done (RR := rrW K cl) h st .str⟩
    · exact h.elim
  · exact h.elim
/-- sorted of fewer than 64 whole numbers -/
def fSorted : W → S → Res W := fun x s => match asIntsL x s with | some l => if l.length < 64 then .ok (.d (.lst ((l.mergeSort).map D.int))) s else .no | none => .no
theorem Reps.ints {H0 : Hp} : ∀ l : List Int, Reps K cl H0 (l.map V.int) (l.map D.int)
  | [] => .nil
  | _ :: r => .cons .int (Reps.ints r)
theorem sort_one {l ys : List Int} (h1 : ys.Perm l) (h2 : ys.Pairwise (· ≤ ·)) : ys = l.mergeSort := by
  refine List.Perm.eq_of_pairwise (le := (· ≤ ·)) (fun a b _ _ x y => Int.le_antisymm x y) h2 ?_ (h1.trans (List.mergeSort_perm l _).symm)
  have := List.pairwise_mergeSort (le := fun a b : Int => decide (a ≤ b)) (fun a b c h h' => by simp at *; omega) (fun a b => by simp; omega) l
  exact this.imp fun h => of_decide_eq_true h
theorem calls_sorted : CallS K cl (rSorted K) (c1 fSorted) := calls1 fun Wx σ H0 H m s x wx Q st rx h => by
  unfold fSorted at h
  split at h
  · rename_i l e
    split at h
    · rename_i hl
      obtain ⟨p, q1, q2⟩ := asIntsL_ok st rx e
      refine ⟨p, l, by rw [q1], sqL_of q2, hl, fun ys t h1 h2 ht => ?_⟩
      have := sort_one h1 h2
      subst this
      exact h _ _ _ _ (Go.alloc st ht) (st.alloc ht) (Rep.lst upd_same (Reps.ints _))
    · exact h.elim
  · exact h.elim
end
end TG

set_option Elab.async false
set_option linter.all false
set_option maxRecDepth 100000
set_option maxHeartbeats 2000000
namespace TG
open PySem L2 PyProof.Rows

inductive RV where
  | w (x : W) | own (l : List W) | ownD (l : List (Key × W))
inductive RS where
  | nx (ρ : Rho) (s : S) | ret (v : RV) (s : S) | brk (ρ : Rho) (s : S) | cnt (ρ : Rho) (s : S) | exc (c : Str) (x : Option D) (ρ : Rho) (s : S) | no
abbrev Stm := Rho → S → RS
def RS.bind : RS → Stm → RS
  | .nx ρ s, k => k ρ s
  | .ret v s, _ => .ret v s
  | .brk ρ s, _ => .brk ρ s
  | .cnt ρ s, _ => .cnt ρ s
  | .exc c x ρ s, _ => .exc c x ρ s
  | .no, _ => .no
/-- an expression, then a statement -/
def ebS {α : Type} (r : Res α) (ρ : Rho) (k : α → Stm) : RS := match r with
  | .ok a s => k a ρ s
  | .exc c x s => .exc c x ρ s
  | .no => .no

def retR (K : PySem.W.Frag) (cl : Str → Option Addr) (H : Hp) (ow : List Addr) (H0' H' : Hp) (m' : List Addr) (v : V) : RV → Prop
  | .w x => RepW K cl H0' m' v x
  | .own l => ∃ p vs, v = .ref p ∧ (p ∈ ow ∨ H p = none) ∧ H' p = some (.lst vs) ∧ H0' p = none ∧ p ∉ m' ∧ RepWs K cl H0' m' vs l
  | .ownD l => ∃ p vs, v = .ref p ∧ (p ∈ ow ∨ H p = none) ∧ H' p = some (.dK vs) ∧ H0' p = none ∧ p ∉ m' ∧ RepWK K cl H0' m' vs l
def RunS (K : PySem.W.Frag) (cl : Str → Option Addr) (Wx : WX) (H0 H : Hp) (m ow : List Addr) (E : Ends) : RS → Prop
  | .nx ρ s => ∀ σ' H0' H' m' ow', Go H0 H m ow H0' H' m' ow' → Ctx K cl H0' H' m' ow' s σ' ρ → E.nx σ' H'
  | .brk ρ s => ∀ σ' H0' H' m' ow', Go H0 H m ow H0' H' m' ow' → Ctx K cl H0' H' m' ow' s σ' ρ → E.bk σ' H'
  | .cnt ρ s => ∀ σ' H0' H' m' ow', Go H0 H m ow H0' H' m' ow' → Ctx K cl H0' H' m' ow' s σ' ρ → E.ct σ' H'
  | .ret v s => ∀ u H0' H' m' ow', Go H0 H m ow H0' H' m' ow' → Stt K cl H0' H' m' s → retR K cl H ow H0' H' m' u v → E.rt u H'
  | .exc c x ρ s => ∀ cv dd σ' H0' H' m' ow', Go H0 H m ow H0' H' m' ow' → Ctx K cl H0' H' m' ow' s σ' ρ → ExcR K cl H0' H' cv dd c x → Wx cv dd σ' H'
  | .no => False
def Sof (K : PySem.W.Frag) (cl : Str → Option Addr) (Wx : WX) (b : Stm) : TS := fun E σ H => ∃ H0 m ow s ρ, Ctx K cl H0 H m ow s σ ρ ∧ RunS K cl Wx H0 H m ow E (b ρ s)
def JS (cl : Str → Option Addr) (Wx : WX) (X : Cx) (st : Stmt) (b : Stm) : Prop := PS X st (Sof X.K cl Wx b)
def JB (cl : Str → Option Addr) (Wx : WX) (X : Cx) (st : List Stmt) (b : Stm) : Prop := PSs X st (Sof X.K cl Wx b)

section
variable {K : PySem.W.Frag} {cl : Str → Option Addr} {H0 H H1 H1' H0' H' : Hp} {m m1 m' ow ow1 : List Addr} {s s1 : S} {σ : L2.St} {ρ : Rho} {Wx : WX} {α β γ δ : Type} {E : Ends}
theorem RunS.shift {r : RS} (h : RunS K cl Wx H0 H m ow E r) (g : Go H0 H m ow H1 H1' m1 ow1) : RunS K cl Wx H1 H1' m1 ow1 E r := by
  cases r with
  | nx ρ s => exact fun σ' H0' H' m' ow' g' c => h _ _ _ _ _ (g.trans g') c
  | brk ρ s => exact fun σ' H0' H' m' ow' g' c => h _ _ _ _ _ (g.trans g') c
  | cnt ρ s => exact fun σ' H0' H' m' ow' g' c => h _ _ _ _ _ (g.trans g') c
  | exc c x ρ s => exact fun cv dd σ' H0' H' m' ow' g' c e => h _ _ _ _ _ _ _ (g.trans g') c e
  | no => exact h
  | ret v s =>
    intro u H0' H' m' ow' g' st r
    refine h u H0' H' m' ow' (g.trans g') st ?_
    have fr : ∀ p, (p ∈ ow1 ∨ H1' p = none) → p ∈ ow ∨ H p = none := fun p q => by
      rcases q with q | q
      · exact g.nw p q
      · exact .inr (dom_none g.dom q)
    cases v with
    | w x => exact r
    | own l => obtain ⟨p, vs, a, b, c⟩ := r; exact ⟨p, vs, a, fr p b, c⟩
    | ownD l => obtain ⟨p, vs, a, b, c⟩ := r; exact ⟨p, vs, a, fr p b, c⟩
theorem RunS.ofE {RR : RRT β α} {Q1 : β → Hp → Prop} {r : Res α} {k : α → Stm} (cx : Ctx K cl H0 H m ow s σ ρ) (h : RunS K cl Wx H0 H m ow E (ebS r ρ k))
    (q : ∀ a s1 v H1 H1' m1, GoE H0 H m H1 H1' m1 → Ctx K cl H1 H1' m1 ow s1 σ ρ → RR H H1 H1' m1 v a → RunS K cl Wx H1 H1' m1 ow E (k a ρ s1) → Q1 v H1') : RunE K cl RR Wx H0 H m σ Q1 r := by
  cases r with
  | ok a s' =>
    have h : RunS K cl Wx H0 H m ow E (k a ρ s') := h
    exact fun v H0' H' m' g st rr => q a s' v H0' H' m' g (cx.go g st) rr (h.shift g.lift)
  | exc c x s' => exact fun cv dd H0' H' m' g st e => h cv dd σ H0' H' m' ow g.lift (cx.go g st) e
  | no => exact h
theorem RunS.nxt (h : RunS K cl Wx H0 H m ow E (.nx ρ s)) (cx : Ctx K cl H0 H m ow s σ ρ) : E.nx σ H := h _ _ _ _ _ Go.refl cx
theorem RunS.seq {r : RS} {k : Stm} {N : L2.St → Hp → Prop} (h : RunS K cl Wx H0 H m ow E (r.bind k))
    (q : ∀ ρ s σ' H0' H' m' ow', Go H0 H m ow H0' H' m' ow' → Ctx K cl H0' H' m' ow' s σ' ρ → RunS K cl Wx H0' H' m' ow' E (k ρ s) → N σ' H') : RunS K cl Wx H0 H m ow { E with nx := N } r := by
  cases r with
  | nx ρ s =>
    have h : RunS K cl Wx H0 H m ow E (k ρ s) := h
    exact fun σ' H0' H' m' ow' g c => q ρ s σ' H0' H' m' ow' g c (h.shift g)
  | brk ρ s => exact h
  | cnt ρ s => exact h
  | exc c x ρ s => exact h
  | ret v s => exact h
  | no => exact h

/-! ### the slots -/
theorem EnvR.setW (e : EnvR K cl H0 H m ow σ ρ) {v : V} {x : W} (r : RepW K cl H0 m v x) (i : Nat) : EnvR K cl H0 H m ow (σ.set i (some v)) (ρ.set i (.w x)) := by
  refine ⟨by simp [e.len], fun j y h => ?_, fun j k y z p h1 h2 h3 h4 h5 h6 => ?_, e.owns⟩
  · by_cases hj : i = j
    · subst hj
      have hl : i < ρ.length := by
        have := (List.getElem?_eq_some_iff.mp h).1
        simpa using this
      rw [List.getElem?_set_self hl] at h
      cases h
      rw [List.getElem?_set_self (by rw [e.len]; exact hl)]
      exact ⟨v, rfl, r⟩
    · rw [List.getElem?_set_ne hj] at h
      rw [List.getElem?_set_ne hj]
      exact e.slot j y h
  · have nj : i ≠ j := fun z => by
      subst z
      have hl : i < ρ.length := by
        have := (List.getElem?_eq_some_iff.mp h1).1
        simpa using this
      rw [List.getElem?_set_self hl] at h1
      cases h1; cases h3
    have nk : i ≠ k := fun z => by
      subst z
      have hl : i < ρ.length := by
        have := (List.getElem?_eq_some_iff.mp h2).1
        simpa using this
      rw [List.getElem?_set_self hl] at h2
      cases h2; cases h4
    rw [List.getElem?_set_ne nj] at h1 h5
    rw [List.getElem?_set_ne nk] at h2 h6
    exact e.apart j k y z p h1 h2 h3 h4 h5 h6
theorem Ctx.setW (c : Ctx K cl H0 H m ow s σ ρ) {v : V} {x : W} (r : RepW K cl H0 m v x) (i : Nat) : Ctx K cl H0 H m ow s (σ.set i (some v)) (ρ.set i (.w x)) := ⟨c.st, c.en.setW r i⟩
/-- a new own thing at p, in slot i -/
theorem EnvR.setOwn (e : EnvR K cl H0 H m ow σ ρ) {p : Addr} {x : EV} (hx : x.isOwn = true) (hp : H p ≠ none) (h0 : H0 p = none) (hm : p ∉ m) (hf : p ∉ ow) (i : Nat) (r : SlotR K cl H0 H m (p :: ow) (some (some (.ref p))) x) :
    EnvR K cl H0 H m (p :: ow) (σ.set i (some (.ref p))) (ρ.set i x) := by
  have more : ∀ {v : Option (Option V)} {y : EV}, SlotR K cl H0 H m ow v y → SlotR K cl H0 H m (p :: ow) v y := fun {v y} h => by
    cases y with
    | no => trivial
    | w x => exact h
    | own l => obtain ⟨p, vs, a, b, c⟩ := h; exact ⟨p, vs, a, List.mem_cons_of_mem _ b, c⟩
    | ownD l => obtain ⟨p, vs, a, b, c⟩ := h; exact ⟨p, vs, a, List.mem_cons_of_mem _ b, c⟩
    | ownI n l => obtain ⟨p, C, dx, fs, a, b, c⟩ := h; exact ⟨p, C, dx, fs, a, List.mem_cons_of_mem _ b, c⟩
  have inow : ∀ {v : Option (Option V)} {y : EV} {q : Addr}, SlotR K cl H0 H m ow v y → y.isOwn = true → v = some (some (.ref q)) → q ∈ ow := fun {v y q} h hy hv => by
    cases y with
    | no => cases hy
    | w x => cases hy
    | own l => obtain ⟨p, vs, a, b, c⟩ := h; rw [a] at hv; cases hv; exact b
    | ownD l => obtain ⟨p, vs, a, b, c⟩ := h; rw [a] at hv; cases hv; exact b
    | ownI n l => obtain ⟨p, C, dx, fs, a, b, c⟩ := h; rw [a] at hv; cases hv; exact b
  have inr : ∀ {j : Nat} {y : EV}, (ρ.set i x)[j]? = some y → i = j → i < ρ.length ∧ y = x := fun {j y} h hj => by
    subst hj
    have hl : i < ρ.length := by
      have := (List.getElem?_eq_some_iff.mp h).1
      simpa using this
    rw [List.getElem?_set_self hl] at h
    cases h
    exact ⟨hl, rfl⟩
  refine ⟨by simp [e.len], fun j y h => ?_, fun j k y z q h1 h2 h3 h4 h5 h6 => ?_, fun q hq => ?_⟩
  · by_cases hj : i = j
    · obtain ⟨hl, rfl⟩ := inr h hj
      subst hj
      rw [List.getElem?_set_self (by rw [e.len]; exact hl)]
      exact r
    · rw [List.getElem?_set_ne hj] at h ⊢
      exact more (e.slot j y h)
  · by_cases hj : i = j <;> by_cases hk : i = k
    · omega
    · obtain ⟨hl, rfl⟩ := inr h1 hj
      subst hj
      rw [List.getElem?_set_self (by rw [e.len]; exact hl)] at h5
      cases h5
      rw [List.getElem?_set_ne hk] at h2 h6
      exact absurd (inow (e.slot k z h2) h4 h6) hf
    · obtain ⟨hl, rfl⟩ := inr h2 hk
      subst hk
      rw [List.getElem?_set_self (by rw [e.len]; exact hl)] at h6
      cases h6
      rw [List.getElem?_set_ne hj] at h1 h5
      exact absurd (inow (e.slot j y h1) h3 h5) hf
    · rw [List.getElem?_set_ne hj] at h1 h5
      rw [List.getElem?_set_ne hk] at h2 h6
      exact e.apart j k y z q h1 h2 h3 h4 h5 h6
  · rcases List.mem_cons.mp hq with rfl | hq
    · exact ⟨hp, h0, hm⟩
    · exact e.owns q hq
/-- an own thing changes -/
theorem SlotR.upd {v : Option (Option V)} {y : EV} {p : Addr} {o : HO} (h : SlotR K cl H0 H m ow v y) (k : y.isOwn = true → v ≠ some (some (.ref p))) : SlotR K cl H0 (upd H p o) m ow v y := by
  cases y with
  | no => trivial
  | w x => exact h
  | own l => obtain ⟨q, vs, a, b, c, d⟩ := h; exact ⟨q, vs, a, b, by rw [upd_ne (fun z => k rfl (by rw [a, z]))]; exact c, d⟩
  | ownD l => obtain ⟨q, vs, a, b, c, d⟩ := h; exact ⟨q, vs, a, b, by rw [upd_ne (fun z => k rfl (by rw [a, z]))]; exact c, d⟩
  | ownI n l => obtain ⟨q, C, dx, fs, a, b, c, d⟩ := h; exact ⟨q, C, dx, fs, a, b, by rw [upd_ne (fun z => k rfl (by rw [a, z]))]; exact c, d⟩
theorem Stt.updOwn (st : Stt K cl H0 H m s) {p : Addr} {o : HO} (h0 : H0 p = none) (hm : p ∉ m) : Stt K cl H0 (upd H p o) m s := by
  refine ⟨fun b x e => ?_, st.len, st.nd, fun n a c h1 h2 => ?_⟩
  · have : b ≠ p := fun z => by subst z; rw [h0] at e; cases e
    rw [upd_ne this]; exact st.sub _ _ e
  · obtain ⟨q1, q2⟩ := st.cell n a c h1 h2
    have ne : a ≠ p := fun z => hm (z ▸ List.mem_of_getElem? h1)
    exact ⟨q1, q2.mono (Same.refl _) List.prefix_rfl fun o z => by rw [upd_ne ne]; exact z⟩
theorem Go.updOwn {p : Addr} {o : HO} (hp : p ∈ ow) : Go H0 H m ow H0 (upd H p o) m ow :=
  ⟨Same.refl _, List.prefix_rfl, fun a x h _ h2 => by
    have : a ≠ p := fun z => h2 (z ▸ hp)
    rw [upd_ne this]; exact h, fun a h => by
    unfold upd; split
    · simp
    · exact h, fun _ _ _ _ h => h, fun _ h => .inl h, fun _ h => .inl h⟩
theorem Ctx.updOwn (c : Ctx K cl H0 H m ow s σ ρ) {p : Addr} {o : HO} {i : Nat} {y x : EV} (hi : ρ[i]? = some y) (hy : y.isOwn = true) (hv : σ[i]? = some (some (.ref p))) (hp : p ∈ ow) (hx : x.isOwn = true) (r : SlotR K cl H0 (upd H p o) m ow (some (some (.ref p))) x) :
    Ctx K cl H0 (upd H p o) m ow s σ (ρ.set i x) := by
  obtain ⟨o1, o2, o3⟩ := c.en.owns p hp
  have hl : i < ρ.length := (List.getElem?_eq_some_iff.mp hi).1
  refine ⟨c.st.updOwn o2 o3, by simp [c.en.len], fun j z h => ?_, fun j k z z' q h1 h2 h3 h4 h5 h6 => ?_, fun q hq => ?_⟩
  · by_cases hj : i = j
    · subst hj
      rw [List.getElem?_set_self hl] at h
      cases h
      rw [hv]
      exact r
    · rw [List.getElem?_set_ne hj] at h
      exact (c.en.slot j z h).upd fun hz e => hj (c.en.apart i j y z p hi h hy hz hv e)
  · have g : ∀ {j : Nat} {z : EV}, (ρ.set i x)[j]? = some z → z.isOwn = true → ∃ z', ρ[j]? = some z' ∧ z'.isOwn = true := fun {j z} h hz => by
      by_cases hj : i = j
      · subst hj; exact ⟨y, hi, hy⟩
      · rw [List.getElem?_set_ne hj] at h; exact ⟨z, h, hz⟩
    obtain ⟨a, a1, a2⟩ := g h1 h3
    obtain ⟨b, b1, b2⟩ := g h2 h4
    exact c.en.apart j k a b q a1 b1 a2 b2 h5 h6
  · obtain ⟨q1, q2, q3⟩ := c.en.owns q hq
    refine ⟨?_, q2, q3⟩
    unfold L2.upd
    split
    · simp
    · exact q1
end

/-! ### statements -/
def sNext : Stm := fun ρ s => .nx ρ s
def sSeq (a b : Stm) : Stm := fun ρ s => (a ρ s).bind b
def sExpr (e : Cmp W) : Stm := fun ρ s => ebS (e ρ s) ρ fun _ ρ s => .nx ρ s
def sSet (i : Nat) (e : Cmp W) : Stm := fun ρ s => ebS (e ρ s) ρ fun x ρ s => .nx (ρ.set i (.w x)) s
def sSetO (i : Nat) (e : Cmp (List W)) : Stm := fun ρ s => ebS (e ρ s) ρ fun x ρ s => .nx (ρ.set i (.own x)) s
def sSetD (i : Nat) (e : Cmp (List (Key × W))) : Stm := fun ρ s => ebS (e ρ s) ρ fun x ρ s => .nx (ρ.set i (.ownD x)) s
def sIf (t : Cmp Bool) (a b : Stm) : Stm := fun ρ s => ebS (t ρ s) ρ fun x ρ s => if x = true then a ρ s else b ρ s
def sRet (e : Cmp W) : Stm := fun ρ s => ebS (e ρ s) ρ fun x _ s => .ret (.w x) s
def sRetL (e : Cmp (List W)) : Stm := fun ρ s => ebS (e ρ s) ρ fun x _ s => .ret (.own x) s
def sRetN : Stm := fun _ s => .ret (.w (.d .non)) s
/-- an own list, an own dict handed back -/
def sRetO (i : Nat) : Stm := fun ρ s => match ρ[i]? with | some (.own l) => .ret (.own l) s | some (.ownD l) => .ret (.ownD l) s | _ => .no
def sBreak : Stm := fun ρ s => .brk ρ s
def sCont : Stm := fun ρ s => .cnt ρ s
/-- found.append(e), found an own list -/
def sApp (i : Nat) (e : Cmp W) : Stm := fun ρ s => match ρ[i]? with
  | some (.own l) => ebS (e ρ s) ρ fun x ρ s => if l.length < 16777216 then .nx (ρ.set i (.own (l ++ [x]))) s else .no
  | _ => .no
/-- an own list, an own dict is data from here on -/
def sFrz (i : Nat) (b : Stm) : Stm := fun ρ s => match ρ[i]? with
  | some (.own l) => (match allData l with | some ds => b (ρ.set i (.w (.d (.lst ds)))) s | none => .no)
  | _ => .no
abbrev Tgt := W → Rho → Option Rho
def tgName (i : Nat) : Tgt := fun x ρ => some (ρ.set i (.w x))
def tgNil : List W → Rho → Option Rho | [], ρ => some ρ | _ :: _, _ => none
def tgCons (t : Tgt) (u : List W → Rho → Option Rho) : List W → Rho → Option Rho | x :: r, ρ => (t x ρ).bind (u r) | [], _ => none
def tgTup (n : Nat) (u : List W → Rho → Option Rho) : Tgt := fun x ρ => match asTup x with | some l => if l.length = n then u (wD l) ρ else none | none => none
def sSetT (t : Tgt) (e : Cmp W) : Stm := fun ρ s => ebS (e ρ s) ρ fun x ρ s => match t x ρ with | some ρ' => .nx ρ' s | none => .no
def forK (k : Stm) : RS → RS
  | .nx ρ s => k ρ s
  | .cnt ρ s => k ρ s
  | .brk ρ s => .nx ρ s
  | .ret v s => .ret v s
  | .exc c x ρ s => .exc c x ρ s
  | .no => .no
def forE (t : Tgt) (b : Stm) : List W → Stm
  | [], ρ, s => .nx ρ s
  | x :: r, ρ, s => match t x ρ with
    | none => .no
    | some ρ1 => forK (forE t b r) (b ρ1 s)
def sFor (c : Cmp (List W)) (t : Tgt) (b : Stm) : Stm := fun ρ s => ebS (c ρ s) ρ fun l ρ s => forE t b l ρ s

/-- what a context must have -/
structure XOk (X : Cx) (Wx : WX) : Prop where
  tk : Takes X Wx
  po : PassesOwn (model X.prog X.w) X.A X.env X.xe
  nd : X.N.Nodup

/-! targets -/
def Gof (K : PySem.W.Frag) (cl : Str → Option Addr) (t : Tgt) (sl : List Nat) : TG := fun v σ H Q => ∃ H0 m ow s ρ w ρ', Ctx K cl H0 H m ow s σ ρ ∧ RepW K cl H0 m v w ∧ t w ρ = some ρ' ∧
  ∀ σ', Ctx K cl H0 H m ow s σ' ρ' → σ'.length = σ.length → (∀ j, j ∉ sl → σ'[j]? = σ[j]?) → Q σ' H
def Gsof (K : PySem.W.Frag) (cl : Str → Option Addr) (t : List W → Rho → Option Rho) (sl : List Nat) : TGs := fun v σ H Q => ∃ H0 m ow s ρ w ρ', Ctx K cl H0 H m ow s σ ρ ∧ RepWs K cl H0 m v w ∧ t w ρ = some ρ' ∧
  ∀ σ', Ctx K cl H0 H m ow s σ' ρ' → σ'.length = σ.length → (∀ j, j ∉ sl → σ'[j]? = σ[j]?) → Q σ' H
def JG (cl : Str → Option Addr) (X : Cx) (tg : Expr) (t : Tgt) (sl : List Nat) : Prop := PG X tg (Gof X.K cl t sl)
def JGs (cl : Str → Option Addr) (X : Cx) (tg : List Expr) (t : List W → Rho → Option Rho) (sl : List Nat) : Prop := PGs X tg (Gsof X.K cl t sl)
theorem PG.weaken {X : Cx} {e : Expr} {t t' : TG} (h : PG X e t) (w : ∀ v σ H Q, t' v σ H Q → t v σ H Q) : PG X e t' := ⟨fun pins s σ H v u Q I r q => h.run pins s σ H v u Q I r (w v σ H Q q)⟩
theorem PGs.weaken {X : Cx} {e : List Expr} {t t' : TGs} (h : PGs X e t) (w : ∀ v σ H Q, t' v σ H Q → t v σ H Q) : PGs X e t' := ⟨fun pins s σ H v u Q I r q => h.run pins s σ H v u Q I r (w v σ H Q q)⟩
section
variable {X : Cx} {cl : Str → Option Addr} {Wx : WX} {e c : Expr} {es : List Expr} {st : Stmt} {sts sts' : List Stmt} {pos : Pos} {ea : Cmp W} {el : Cmp (List W)} {ed : Cmp (List (Key × W))} {et : Cmp Bool} {a b : Stm} {t : Tgt} {u : List W → Rho → Option Rho} {sl sl' : List Nat}
theorem jg_name (i : Nat) {x : Str} (nd : X.N.Nodup) (hN : X.N[i]? = some x := by rfl) (hl : L2.Loc X.env.scope x := by first | exact Or.inl rfl | exact Or.inr rfl) (hf : X.fn x = true ∨ List.lookup x X.env.scope.names = some NameKind.local := by first | exact Or.inl rfl | exact Or.inr rfl) :
    JG cl X (.Name x pos) (tgName i) [i] := PG.weaken (pg_name nd hN hl hf) fun v σ H Q ⟨H0, m, ow, s, ρ, w, ρ', cx, r, q, k⟩ => by
  cases q
  exact k _ (cx.setW r i) (List.length_set ..) fun j hj => by rw [List.getElem?_set_ne (fun z => hj (by rw [z]; exact List.mem_singleton.mpr rfl))]
theorem jgs_nil : JGs cl X [] tgNil [] := PGs.weaken pgs_nil fun v σ H Q ⟨H0, m, ow, s, ρ, w, ρ', cx, r, q, k⟩ => by
  cases r with
  | nil => cases q; exact ⟨rfl, k σ cx rfl fun _ _ => rfl⟩
  | cons _ _ => cases q
theorem jgs_cons (h : JG cl X e t sl) (h' : JGs cl X es u sl') (hs : List.map (fun x => x.snd) (assignEach (e :: es) X.env) = assign e X.env :: List.map (fun x => x.snd) (assignEach es X.env) := by rfl) : JGs cl X (e :: es) (tgCons t u) (sl ++ sl') :=
  PGs.weaken (pgs_cons h h' hs) fun v σ H Q ⟨H0, m, ow, s, ρ, w, ρ', cx, r, q, k⟩ => by
    cases r with
    | nil => cases q
    | @cons v x vs xs r1 r2 =>
      have q : (t x ρ).bind (u xs) = some ρ' := q
      cases q1 : t x ρ with
      | none => rw [q1] at q; cases q
      | some ρ1 =>
        rw [q1] at q
        refine ⟨v, vs, rfl, H0, m, ow, s, ρ, x, ρ1, cx, r1, q1, fun σ1 c1 l1 k1 => ⟨H0, m, ow, s, ρ1, xs, ρ', c1, r2, q, fun σ2 c2 l2 k2 => k σ2 c2 (l2.trans l1) fun j hj => ?_⟩⟩
        rw [List.mem_append, not_or] at hj
        rw [k2 j hj.2, k1 j hj.1]
theorem jg_tup {kk : Nat} (n : Nat) (hc : X.calm = true) (h : JGs cl X es u sl) (h1 : (assignEach es X.env).length = n := by rfl) (h2 : List.findIdx? (fun x => x.fst) (assignEach es X.env) = none := by rfl) : JG cl X (.Tuple es kk pos) (tgTup n u) sl :=
  PG.weaken (pg_tup hc h h1 h2) fun v σ H Q ⟨H0, m, ow, s, ρ, w, ρ', cx, r, q, k⟩ => by
    unfold tgTup at q
    cases q1 : asTup w with
    | none => rw [q1] at q; cases q
    | some l =>
      rw [q1] at q
      have q : (if l.length = n then u (wD l) ρ else none) = some ρ' := q
      by_cases hl : l.length = n
      · rw [if_pos hl] at q
        obtain ⟨p, vs, e1, e2, e3⟩ := asTup_ok r q1
        exact ⟨p, vs, e1, sqT_of (cx.st.sub _ _ e2), by rw [e3.length]; exact hl, H0, m, ow, s, ρ, wD l, ρ', cx, e3.ws, q, k⟩
      · rw [if_neg hl] at q; cases q

/-! blocks -/
theorem jb_nil : JB cl Wx X [] sNext := PSs.weaken pss_nil fun E σ H ⟨H0, m, ow, s, ρ, cx, h⟩ => RunS.nxt h cx
theorem jb_cons (h : JS cl Wx X st a) (h' : JB cl Wx X sts b) : JB cl Wx X (st :: sts) (sSeq a b) :=
  PSs.weaken (pss_cons h h') fun E σ H ⟨H0, m, ow, s, ρ, cx, h⟩ => ⟨H0, m, ow, s, ρ, cx, RunS.seq h fun ρ' s' σ' H0' H' m' ow' g c h2 => ⟨H0', m', ow', s', ρ', c, h2⟩⟩
theorem jb_one (h : JS cl Wx X st a) : JB cl Wx X [st] a :=
  PSs.weaken (pss_cons h pss_nil) fun E σ H ⟨H0, m, ow, s, ρ, cx, h⟩ => ⟨H0, m, ow, s, ρ, cx, h⟩
theorem js_pass : JS cl Wx X (.Pass pos) sNext := PS.weaken ps_pass fun E σ H ⟨H0, m, ow, s, ρ, cx, h⟩ => RunS.nxt h cx
theorem js_break : JS cl Wx X (.Break pos) sBreak := PS.weaken ps_break fun E σ H ⟨H0, m, ow, s, ρ, cx, h⟩ => h _ _ _ _ _ Go.refl cx
theorem js_cont : JS cl Wx X (.Continue pos) sCont := PS.weaken ps_continue fun E σ H ⟨H0, m, ow, s, ρ, cx, h⟩ => h _ _ _ _ _ Go.refl cx
theorem js_expr (h : JE cl Wx X e ea) (hs : swapsWith e none pos.line X.env = pure false := by rfl) : JS cl Wx X (.Expr e pos) (sExpr ea) :=
  PS.weaken (ps_expr h hs) fun E σ H ⟨H0, m, ow, s, ρ, cx, h⟩ => ⟨H0, m, ow, s, ρ, cx, RunS.ofE cx h fun x s1 v H1 H1' m1 g c rr h2 => RunS.nxt h2 c⟩
theorem js_set (i : Nat) {x : Str} {pos' : Pos} (nd : X.N.Nodup) (h : JE cl Wx X e ea) (hN : X.N[i]? = some x := by rfl) (hl : L2.Loc X.env.scope x := by first | exact Or.inl rfl | exact Or.inr rfl)
    (hs : swapsWith e (some (.Name x pos')) pos.line X.env = pure false := by rfl) (hf : X.fn x = true ∨ List.lookup x X.env.scope.names = some NameKind.local := by first | exact Or.inl rfl | exact Or.inr rfl) :
    JS cl Wx X (.Assign [.Name x pos'] e pos) (sSet i ea) :=
  PS.weaken (ps_set nd hN hl h hs hf) fun E σ H ⟨H0, m, ow, s, ρ, cx, h⟩ => ⟨H0, m, ow, s, ρ, cx, RunS.ofE cx h fun x s1 v H1 H1' m1 g c rr h2 => RunS.nxt h2 (c.setW rr i)⟩
theorem ctx_own {K : PySem.W.Frag} {H0 H H1 H1' : Hp} {m m1 ow : List Addr} {s s1 : S} {σ : L2.St} {ρ : Rho} {p : Addr} {x : EV} (cx : Ctx K cl H0 H m ow s σ ρ) (c : Ctx K cl H1 H1' m1 ow s1 σ ρ) (hx : x.isOwn = true) (hn : H p = none) (h1 : H1' p ≠ none) (h0 : H1 p = none) (hm : p ∉ m1) (i : Nat)
    (r : SlotR K cl H1 H1' m1 (p :: ow) (some (some (.ref p))) x) : Ctx K cl H1 H1' m1 (p :: ow) s1 (σ.set i (some (.ref p))) (ρ.set i x) :=
  ⟨c.st, c.en.setOwn hx h1 h0 hm (fun z => (cx.en.owns p z).1 hn) i r⟩
theorem go_own {H0 H H1 H1' : Hp} {m m1 ow : List Addr} {p : Addr} (g : GoE H0 H m H1 H1' m1) (hn : H p = none) : Go H0 H m ow H1 H1' m1 (p :: ow) :=
  ⟨g.s0, g.pre, fun a o h h1 _ => g.fr a o h h1 (by simp), g.dom, fun a h h1 _ h3 => g.n0 a h h1 (by simp) h3, fun a h => by
    rcases g.nm a h with q | q | q
    · exact .inl q
    · cases q
    · exact .inr (.inr q), fun a h => by
    rcases List.mem_cons.mp h with rfl | h
    · exact .inr hn
    · exact .inl h⟩
theorem asg_own {t : TE} {i : Nat} {σ : L2.St} {H : Hp} {E : Ends} (ht : t = Tof X.K cl (rrL X.K cl) Wx el) (h : Sof X.K cl Wx (sSetO i el) E σ H) : tAsg t (gName i) E σ H := by
  subst ht
  obtain ⟨H0, m, ow, s, ρ, cx, h⟩ := h
  refine ⟨H0, m, ow, s, ρ, cx, ?_⟩
  have h : RunS X.K cl Wx H0 H m ow E (ebS (el ρ s) ρ fun x ρ s => .nx (ρ.set i (.own x)) s) := h
  cases e1 : el ρ s with
  | no => rw [e1] at h; exact h
  | exc c x s' =>
    rw [e1] at h
    exact fun cv dd H0' H' m' g st e => h cv dd σ H0' H' m' ow g.lift (cx.go g st) e
  | ok l s' =>
    rw [e1] at h
    intro v H0' H' m' g st ⟨p, vs, h1, h2, h3, h4, h5, h6⟩
    subst h1
    exact h _ _ _ _ _ (go_own g h2) (ctx_own cx (cx.go g st) rfl h2 (by rw [h3]; simp) h4 h5 i ⟨p, vs, rfl, List.mem_cons_self, h3, h6⟩)
theorem js_setO (i : Nat) {x : Str} {pos' : Pos} (nd : X.N.Nodup) (h : JL cl Wx X e el) (hN : X.N[i]? = some x := by rfl) (hl : L2.Loc X.env.scope x := by first | exact Or.inl rfl | exact Or.inr rfl)
    (hs : swapsWith e (some (.Name x pos')) pos.line X.env = pure false := by rfl) (hf : X.fn x = true ∨ List.lookup x X.env.scope.names = some NameKind.local := by first | exact Or.inl rfl | exact Or.inr rfl) :
    JS cl Wx X (.Assign [.Name x pos'] e pos) (sSetO i el) := PS.weaken (ps_set nd hN hl h hs hf) fun E σ H h => asg_own rfl h
theorem js_setD (i : Nat) {x : Str} {pos' : Pos} (nd : X.N.Nodup) (h : JD cl Wx X e ed) (hN : X.N[i]? = some x := by rfl) (hl : L2.Loc X.env.scope x := by first | exact Or.inl rfl | exact Or.inr rfl)
    (hs : swapsWith e (some (.Name x pos')) pos.line X.env = pure false := by rfl) (hf : X.fn x = true ∨ List.lookup x X.env.scope.names = some NameKind.local := by first | exact Or.inl rfl | exact Or.inr rfl) :
    JS cl Wx X (.Assign [.Name x pos'] e pos) (sSetD i ed) := PS.weaken (ps_set nd hN hl h hs hf) fun E σ H ⟨H0, m, ow, s, ρ, cx, h⟩ => by
  refine ⟨H0, m, ow, s, ρ, cx, ?_⟩
  have h : RunS X.K cl Wx H0 H m ow E (ebS (ed ρ s) ρ fun x ρ s => .nx (ρ.set i (.ownD x)) s) := h
  cases e1 : ed ρ s with
  | no => rw [e1] at h; exact h
  | exc c x s' =>
    rw [e1] at h
    exact fun cv dd H0' H' m' g st e => h cv dd σ H0' H' m' ow g.lift (cx.go g st) e
  | ok l s' =>
    rw [e1] at h
    intro v H0' H' m' g st ⟨p, vs, h1, h2, h3, h4, h5, h6⟩
    subst h1
    exact h _ _ _ _ _ (go_own g h2) (ctx_own cx (cx.go g st) rfl h2 (by rw [h3]; simp) h4 h5 i ⟨p, vs, rfl, List.mem_cons_self, h3, h6⟩)
theorem js_setT {tg : Expr} (hg : JG cl X tg t sl) (h : JE cl Wx X e ea) (h1 : swapsWithSole [tg] e pos.line X.env = pure false := by rfl) (h2 : swappedStores [tg] e X.env = pure none := by rfl) (h3 : List.map (fun x => x.snd) (assignEach [tg] X.env) = [assign tg X.env] := by rfl) :
    JS cl Wx X (.Assign [tg] e pos) (sSetT t ea) :=
  PS.weaken (ps_asg h hg h1 h2 h3) fun E σ H ⟨H0, m, ow, s, ρ, cx, h⟩ => ⟨H0, m, ow, s, ρ, cx, RunS.ofE cx h fun x s1 v H1 H1' m1 g c rr h2 => by
    have h2 : RunS X.K cl Wx H1 H1' m1 ow E (match t x ρ with | some ρ' => .nx ρ' s1 | none => .no) := h2
    cases q : t x ρ with
    | none => rw [q] at h2; exact h2.elim
    | some ρ' =>
      rw [q] at h2
      exact ⟨H1, m1, ow, s1, ρ, x, ρ', c, rr, q, fun σ' c' _ _ => RunS.nxt h2 c'⟩⟩
theorem js_if (ht : JT cl Wx X c et) (ha : JB cl Wx X sts a) (hb : JB cl Wx X sts' b) : JS cl Wx X (.If c sts sts' pos) (sIf et a b) :=
  PS.weaken (ps_if ht ha hb) fun E σ H ⟨H0, m, ow, s, ρ, cx, h⟩ => ⟨H0, m, ow, s, ρ, cx, RunS.ofE cx h fun x s1 v H1 H1' m1 g c rr h2 => by
    have rr : v = x := rr
    subst rr
    cases v with
    | true => exact iteT ⟨H1, m1, ow, s1, ρ, c, h2⟩
    | false => exact iteF ⟨H1, m1, ow, s1, ρ, c, h2⟩⟩
theorem js_ret (h : JE cl Wx X e ea) : JS cl Wx X (.Return (some e) pos) (sRet ea) :=
  PS.weaken (ps_ret h) fun E σ H ⟨H0, m, ow, s, ρ, cx, h⟩ => ⟨H0, m, ow, s, ρ, cx, RunS.ofE cx h fun x s1 v H1 H1' m1 g c rr h2 => h2 _ _ _ _ _ Go.refl c.st rr⟩
theorem js_retL (h : JL cl Wx X e el) : JS cl Wx X (.Return (some e) pos) (sRetL el) :=
  PS.weaken (ps_ret h) fun E σ H ⟨H0, m, ow, s, ρ, cx, h⟩ => ⟨H0, m, ow, s, ρ, cx, by
    have h : RunS X.K cl Wx H0 H m ow E (ebS (el ρ s) ρ fun x _ s => .ret (.own x) s) := h
    cases e1 : el ρ s with
    | no => rw [e1] at h; exact h
    | exc c x s' =>
      rw [e1] at h
      exact fun cv dd H0' H' m' g st e => h cv dd σ H0' H' m' ow g.lift (cx.go g st) e
    | ok l s' =>
      rw [e1] at h
      intro v H0' H' m' g st ⟨p, vs, h1, h2, h3⟩
      exact h v H0' H' m' ow g.lift st ⟨p, vs, h1, .inr h2, h3⟩⟩
theorem js_retN : JS cl Wx X (.Return none pos) sRetN := PS.weaken ps_retN fun E σ H ⟨H0, m, ow, s, ρ, cx, h⟩ => h _ _ _ _ _ Go.refl cx.st Rep.non
theorem js_retO (i : Nat) {x : Str} {pos' : Pos} (hN : X.N[i]? = some x := by rfl) (hv : Vis X.env.scope x := by first | exact Or.inl rfl | exact Or.inr (Or.inl rfl) | exact Or.inr (Or.inr rfl)) (hd : (x == ("__debug__" : Str)) = false := by decide)
    (hcd : (x == ("__classdict__" : Str)) = false := by decide) : JS cl Wx X (.Return (some (.Name x pos')) pos) (sRetO i) :=
  PS.weaken (ps_ret (pe_var hN hv hd hcd)) fun E σ H ⟨H0, m, ow, s, ρ, cx, h⟩ => by
    unfold sRetO at h
    split at h
    · rename_i l e
      obtain ⟨p, vs, h1, h2, h3, h4⟩ := cx.en.slot i _ e
      obtain ⟨o1, o2, o3⟩ := cx.en.owns p h2
      exact ⟨.ref p, h1, h _ _ _ _ _ Go.refl cx.st ⟨p, vs, rfl, .inl h2, h3, o2, o3, h4⟩⟩
    · rename_i l e
      obtain ⟨p, vs, h1, h2, h3, h4⟩ := cx.en.slot i _ e
      obtain ⟨o1, o2, o3⟩ := cx.en.owns p h2
      exact ⟨.ref p, h1, h _ _ _ _ _ Go.refl cx.st ⟨p, vs, rfl, .inl h2, h3, o2, o3, h4⟩⟩
    · exact h.elim
theorem size_lt {n : Nat} (h : n < 16777216) : n < sizeLine := by rw [sizeLine_eq]; exact h
theorem js_app (i : Nat) {x : Str} {p1 p2 p3 : Pos} (h : JE cl Wx X e ea) (hN : X.N[i]? = some x := by rfl) (hv : Vis X.env.scope x := by first | exact Or.inl rfl | exact Or.inr (Or.inl rfl) | exact Or.inr (Or.inr rfl)) (hd : (x == ("__debug__" : Str)) = false := by decide)
    (hcd : (x == ("__classdict__" : Str)) = false := by decide)
    (q1 : attributeBase (.Name x p1) "append" X.env (eval (.Name x p1) X.env) = eval (.Name x p1) X.env := by rfl)
    (q2 : ((((backTo p3 (starEach (e :: []) X.env)).all fun x => !x.fst) && (backToKw p3 (keywordEach [] X.env)).all fun x => x.fst.isSome) && decide (((e :: []).length + ([] : List Keyword).length + if ([] : List Keyword).isEmpty = true then 0 else 1) < 30)) = true := by rfl)
    (q3 : (p2.endLine == p3.line) = true := by rfl) (q4 : starEach (e :: []) X.env = (false, eval e X.env) :: starEach [] X.env := by rfl) (q5 : ((backTo p3 (starEach [] X.env)).any fun x => x.fst) = false := by rfl)
    (hs : swapsWith (.Call (.Attribute (.Name x p1) "append" p2) [e] [] p3) none pos.line X.env = pure false := by rfl) :
    JS cl Wx X (.Expr (.Call (.Attribute (.Name x p1) "append" p2) [e] [] p3) pos) (sApp i ea) :=
  PS.weaken (ps_expr (pe_bm PySem.F.plainAttrs_list PySem.F.slot_list_append PySem.F.type_list_append mt_append (pe_var hN hv hd hcd) (pa_cons h pa_nil q4) q1 q2 q3 q4 q5) hs) fun E σ H ⟨H0, m, ow, s, ρ, cx, h⟩ => by
    unfold sApp at h
    split at h
    · rename_i l e0
      obtain ⟨p, vs, h1, h2, h3, h4⟩ := cx.en.slot i _ e0
      refine ⟨.ref p, h1, .inl ⟨rfl, vs, .inl (.inl h3)⟩, H0, m, ow, s, ρ, cx, RunS.ofE cx h fun x s1 v H1 H1' m1 g c rr h5 => ?_⟩
      obtain ⟨p', us, k1, k2, k3, k4⟩ := c.en.slot i _ e0
      rw [h1] at k1
      cases k1
      by_cases hl : l.length < 16777216
      · rw [if_pos hl] at h5
        refine ⟨p, us, v, rfl, rfl, k3, size_lt (by rw [k4.length]; exact hl), ?_⟩
        exact h5 _ _ _ _ _ (Go.updOwn k2) (c.updOwn e0 rfl h1 k2 rfl ⟨p, _, rfl, k2, upd_same, k4.append (.cons rr .nil)⟩)
      · rw [if_neg hl] at h5; exact h5.elim
    · exact h.elim
end
end TG

set_option Elab.async false
set_option linter.all false
set_option maxRecDepth 100000
set_option maxHeartbeats 2000000
namespace TG
open PySem L2 PyProof.Rows

/-! ### what is walked -/
structure Walks (K : PySem.W.Frag) (cl : Str → Option Addr) (J : It) (l : List W) (Ha : Hp) (ma : List Addr) : Prop where
  stop : ∀ (i : Nat) H0 H m s, Same Ha H0 → ma <+: m → Stt K cl H0 H m s → l.length ≤ i → J.stop i H
  go : ∀ (i : Nat) H0 H m s, Same Ha H0 → ma <+: m → Stt K cl H0 H m s → i < l.length → J.go i H
  yld : ∀ (i : Nat) H0 H m s x H', Same Ha H0 → ma <+: m → Stt K cl H0 H m s → i < l.length → J.yld i H x H' → ∃ H0', GoE H0 H m H0' H' m ∧ Stt K cl H0' H' m s ∧ ∃ w, l[i]? = some w ∧ RepW K cl H0' m x w
def rrI (K : PySem.W.Frag) (cl : Str → Option Addr) : RRT It (List W) := fun _ H0 _ m J l => Walks K cl J l H0 m
instance {K cl} : Early (rrI K cl) := ⟨fun _ h => h⟩
def JI (cl : Str → Option Addr) (Wx : WX) (X : Cx) (tg it : Expr) (c : Cmp (List W)) : Prop := PI X tg it (Tof X.K cl (rrI X.K cl) Wx c)
theorem PI.weaken {X : Cx} {tg it : Expr} {w w' : TI} (h : PI X tg it w) (q : ∀ σ H R, w' σ H R → w σ H R) : PI X tg it w' := ⟨fun pins s σ H R I z => h.run pins s σ H R I (q σ H R z)⟩
theorem PI.or {X : Cx} {tg it : Expr} {w w' : TI} (h : PI X tg it w) (h' : PI X tg it w') : PI X tg it (fun σ H R => w σ H R ∨ w' σ H R) := ⟨fun pins s σ H R I z => by
  rcases z with z | z
  · exact h.run pins s σ H R I z
  · exact h'.run pins s σ H R I z⟩
/-- data that are walked -/
def seqD : W → Option (List D) | .d (.lst l) => some l | .d (.tup l) => some l | _ => none
def eSeq (e : Cmp W) : Cmp (List W) := fun ρ s => (e ρ s).bind fun x s1 => match seqD x with | some l => .ok (wD l) s1 | none => .no
def rng1 (x : List W) (s1 : S) : Res (List W) := match x with
  | [x] => (match asInt x with | some n => if n < 1000000000 ∧ -1000000000 < n then .ok ((List.range n.toNat).map fun i : Nat => W.d (.int (i : Int))) s1 else .no | none => .no)
  | _ => .no
def rng2 (x : List W) (s1 : S) : Res (List W) := match x with
  | [x, y] => (match asInt x, asInt y with | some lo, some n => if lo < 1000000000 ∧ -1000000000 < lo ∧ n < 1000000000 ∧ -1000000000 < n then .ok ((List.range (n - lo).toNat).map fun i : Nat => W.d (.int (lo + (i : Int)))) s1 else .no | _, _ => .no)
  | _ => .no
def eRng1 (a : Cmp (List W)) : Cmp (List W) := fun ρ s => (a ρ s).bind rng1
def eRng2 (a : Cmp (List W)) : Cmp (List W) := fun ρ s => (a ρ s).bind rng2

section
variable {K : PySem.W.Frag} {cl : Str → Option Addr} {H0 H H1 H1' H0' H' : Hp} {m m1 m' ow ow1 : List Addr} {s s1 : S} {σ : L2.St} {ρ : Rho} {Wx : WX}
theorem walk_list {p : Addr} {vs : List V} {l : List D} (h : H0 p = some (.lst vs)) (r : Reps K cl H0 vs l) : Walks K cl (Itl K p) (wD l) H0 m := by
  have at' : ∀ {H1 H2 : Hp} {m2 : List Addr} {s2 : S}, Same H0 H1 → Stt K cl H1 H2 m2 s2 → H2 p = some (.lst vs) := fun e st => st.sub _ _ (e _ _ h)
  have hl : (wD l).length = vs.length := by rw [r.length]; simp [wD]
  refine ⟨fun i H1 H2 m2 s2 e _ st hi => ⟨vs, sqL_of (at' e st), by omega⟩, fun i H1 H2 m2 s2 e _ st hi => ⟨vs, vs[i], sqL_of (at' e st), by simp [show i < vs.length by omega]⟩, fun i H1 H2 m2 s2 x H3 e _ st hi y => ?_⟩
  obtain ⟨rfl, y⟩ := y
  have q := y vs (sqL_of (at' e st))
  refine ⟨H1, Go.refl, st, ?_⟩
  have rw' := (r.mono e).ws (m := m2)
  have : i < (wD l).length := hi
  obtain ⟨v, e1, e2⟩ := rw'.get (i := i) (x := (wD l)[i]) (by simp [this])
  rw [q] at e1
  cases e1
  exact ⟨_, by simp [this], e2⟩
theorem walk_tup {p : Addr} {vs : List V} {l : List D} (h : H0 p = some (.tup vs)) (r : Reps K cl H0 vs l) : Walks K cl (Itt K p) (wD l) H0 m := by
  have at' : ∀ {H1 H2 : Hp} {m2 : List Addr} {s2 : S}, Same H0 H1 → Stt K cl H1 H2 m2 s2 → H2 p = some (.tup vs) := fun e st => st.sub _ _ (e _ _ h)
  have hl : (wD l).length = vs.length := by rw [r.length]; simp [wD]
  refine ⟨fun i H1 H2 m2 s2 e _ st hi => ⟨vs, sqT_of (at' e st), by omega⟩, fun i H1 H2 m2 s2 e _ st hi => ⟨vs, vs[i], sqT_of (at' e st), by simp [show i < vs.length by omega]⟩, fun i H1 H2 m2 s2 x H3 e _ st hi y => ?_⟩
  obtain ⟨rfl, y⟩ := y
  have q := y vs (sqT_of (at' e st))
  refine ⟨H1, Go.refl, st, ?_⟩
  have rw' := (r.mono e).ws (m := m2)
  have : i < (wD l).length := hi
  obtain ⟨v, e1, e2⟩ := rw'.get (i := i) (x := (wD l)[i]) (by simp [this])
  rw [q] at e1
  cases e1
  exact ⟨_, by simp [this], e2⟩
theorem walk_rng (lo : Int) (n : Nat) : Walks K cl (Itr lo n) ((List.range n).map fun i : Nat => W.d (.int (lo + (i : Int)))) H0 m := by
  refine ⟨fun i H1 H2 m2 s2 e _ st hi => by (show n ≤ i); simpa using hi, fun i H1 H2 m2 s2 e _ st hi => by (show i < n); simpa using hi, fun i H1 H2 m2 s2 x H3 e _ st hi y => ?_⟩
  obtain ⟨rfl, rfl⟩ := y
  have hi : i < n := by simpa using hi
  exact ⟨H1, Go.refl, st, W.d (.int (lo + (i : Int))), by simp [hi], Rep.int⟩
theorem Tof.none {β α : Type} {RR : RRT β α} {e : Cmp α} {Q : β → Hp → Prop} (cx : Ctx K cl H0 H m ow s σ ρ) (h : RunE K cl RR Wx H0 H m σ Q (e ρ s)) : Tof K cl RR Wx e σ H Q := ⟨H0, m, ow, s, ρ, cx, h⟩
end
section
variable {X : Cx} {cl : Str → Option Addr} {Wx : WX} {tg e c elt : Expr} {es : List Expr} {st : Stmt} {sts sts' : List Stmt} {pos : Pos} {ea : Cmp W} {el ec : Cmp (List W)} {et : Cmp Bool} {a b : Stm} {t : Tgt} {sl sl' : List Nat}
theorem ji_seq (h : JE cl Wx X e ea) : JI cl Wx X tg e (eSeq ea) :=
  PI.weaken (PI.or (pi_list h) (pi_tup h)) fun σ H R ⟨H0, m, ow, s, ρ, cx, q⟩ => by
    have q : RunE X.K cl (rrI X.K cl) Wx H0 H m σ R ((ea ρ s).bind fun x s1 => match seqD x with | some l => .ok (wD l) s1 | none => .no) := q
    cases e0 : ea ρ s with
    | no => rw [e0] at q; exact q.elim
    | exc c x s' => exact .inl ⟨H0, m, ow, s, ρ, cx, by rw [e0] at q ⊢; exact q⟩
    | ok w s' =>
      rw [e0] at q
      have q : RunE X.K cl (rrI X.K cl) Wx H0 H m σ R (match seqD w with | some l => .ok (wD l) s' | none => .no) := q
      unfold seqD at q
      split at q
      · rename_i l e1
        split at e1
        · cases e1
          refine .inl ⟨H0, m, ow, s, ρ, cx, ?_⟩
          rw [e0]
          intro v H0' H' m' g st rr
          cases rr with
          | lst h1 h2 => exact ⟨_, rfl, ⟨_, sqL_of (st.sub _ _ h1)⟩, q _ H0' H' m' g st (walk_list h1 h2)⟩
        · cases e1
          refine .inr ⟨H0, m, ow, s, ρ, cx, ?_⟩
          rw [e0]
          intro v H0' H' m' g st rr
          cases rr with
          | tup h1 h2 => exact ⟨_, rfl, ⟨_, sqT_of (st.sub _ _ h1)⟩, q _ H0' H' m' g st (walk_tup h1 h2)⟩
        · cases e1
      · exact q.elim
theorem ji_rng1 {p : Pos} (hg : Gl X (Str.ofString "range")) (hm : X.mg (Str.ofString "range") = none) (h : JA cl Wx X [e] el) (hs : starEach [e] X.env = [(false, eval e X.env)] := by rfl) : JI cl Wx X tg (.Call (.Name (Str.ofString "range") p) [e] [] pos) (eRng1 el) :=
  PI.weaken (pi_range1 hg hm h hs) fun σ H R ⟨H0, m, ow, s, ρ, cx, q⟩ => ⟨H0, m, ow, s, ρ, cx, RunE.bind q fun x s1 v H1 H1' m1 g st rr h2 => by
    unfold rng1 at h2
    split at h2
    · split at h2
      · rename_i n e1
        split at h2
        · rename_i hn
          cases rr with
          | cons r1 r2 =>
            cases r2
            refine ⟨n, by rw [asInt_ok r1 e1], by rw [show ((2 : Int) ^ 62) = 4611686018427387904 by decide]; omega, by rw [show ((2 : Int) ^ 62) = 4611686018427387904 by decide]; omega, ?_⟩
            have := walk_rng (K := X.K) (cl := cl) (H0 := H1) (m := m1) 0 n.toNat
            simp only [Int.zero_add] at this
            exact h2 _ _ _ _ Go.refl st this
        · exact h2.elim
      · exact h2.elim
    · exact h2.elim⟩
theorem ji_rng2 {p : Pos} {e2 : Expr} (hg : Gl X (Str.ofString "range")) (hm : X.mg (Str.ofString "range") = none) (h : JA cl Wx X [e, e2] el) (hs : starEach [e, e2] X.env = [(false, eval e X.env), (false, eval e2 X.env)] := by rfl) (hs2 : starEach [e2] X.env = [(false, eval e2 X.env)] := by rfl) : JI cl Wx X tg (.Call (.Name (Str.ofString "range") p) [e, e2] [] pos) (eRng2 el) :=
  PI.weaken (pi_range2 hg hm h hs hs2) fun σ H R ⟨H0, m, ow, s, ρ, cx, q⟩ => ⟨H0, m, ow, s, ρ, cx, RunE.bind q fun x s1 v H1 H1' m1 g st rr h2 => by
    unfold rng2 at h2
    split at h2
    · split at h2
      · rename_i lo n e1 e2
        split at h2
        · rename_i hn
          cases rr with
          | cons r1 r2 =>
            cases r2 with
            | cons r2 r3 =>
              cases r3
              refine ⟨lo, n, by rw [asInt_ok r1 e1, asInt_ok r2 e2], by rw [show ((2 : Int) ^ 62) = 4611686018427387904 by decide]; omega, ?_⟩
              exact h2 _ _ _ _ Go.refl st (walk_rng lo (n - lo).toNat)
        · exact h2.elim
      · exact h2.elim
    · exact h2.elim⟩

/-! ### for -/
theorem js_for (ok : XOk X Wx) (hc : X.calm = true) (hi : JI cl Wx X tg e ec) (hg : JG cl X tg t sl) (hb : JB cl Wx X sts b) (hs : ∀ x, foldedSetIterable e X.env x = pure x := by exact fun _ => rfl) : JS cl Wx X (.For tg e sts [] pos) (sFor ec t b) :=
  PS.weaken (ps_for ok.po hc hi hg hb hs) fun E σ H ⟨H0, m, ow, s, ρ, cx, h⟩ => ⟨H0, m, ow, s, ρ, cx, RunS.ofE cx h fun l s1 J H1 H1' m1 g c wk h2 => by
    have h2 : RunS X.K cl Wx H1 H1' m1 ow E (forE t b l ρ s1) := h2
    refine ⟨fun i k σ' H' => k = l.length - i ∧ i ≤ l.length ∧ ∃ H0' m' ow' s' ρ', Same H1 H0' ∧ m1 <+: m' ∧ Ctx X.K cl H0' H' m' ow' s' σ' ρ' ∧ RunS X.K cl Wx H0' H' m' ow' E (forE t b (l.drop i) ρ' s'),
      ⟨l.length, by simp, Nat.zero_le _, H1, m1, ow, s1, ρ, Same.refl _, List.prefix_rfl, c, h2⟩, fun i k σ' H' hW => ?_⟩
    obtain ⟨rfl, hi, H0', m', ow', s', ρ', e1, e2, c', h3⟩ := hW
    by_cases hl : i < l.length
    · refine .inr ⟨wk.go i _ _ _ _ e1 e2 c'.st hl, fun σ2 H2 => i + 1 ≤ l.length ∧ ∃ H0' m' ow' s' ρ', Same H1 H0' ∧ m1 <+: m' ∧ Ctx X.K cl H0' H2 m' ow' s' σ2 ρ' ∧ RunS X.K cl Wx H0' H2 m' ow' E (forE t b (l.drop (i + 1)) ρ' s'), fun σ2 H2 q => ⟨l.length - (i + 1), by omega, rfl, q⟩, fun x H3 hy => ?_⟩
      obtain ⟨H0'', g3, st3, w, e3, r3⟩ := wk.yld i _ _ _ _ x H3 e1 e2 c'.st hl hy
      have ed : l.drop i = w :: l.drop (i + 1) := by
        rw [List.drop_eq_getElem_cons hl]
        have : l[i] = w := by rw [List.getElem?_eq_getElem hl] at e3; exact Option.some.inj e3
        rw [this]
      rw [ed] at h3
      have h4 := h3.shift (g3.lift (ow := ow'))
      have h4 : RunS X.K cl Wx H0'' H3 m' ow' E (match t w ρ' with
        | none => .no
        | some ρ1 => forK (forE t b (l.drop (i + 1))) (b ρ1 s')) := h4
      cases e5 : t w ρ' with
      | none => rw [e5] at h4; exact h4.elim
      | some ρ1 =>
        rw [e5] at h4
        refine ⟨H0'', m', ow', s', ρ', w, ρ1, c'.go g3 st3, r3, e5, fun σ2 c2 _ _ => ⟨H0'', m', ow', s', ρ1, c2, ?_⟩⟩
        have e1' : Same H1 H0'' := e1.trans g3.s0
        have h4 : RunS X.K cl Wx H0'' H3 m' ow' E (forK (forE t b (l.drop (i + 1))) (b ρ1 s')) := h4
        cases e6 : b ρ1 s' with
        | nx ρ2 s2 =>
          rw [e6] at h4
          have h4 : RunS X.K cl Wx H0'' H3 m' ow' E (forE t b (l.drop (i + 1)) ρ2 s2) := h4
          exact fun σ' H0' H' m' ow' g' c' => ⟨hl, H0', m', ow', s2, ρ2, e1'.trans g'.s0, e2.trans g'.pre, c', h4.shift g'⟩
        | cnt ρ2 s2 =>
          rw [e6] at h4
          have h4 : RunS X.K cl Wx H0'' H3 m' ow' E (forE t b (l.drop (i + 1)) ρ2 s2) := h4
          exact fun σ' H0' H' m' ow' g' c' => ⟨hl, H0', m', ow', s2, ρ2, e1'.trans g'.s0, e2.trans g'.pre, c', h4.shift g'⟩
        | brk ρ2 s2 => rw [e6] at h4; exact h4
        | ret v s2 => rw [e6] at h4; exact h4
        | exc c x ρ2 s2 => rw [e6] at h4; exact h4
        | no => rw [e6] at h4; exact h4
    · refine .inl ⟨wk.stop i _ _ _ _ e1 e2 c'.st (by omega), ?_⟩
      rw [List.drop_eq_nil_of_le (by omega)] at h3
      exact RunS.nxt h3 c'⟩

/-! ### [e for x in l if t] -/
def wipeR (ρ : Rho) : List Nat → Rho
  | [] => ρ
  | v :: vs => (wipeR ρ vs).set v .no
def lcM (t : Tgt) (tst : Cmp Bool) (e : Cmp W) (ρ : Rho) : List W → S → Res (List W)
  | [], s => .ok [] s
  | x :: r, s => match t x ρ with
    | none => .no
    | some ρ1 => match tst ρ1 s with
      | .ok true s1 => (match e ρ1 s1 with
        | .ok y s2 => (match lcM t tst e ρ r s2 with
          | .ok ys s3 => .ok (y :: ys) s3
          | _ => .no)
        | _ => .no)
      | .ok false s1 => lcM t tst e ρ r s1
      | _ => .no
def eLc (vs : List Nat) (c : Cmp (List W)) (t : Tgt) (tst : Cmp Bool) (e : Cmp W) : Cmp (List W) := fun ρ s => (c ρ s).bind fun l s1 => if l.length ≤ 16777216 then lcM t tst e (wipeR ρ vs) l s1 else .no
def eYes : Cmp Bool := fun _ s => .ok true s
/-- with what is made so far -/
def lcA (t : Tgt) (tst : Cmp Bool) (e : Cmp W) (ρ : Rho) : List W → List W → S → Res (List W)
  | acc, [], s => .ok acc s
  | acc, x :: r, s => match t x ρ with
    | none => .no
    | some ρ1 => match tst ρ1 s with
      | .ok true s1 => (match e ρ1 s1 with
        | .ok y s2 => lcA t tst e ρ (acc ++ [y]) r s2
        | _ => .no)
      | .ok false s1 => lcA t tst e ρ acc r s1
      | _ => .no
theorem lcA_eq (t : Tgt) (tst : Cmp Bool) (e : Cmp W) (ρ : Rho) : ∀ (l acc : List W) (s : S), lcA t tst e ρ acc l s = match lcM t tst e ρ l s with | .ok ys s' => .ok (acc ++ ys) s' | _ => .no
  | [], acc, s => by simp [lcA, lcM]
  | x :: r, acc, s => by
    unfold lcA lcM
    cases t x ρ with
    | none => rfl
    | some ρ1 =>
      dsimp only
      cases tst ρ1 s with
      | no => rfl
      | exc c x s => rfl
      | ok b s1 =>
        cases b with
        | false => exact lcA_eq t tst e ρ r acc s1
        | true =>
          dsimp only
          cases e ρ1 s1 with
          | no => rfl
          | exc c x s => rfl
          | ok y s2 =>
            dsimp only
            rw [lcA_eq t tst e ρ r (acc ++ [y]) s2]
            cases lcM t tst e ρ r s2 with
            | no => rfl
            | exc c x s => rfl
            | ok ys s3 => simp
end
section
variable {K : PySem.W.Frag} {cl : Str → Option Addr} {H0 H H1 H1' H0' H' : Hp} {m m1 m' ow ow1 : List Addr} {s s1 : S} {σ : L2.St} {ρ : Rho} {Wx : WX}
theorem EnvR.wipe (e : EnvR K cl H0 H m ow σ ρ) : ∀ vs, EnvR K cl H0 H m ow (wipe σ vs) (wipeR ρ vs)
  | [] => e
  | v :: vs => by
    have ih := e.wipe vs
    unfold L2.wipe wipeR
    refine ⟨by simp [ih.len], fun j y h => ?_, fun j k y z p h1 h2 h3 h4 h5 h6 => ?_, e.owns⟩
    · by_cases hj : v = j
      · subst hj
        have hl : v < (wipeR ρ vs).length := by
          have := (List.getElem?_eq_some_iff.mp h).1
          simpa using this
        rw [List.getElem?_set_self hl] at h
        cases h
        trivial
      · rw [List.getElem?_set_ne hj] at h ⊢
        exact ih.slot j y h
    · have nn : ∀ {j : Nat} {y : EV}, ((wipeR ρ vs).set v .no)[j]? = some y → y.isOwn = true → v ≠ j := fun {j y} h hy z => by
        subst z
        have hl : v < (wipeR ρ vs).length := by
          have := (List.getElem?_eq_some_iff.mp h).1
          simpa using this
        rw [List.getElem?_set_self hl] at h
        cases h; cases hy
      have nj := nn h1 h3
      have nk := nn h2 h4
      rw [List.getElem?_set_ne nj] at h1 h5
      rw [List.getElem?_set_ne nk] at h2 h6
      exact ih.apart j k y z p h1 h2 h3 h4 h5 h6
theorem Ctx.wipe (c : Ctx K cl H0 H m ow s σ ρ) (vs : List Nat) : Ctx K cl H0 H m ow s (wipe σ vs) (wipeR ρ vs) := ⟨c.st, c.en.wipe vs⟩
theorem Go.updNew (g : GoE H0 H m H0' H' m') {p : Addr} {o : HO} (hp : H p = none) : GoE H0 H m H0' (upd H' p o) m' :=
  ⟨g.s0, g.pre, fun a x h h1 h2 => by
    have : a ≠ p := fun z => by subst z; rw [hp] at h; cases h
    rw [upd_ne this]; exact g.fr a x h h1 h2, fun a h => by
    unfold upd; split
    · simp
    · exact g.dom a h, g.n0, g.nm, g.nw⟩
end
def W0 : WX := fun _ _ _ _ => False
section
variable {X : Cx} {cl : Str → Option Addr} {Wx : WX} {tg e c elt iter : Expr} {ifs : List Expr} {es : List Expr} {pos : Pos} {ee : Cmp W} {ec : Cmp (List W)} {et : Cmp Bool} {t : Tgt} {sl : List Nat} {own : List (Str × Nat)} {scope : Scope}
def JTs (cl : Str → Option Addr) (X : Cx) (ifs : List Expr) (c : Cmp Bool) : Prop := PTs X ifs (Tof X.K cl rrB W0 c)
theorem jts_nil : JTs cl X [] eYes := ⟨fun pins s σ H Q I ⟨H0, m, ow, s', ρ, cx, h⟩ => pts_nil.run pins s σ H Q I (RunE.done (RR := rrB) h cx.st rfl)⟩
theorem jts_one (h : JT cl W0 X c et) : JTs cl X [c] et := pts_one h
theorem wipe_same {σ σ' : L2.St} {vs : List Nat} (hl : σ'.length = σ.length) (h : ∀ j : Nat, j ∉ vs → σ'[j]? = σ[j]?) : wipe σ' vs = wipe σ vs := by
  apply List.ext_getElem?
  intro j
  by_cases hj : j ∈ vs
  · have g : ∀ (τ : L2.St) (us : List Nat), j ∈ us → (wipe τ us)[j]? = if j < τ.length then some none else none := by
      intro τ us
      induction us with
      | nil => intro h; cases h
      | cons v us ih =>
        intro h
        unfold L2.wipe
        by_cases e : v = j
        · subst e
          by_cases hl : v < τ.length
          · rw [if_pos hl, List.getElem?_set_self (by rw [wipe_length]; exact hl)]
          · rw [if_neg hl, List.getElem?_eq_none]; rw [List.length_set, wipe_length]; omega
        · rw [List.getElem?_set_ne e]
          rcases List.mem_cons.mp h with q | q
          · exact absurd q.symm e
          · exact ih q
    rw [g _ _ hj, g _ _ hj, hl]
  · rw [wipe_out hj, wipe_out hj, h j hj]
theorem lc_tof {K : PySem.W.Frag} (hsub : ∀ j ∈ sl, j ∈ own.map (·.2)) : ∀ σ H Q, Tof K cl (rrL K cl) Wx (eLc (own.map (·.2)) ec t et ee) σ H Q → tLc (Tof K cl (rrI K cl) Wx ec) (Gof K cl t sl) (Tof K cl rrB W0 et) (Tof K cl (rrW K cl) W0 ee) (own.map (·.2)) σ H Q := by
  refine fun σ H Q ⟨H0, m, ow, s, ρ, cx, h⟩ => ⟨H0, m, ow, s, ρ, cx, RunE.bind h fun l s1 J H1 H1' m1 g st wk h2 D hD => ?_⟩
  have c1 : Ctx K cl H1 H1' m1 ow s1 σ ρ := cx.go g st
  by_cases hl : l.length ≤ 16777216
  case neg =>
    have h2 : RunE K cl (rrL K cl) Wx H1 H1' m1 σ Q (if l.length ≤ 16777216 then lcM t et ee (wipeR ρ (own.map (·.2))) l s1 else .no) := h2
    rw [if_neg hl] at h2
    exact h2.elim
  have h2 : RunE K cl (rrL K cl) Wx H1 H1' m1 σ Q (lcA t et ee (wipeR ρ (own.map (·.2))) [] l s1) := by
    have h2 : RunE K cl (rrL K cl) Wx H1 H1' m1 σ Q (if l.length ≤ 16777216 then lcM t et ee (wipeR ρ (own.map (·.2))) l s1 else .no) := h2
    rw [if_pos hl] at h2
    rw [lcA_eq]
    cases e1 : lcM t et ee (wipeR ρ (own.map (·.2))) l s1 with
    | no => rw [e1] at h2; exact h2.elim
    | exc c x s => 
      rw [e1] at h2
      exfalso
      have : ∀ (l : List W) (s0 : S), lcM t et ee (wipeR ρ (own.map (·.2))) l s0 ≠ .exc c x s := by
        intro l
        induction l with
        | nil => intro s0 z; cases z
        | cons y r ih =>
          intro s0 z
          unfold lcM at z
          split at z
          · cases z
          · split at z
            · split at z
              · split at z <;> cases z
              · cases z
            · exact ih _ z
            · cases z
      exact this _ _ e1
    | ok ys s' => rw [e1] at h2; exact h2
  clear h
  refine ⟨fun i k H' => k = l.length - i ∧ i ≤ l.length ∧ ∃ H0' m' s' acc accv, GoE H1 H1' m1 H0' H' m' ∧ Stt K cl H0' H' m' s' ∧ H' D = some (.lst accv) ∧ RepWs K cl H0' m' accv acc ∧ acc.length ≤ i ∧ H0' D = none ∧ D ∉ m' ∧
      RunE K cl (rrL K cl) Wx H1 H1' m1 σ Q (lcA t et ee (wipeR ρ (own.map (·.2))) acc (l.drop i) s'),
    ⟨l.length, by simp, Nat.zero_le _, H1, m1, s1, [], [], Go.fresh hD, st.fresh hD, upd_same, .nil, Nat.le_refl _, st.h0 hD, st.notM hD, h2⟩, fun i k H' hW => ?_⟩
  obtain ⟨rfl, hi', H0', m', s', acc, accv, g', st', hD', ra, hla, h0, hm, h3⟩ := hW
  by_cases hlt : i < l.length
  · refine .inr ⟨wk.go i _ _ _ _ g'.s0 g'.pre st' hlt, fun H2 => i + 1 ≤ l.length ∧ ∃ H0' m' s' acc accv, GoE H1 H1' m1 H0' H2 m' ∧ Stt K cl H0' H2 m' s' ∧ H2 D = some (.lst accv) ∧ RepWs K cl H0' m' accv acc ∧ acc.length ≤ i + 1 ∧ H0' D = none ∧ D ∉ m' ∧
        RunE K cl (rrL K cl) Wx H1 H1' m1 σ Q (lcA t et ee (wipeR ρ (own.map (·.2))) acc (l.drop (i + 1)) s'), fun H2 q => ⟨l.length - (i + 1), by omega, rfl, q⟩, fun x H3 hy => ?_⟩
    obtain ⟨H0'', g3, st3, w, e3, r3⟩ := wk.yld i _ _ _ _ x H3 g'.s0 g'.pre st' hlt hy
    have ed : l.drop i = w :: l.drop (i + 1) := by
      rw [List.drop_eq_getElem_cons hlt]
      have : l[i] = w := by rw [List.getElem?_eq_getElem hlt] at e3; exact Option.some.inj e3
      rw [this]
    rw [ed] at h3
    have h3 : RunE K cl (rrL K cl) Wx H1 H1' m1 σ Q (match t w (wipeR ρ (own.map (·.2))) with
      | none => .no
      | some ρ1 => match et ρ1 s' with
        | .ok true s1 => (match ee ρ1 s1 with
          | .ok y s2 => lcA t et ee (wipeR ρ (own.map (·.2))) (acc ++ [y]) (l.drop (i + 1)) s2
          | _ => .no)
        | .ok false s1 => lcA t et ee (wipeR ρ (own.map (·.2))) acc (l.drop (i + 1)) s1
        | _ => .no) := h3
    cases e5 : t w (wipeR ρ (own.map (·.2))) with
    | none => rw [e5] at h3; exact h3.elim
    | some ρ1 =>
      rw [e5] at h3
      dsimp only at h3
      have gD : ∀ {H0a Ha Hb : Hp} {ma mb : List Addr} {H0b : Hp}, GoE H0a Ha ma H0b Hb mb → Ha D = some (.lst accv) → H0a D = none → D ∉ ma → Hb D = some (.lst accv) ∧ H0b D = none ∧ D ∉ mb := fun {H0a Ha Hb ma mb H0b} g a b c =>
        ⟨g.fr D _ a c (by simp), g.n0 D (by rw [a]; simp) c (by simp) b, fun z => by
          rcases g.nm D z with q | q | q
          · exact c q
          · cases q
          · rw [q] at a; cases a⟩
      have g13 : GoE H1 H1' m1 H0'' H3 m' := g'.trans g3
      obtain ⟨d1, d2, d3⟩ := gD g3 hD' h0 hm
      have cb : Ctx K cl H0'' H3 m' ow s' (wipe σ (own.map (·.2))) (wipeR ρ (own.map (·.2))) := (c1.go g13 st3).wipe _
      refine ⟨H0'', m', ow, s', _, w, ρ1, cb, r3, e5, fun σ2 c2 l2 k2 => ⟨(wipe_same l2 fun j hj => k2 j fun z => hj (hsub j z)).trans (wipe_same (wipe_length _ _) fun j hj => wipe_out hj), ?_⟩⟩
      refine ⟨H0'', m', ow, s', ρ1, c2, ?_⟩
      cases e6 : et ρ1 s' with
      | no => rw [e6] at h3; exact h3.elim
      | exc c x s2 => rw [e6] at h3; exact h3.elim
      | ok bb s2 =>
        rw [e6] at h3
        intro bv H4 H4' m4 g4 st4 rb
        have rb : bv = bb := rb
        subst rb
        obtain ⟨f1, f2, f3⟩ := gD g4 d1 d2 d3
        cases bv with
        | false =>
          dsimp only at h3
          refine iteF ⟨hlt, H4, m4, s2, acc, accv, g13.trans g4, st4, f1, ra.mono (g3.trans g4).s0 (g3.trans g4).pre, by omega, f2, f3, h3⟩
        | true =>
          dsimp only at h3
          refine iteT ⟨H4, m4, ow, s2, ρ1, c2.go g4 st4, ?_⟩
          cases e7 : ee ρ1 s2 with
          | no => rw [e7] at h3; exact h3.elim
          | exc c x s3 => rw [e7] at h3; exact h3.elim
          | ok y s3 =>
            rw [e7] at h3
            dsimp only at h3
            intro yv H5 H5' m5 g5 st5 ry
            obtain ⟨k1, k2', k3⟩ := gD g5 f1 f2 f3
            refine ⟨accv, k1, ?_, hlt, H5, m5, s3, acc ++ [y], accv ++ [yv], ((g13.trans g4).trans g5).updNew hD, st5.updOwn k2' k3, upd_same, (ra.mono ((g3.trans g4).trans g5).s0 ((g3.trans g4).trans g5).pre).append (.cons ry .nil), by simp; omega, k2', k3, h3⟩
            have := ra.length
            exact size_lt (by omega)
  · refine .inl ⟨wk.stop i _ _ _ _ g'.s0 g'.pre st' (by omega), ?_⟩
    rw [List.drop_eq_nil_of_le (by omega)] at h3
    exact h3 _ _ _ _ g' st' ⟨D, accv, rfl, hD, hD', h0, hm, ra⟩
theorem jl_lc (hc : X.calm = true) (nd : X.N.Nodup) (hi : JI cl Wx X tg iter ec) (ok : BlkOk X.N X.env.scope scope own)
    (hg : ∀ (s : Shared) (H : Hp) (C : Addr) (cc : List (Str × Addr)) (fp : List Addr), JG cl (X.blk s H scope (compEnvC scope cc C X.env) fp) tg t sl)
    (ht : ∀ (s : Shared) (H : Hp) (C : Addr) (cc : List (Str × Addr)) (fp : List Addr), JTs cl (X.blk s H scope (compEnvC scope cc C X.env) fp) ifs et)
    (he : ∀ (s : Shared) (H : Hp) (C : Addr) (cc : List (Str × Addr)) (fp : List Addr), JE cl W0 (X.blk s H scope (compEnvC scope cc C X.env) fp) elt ee)
    (hsub : ∀ j ∈ sl, j ∈ own.map (·.2) := by decide) (hs : ∀ x, foldedSetIterable iter X.env x = pure x := by exact fun _ => rfl) :
    JL cl Wx X (.ListComp elt [⟨tg, iter, ifs, 0⟩] scope pos) (eLc (own.map (·.2)) ec t et ee) :=
  PE.weaken (pe_lc (g := Gof X.K cl t sl) (tt := Tof X.K cl rrB W0 et) (te := Tof X.K cl (rrW X.K cl) W0 ee) hc nd hi ok hg ht he hs) (lc_tof hsub)
end
end TG

set_option Elab.async false
set_option linter.all false
set_option maxRecDepth 100000
set_option maxHeartbeats 2000000
namespace TG
open PySem L2 PyProof.Rows

/-! ### defs -/
abbrev Sem1 := List W → S → Res RV
def rrV (K : PySem.W.Frag) (cl : Str → Option Addr) : RRT V RV := fun H H0' H' m' v rv => retR K cl H [] H0' H' m' v rv
instance {K cl} : Early (rrV K cl) := ⟨fun {H H1 H0 H' m v x} d h => by
  cases x with
  | w x => exact h
  | own l => obtain ⟨p, vs, a, b, c⟩ := h; exact ⟨p, vs, a, b.imp id (dom_none d), c⟩
  | ownD l => obtain ⟨p, vs, a, b, c⟩ := h; exact ⟨p, vs, a, b.imp id (dom_none d), c⟩⟩
def wxE (E : XK) : WX := fun c d _ H => E c d H
/-- what a def promises -/
def spOf (K : PySem.W.Frag) (cl : Str → Option Addr) (f : Sem1) : Sp := fun vs H Q E => ∃ H0 m s ws, Stt K cl H0 H m s ∧ RepWs K cl H0 m vs ws ∧ RunE K cl (rrV K cl) (wxE E) H0 H m [] Q (f ws s)
/-- a def's body run -/
def runF (np nl : Nat) (b : Stm) : Sem1 := fun ws s => if ws.length = np then (match b (ws.map .w ++ List.replicate (nl - np) .no) s with
    | .nx _ s' => .ok (.w (.d .non)) s'
    | .ret v s' => .ok v s'
    | .exc c x _ s' => .exc c x s'
    | _ => .no)
  else .no
section
variable {K : PySem.W.Frag} {cl : Str → Option Addr} {H0 H : Hp} {m : List Addr} {s : S}
theorem RepWs.slot {vs : List V} {ws : List W} (h : RepWs K cl H0 m vs ws) (k : Nat) : EnvR K cl H0 H m [] (vs.map some ++ List.replicate k none) (ws.map .w ++ List.replicate k .no) := by
  refine ⟨by simp [h.length], fun i e hi => ?_, fun i j e e' p h1 h2 h3 => ?_, fun p hp => by cases hp⟩
  · by_cases hl : i < ws.length
    · rw [List.getElem?_append_left (by simpa using hl), List.getElem?_map] at hi
      rw [List.getElem?_append_left (by simpa [h.length] using hl), List.getElem?_map]
      cases q : ws[i]? with
      | none => rw [q] at hi; cases hi
      | some w =>
        rw [q] at hi
        cases hi
        obtain ⟨v, h1, h2⟩ := h.get q
        rw [h1]
        exact ⟨v, rfl, h2⟩
    · rw [List.getElem?_append_right (by simp; omega), List.getElem?_replicate] at hi
      split at hi
      · cases hi; trivial
      · cases hi
  · exfalso
    by_cases hl : i < ws.length
    · rw [List.getElem?_append_left (by simpa using hl), List.getElem?_map] at h1
      cases q : ws[i]? with
      | none => rw [q] at h1; cases h1
      | some w => rw [q] at h1; cases h1; cases h3
    · rw [List.getElem?_append_right (by simp; omega), List.getElem?_replicate] at h1
      split at h1
      · cases h1; cases h3
      · cases h1
end
section
variable {P : Program} {w : World} {K : PySem.W.Frag} {mg : Str → Option Value} {base : Heap} {cl : Str → Option Addr}
theorem fn_ok {x qual : Str} {st : Stmt} {f : Addr} {fd : FuncData} {N ps : List Str} {k : Nat} {b : Stm} (F : Fun K x qual st f fd) (S : FnScope N ps (defScope st))
    (h : ∀ (cdv : Value) (A : Around) (outer : List Env) (s : Shared) (H : Hp) (E : XK), Room k (A.deeper (envOfC qual (defScope st) s.heap.objs.size f cdv)) →
      XOk (cxOf (L2.CX P w) P w K mg base N qual (defScope st) f cdv A outer s H E) (wxE E) → JB cl (wxE E) (cxOf (L2.CX P w) P w K mg base N qual (defScope st) f cdv A outer s H E) (defBody st) b) :
    FnOk P w K mg base (L2.CX P w) (k + 1) f fd ps (spOf K cl (runF ps.length N.length b)) := by
  have len : ∀ {vs : List V} {H : Hp} {Q : VK} {E : XK}, spOf K cl (runF ps.length N.length b) vs H Q E → vs.length = ps.length := fun {vs H Q E} ⟨H0, m, s, ws, _, r, q⟩ => by
    by_cases hl : ws.length = ps.length
    · rw [r.length, hl]
    · unfold runF at q
      rw [if_neg hl] at q
      exact q.elim
  refine F.okX S (fun vs H Q E h => len h) fun cdv A outer s H vs Q E hr hsp => ?_
  have hl := len hsp
  refine ⟨_, h cdv A outer s H E hr ⟨takes_of rfl rfl rfl rfl, passes_of rfl, S.nd⟩, ?_⟩
  obtain ⟨H0, m, s', ws, st', rw', q⟩ := hsp
  have hlw : ws.length = ps.length := by rw [← rw'.length]; exact hl
  unfold runF at q
  rw [if_pos hlw] at q
  refine ⟨H0, m, [], s', ws.map .w ++ List.replicate (N.length - ps.length) .no, ⟨st', ?_⟩, ?_⟩
  · show EnvR K cl H0 H m [] (vs.map some ++ List.replicate (N.length - vs.length) none) _
    rw [hl]
    exact rw'.slot _
  · have g0 : ∀ {H0' H' : Hp} {m' ow' : List Addr}, Go H0 H m [] H0' H' m' ow' → GoE H0 H m H0' H' m' := fun g => ⟨g.s0, g.pre, g.fr, g.dom, g.n0, g.nm, fun a z => by cases z⟩
    cases e1 : b (ws.map .w ++ List.replicate (N.length - ps.length) .no) s' with
    | nx ρ s2 => rw [e1] at q; exact fun σ' H0' H' m' ow' g c => q _ _ _ _ (g0 g) c.st Rep.non
    | ret v s2 => rw [e1] at q; exact fun u H0' H' m' ow' g st r => q u _ _ _ (g0 g) st r
    | exc c x ρ s2 => rw [e1] at q; exact fun cv dd σ' H0' H' m' ow' g c e => q _ _ _ _ _ (g0 g) c.st e
    | brk ρ s2 => rw [e1] at q; exact q.elim
    | cnt ρ s2 => rw [e1] at q; exact q.elim
    | no => rw [e1] at q; exact q.elim
end

/-! ### calls -/
def allDataK : List (Key × W) → Option (List (Key × D))
  | [] => some []
  | (k, .d x) :: r => (allDataK r).map ((k, x) :: ·)
  | (_, .r _) :: _ => none
def frzV : RV → S → Res W
  | .w x, s => .ok x s
  | .own l, s => frzL l s
  | .ownD l, s => match allDataK l with | some ds => .ok (.d (.dic ds)) s | none => .no
def eCall (f : Sem1) (a : Cmp (List W)) : Cmp W := fun ρ s => (a ρ s).bind fun ws s1 => (f ws s1).bind frzV
def eCallL (f : Sem1) (a : Cmp (List W)) : Cmp (List W) := fun ρ s => (a ρ s).bind fun ws s1 => (f ws s1).bind fun rv s2 => match rv with | .own l => .ok l s2 | _ => .no
def eCallD (f : Sem1) (a : Cmp (List W)) : Cmp (List (Key × W)) := fun ρ s => (a ρ s).bind fun ws s1 => (f ws s1).bind fun rv s2 => match rv with | .ownD l => .ok l s2 | _ => .no
section
variable {K : PySem.W.Frag} {cl : Str → Option Addr} {H0 H H0' H' : Hp} {m m' : List Addr} {s s' : S} {σ : L2.St} {Wx : WX} {Q : VK}
theorem RepWK.data {vs : List (Key × V)} {l : List (Key × W)} {ds : List (Key × D)} (h : RepWK K cl H0 m vs l) (e : allDataK l = some ds) : RepK K cl H0 vs ds := by
  induction h generalizing ds with
  | nil => cases e; exact .nil
  | @cons k v d vs l h1 h2 ih =>
    cases d with
    | r n => cases e
    | d x =>
      unfold allDataK at e
      cases q : allDataK l with
      | none => rw [q] at e; cases e
      | some z => rw [q] at e; cases e; exact .cons h1 (ih q)
/-- what a def gave, frozen where it is new -/
theorem frz_ok {rv : RV} {v : V} (st : Stt K cl H0 H m s) (h : RunE K cl (rrW K cl) Wx H0 H m σ Q (frzV rv s')) (g : GoE H0 H m H0' H' m') (st' : Stt K cl H0' H' m' s') (r : retR K cl H [] H0' H' m' v rv) : Q v H' := by
  cases rv with
  | w x => exact h v H0' H' m' g st' r
  | own l =>
    have h : RunE K cl (rrW K cl) Wx H0 H m σ Q (frzL l s') := h
    unfold frzL at h
    cases e2 : allData l with
    | none => rw [e2] at h; exact h.elim
    | some ds =>
      rw [e2] at h
      obtain ⟨p, vs, h1, h2, h3, h4, h5, h6⟩ := r
      have h2 : H p = none := by rcases h2 with z | z <;> first | (cases z; done) | exact z
      exact h v (upd H0' p (.lst vs)) H' m' (g.freeze st h2) (st'.freeze h4 h3 h5) (by
        subst h1
        exact Rep.lst upd_same ((h6.ds e2).mono (same_upd h4)))
  | ownD l =>
    have h : RunE K cl (rrW K cl) Wx H0 H m σ Q (match allDataK l with | some ds => .ok (.d (.dic ds)) s' | none => .no) := h
    cases e2 : allDataK l with
    | none => rw [e2] at h; exact h.elim
    | some ds =>
      rw [e2] at h
      obtain ⟨p, vs, h1, h2, h3, h4, h5, h6⟩ := r
      have h2 : H p = none := by rcases h2 with z | z <;> first | (cases z; done) | exact z
      exact h v (upd H0' p (.dK vs)) H' m' (g.freeze st h2) (st'.freeze h4 h3 h5) (by
        subst h1
        exact Rep.dic upd_same ((h6.data e2).mono (same_upd h4)))
/-- a callee's run, from its arguments: K is what follows -/
theorem call_run {f : Sem1} {vs : List V} {ws : List W} {Q : VK} {E : XK} (st : Stt K cl H0 H m s) (rw' : RepWs K cl H0 m vs ws)
    (h : RunE K cl (rrV K cl) (wxE E) H0 H m [] Q (f ws s))   : spOf K cl f vs H Q E := ⟨H0, m, s, ws, st, rw', h⟩
theorem call_frz {f : Sem1} {ws : List W} (st : Stt K cl H0 H m s) (h : RunE K cl (rrW K cl) Wx H0 H m σ Q ((f ws s).bind frzV)) : RunE K cl (rrV K cl) (wxE (WE Wx σ)) H0 H m [] Q (f ws s) := by
  cases e : f ws s with
  | no => rw [e] at h; exact h
  | exc c x s' => rw [e] at h; exact h
  | ok rv s' =>
    rw [e] at h
    exact fun v H0' H' m' g st' r => frz_ok st h g st' r
theorem call_new {f : Sem1} {ws : List W} (st : Stt K cl H0 H m s) (h : RunE K cl (rrL K cl) Wx H0 H m σ Q ((f ws s).bind fun rv s2 => match rv with | .own l => .ok l s2 | _ => .no)) : RunE K cl (rrV K cl) (wxE (WE Wx σ)) H0 H m [] Q (f ws s) := by
  cases e : f ws s with
  | no => rw [e] at h; exact h
  | exc c x s' => rw [e] at h; exact h
  | ok rv s' =>
    rw [e] at h
    intro v H0' H' m' g st' r
    cases rv with
    | w x => exact h.elim
    | ownD l => exact h.elim
    | own l =>
      obtain ⟨p, vs, h1, h2, h3⟩ := r
      have h2 : H p = none := by rcases h2 with z | z <;> first | (cases z; done) | exact z
      exact h v H0' H' m' g st' ⟨p, vs, h1, h2, h3⟩
theorem call_newD {f : Sem1} {ws : List W} (st : Stt K cl H0 H m s) (h : RunE K cl (rrD K cl) Wx H0 H m σ Q ((f ws s).bind fun rv s2 => match rv with | .ownD l => .ok l s2 | _ => .no)) : RunE K cl (rrV K cl) (wxE (WE Wx σ)) H0 H m [] Q (f ws s) := by
  cases e : f ws s with
  | no => rw [e] at h; exact h
  | exc c x s' => rw [e] at h; exact h
  | ok rv s' =>
    rw [e] at h
    intro v H0' H' m' g st' r
    cases rv with
    | w x => exact h.elim
    | own l => exact h.elim
    | ownD l =>
      obtain ⟨p, vs, h1, h2, h3⟩ := r
      have h2 : H p = none := by rcases h2 with z | z <;> first | (cases z; done) | exact z
      exact h v H0' H' m' g st' ⟨p, vs, h1, h2, h3⟩
end
/-- a def that stands -/
structure FnAt (P : Program) (w : World) (K : PySem.W.Frag) (mg : Str → Option Value) (base : Heap) (cl : Str → Option Addr) (k : Nat) (x : Str) (ps : List Str) (f : Sem1) : Prop where
  ex : ∃ (a : Addr) (fd : FuncData), mg x = some (.ref a) ∧ PySem.W.keepIn K (.ref a) = true ∧ Binds K fd ps [] ∧ FnOk P w K mg base (L2.CX P w) k a fd ps (spOf K cl f)
theorem FnAt.mono {P : Program} {w : World} {K : PySem.W.Frag} {mg : Str → Option Value} {base : Heap} {cl : Str → Option Addr} {j k : Nat} {x : Str} {ps : List Str} {f : Sem1} (F : FnAt P w K mg base cl j x ps f) (h : j ≤ k) : FnAt P w K mg base cl k x ps f := by
  obtain ⟨a, fd, h1, h2, h3, h4⟩ := F.ex
  exact ⟨a, fd, h1, h2, h3, h4.mono h⟩
section
variable {X : Cx} {cl : Str → Option Addr} {Wx : WX} {e : Expr} {es : List Expr} {pos p : Pos} {el : Cmp (List W)} {k : Nat} {x : Str} {ps : List Str} {f : Sem1}
theorem je_call (ok : XOk X Wx) (hr : Room k X.A) (F : FnAt X.prog X.w X.K X.mg X.base cl k x ps f) (ha : JA cl Wx X (e :: es) el) (hg : Gl X x := by rfl)
    (h1 : (x == Str.ofString "__debug__") = false := by decide) (h2 : starEach (e :: es) X.env = (false, eval e X.env) :: starEach es X.env := by rfl) (h3 : ((backTo pos (starEach es X.env)).any fun x => x.fst) = false := by rfl) :
    JE cl Wx X (.Call (.Name x p) (e :: es) [] pos) (eCall f el) := by
  obtain ⟨a, fd, q1, q2, q3, q4⟩ := F.ex
  refine PE.weaken (pe_callS q4 hr hg q1 q2 q3 (fun σ => passAt ok.tk σ) ha h1 h2 h3) fun σ H Q ⟨H0, m, ow, s, ρ, cx, h⟩ => ⟨H0, m, ow, s, ρ, cx, ?_⟩
  have h : RunE X.K cl (rrW X.K cl) Wx H0 H m σ Q ((el ρ s).bind fun ws s1 => (f ws s1).bind frzV) := h
  revert h
  generalize el ρ s = r
  intro h
  cases r with
  | no => exact h
  | exc c x s' => exact h
  | ok ws s1 =>
    have h : RunE X.K cl (rrW X.K cl) Wx H0 H m σ Q ((f ws s1).bind frzV) := h
    intro vs H1 H1' m1 g st rr
    exact call_run st rr (call_frz st (h.shift g))
theorem jl_call (ok : XOk X Wx) (hr : Room k X.A) (F : FnAt X.prog X.w X.K X.mg X.base cl k x ps f) (ha : JA cl Wx X (e :: es) el) (hg : Gl X x := by rfl)
    (h1 : (x == Str.ofString "__debug__") = false := by decide) (h2 : starEach (e :: es) X.env = (false, eval e X.env) :: starEach es X.env := by rfl) (h3 : ((backTo pos (starEach es X.env)).any fun x => x.fst) = false := by rfl) :
    JL cl Wx X (.Call (.Name x p) (e :: es) [] pos) (eCallL f el) := by
  obtain ⟨a, fd, q1, q2, q3, q4⟩ := F.ex
  refine PE.weaken (pe_callS q4 hr hg q1 q2 q3 (fun σ => passAt ok.tk σ) ha h1 h2 h3) fun σ H Q ⟨H0, m, ow, s, ρ, cx, h⟩ => ⟨H0, m, ow, s, ρ, cx, ?_⟩
  have h : RunE X.K cl (rrL X.K cl) Wx H0 H m σ Q ((el ρ s).bind fun ws s1 => (f ws s1).bind fun rv s2 => match rv with | .own l => .ok l s2 | _ => .no) := h
  revert h
  generalize el ρ s = r
  intro h
  cases r with
  | no => exact h
  | exc c x s' => exact h
  | ok ws s1 =>
    intro vs H1 H1' m1 g st rr
    exact call_run st rr (call_new st (RunE.shift (r := (f ws s1).bind fun rv s2 => match rv with | .own l => .ok l s2 | _ => .no) h g))
end
end TG

set_option Elab.async false
set_option linter.all false
set_option maxRecDepth 100000
set_option maxHeartbeats 4000000
/-! enumerate over a tuple -/
namespace PySem
open Sem (wp)
theorem tg_meets_enum1 {v : Value} {o : Obj} {H : Heap → Prop} (B : Begins v o H) :
    Meets (Builtin.«enumerate.__new__» ⟨[.type "enumerate", v], []⟩) (fun _ R s => H s.heap ∧
      R (.ok (.ret (.ref (s.heap.push o).objs.size))) { s with heap := (s.heap.push o).push { cls := .type "enumerate", data := .fields #[.none, .bool false, .ref s.heap.objs.size, rawInt 0, .none, .none] } }) := by
  refine .of_wp fun prog w A R s h => ?_
  obtain ⟨hp, g, d, tk, os⟩ := s
  obtain ⟨h1, h⟩ := h
  have hsub := sub_enumerate
  have q1 : ∀ {A' : Around} {E : Value → Shared → Prop} {Q : Value → Shared → Prop}, Q (.ref hp.objs.size) ⟨hp.push o, g, d, tk, os⟩ → wpAny (model prog w) A' (pyIter v) Q E ⟨hp, g, d, tk, os⟩ := fun q => B.iter prog w _ _ ⟨hp, g, d, tk, os⟩ _ h1 q
  wp_walk using q1
  refine wpAny_stack_any fun st => wpAny_pure ?_
  split
  · rename_i c _ _ _ _ _
    cases (c == Value.type "enumerate") <;> (wp_walk using q1; exact ⟨_, rfl, h⟩)
  · wp_walk using q1
    exact ⟨_, rfl, h⟩
section
variable {prog : Program} {w : World} {A : Around} {E : Value → Shared → Prop} {s : Shared}
theorem tg_call_enum1 {v : Value} {o : Obj} {H : Heap → Prop} {Q : Value → Shared → Prop} (B : Begins v o H) (h1 : H s.heap)
    (h : ∀ h', IsEnum h' (s.heap.objs.size + 1) s.heap.objs.size 0 .none → h'.get? s.heap.objs.size = some o → (∀ b x, s.heap.get? b = some x → h'.get? b = some x) → Q (.ref (s.heap.objs.size + 1)) { s with heap := h' }) :
    wpAny (model prog w) A (call (.type "enumerate") [v]) Q E s := by
  refine callType_new F.called_enumerate (by decide) (F.typeCall_enumerate_1 _) (F.newCall_enumerate_1 _) (fun obj => F.args_object_init_2 obj _) F.entry_enumerate_new (tg_meets_enum1 B) ⟨h1, ?_⟩
  have hz : (s.heap.push o).objs.size = s.heap.objs.size + 1 := Heap.size_push ..
  show _ ∧ _
  rw [hz]
  have he := Heap.get?_push_size (s.heap.push o) (o := { cls := .type "enumerate", data := .fields #[.none, .bool false, .ref s.heap.objs.size, rawInt 0, .none, .none] }) rfl
  rw [hz] at he
  exact ⟨⟨_, he, rfl⟩, h _ he (Heap.get?_push_of_some _ (Heap.get?_push_size _ B.free)) fun b x q => Heap.get?_push_of_some _ (Heap.get?_push_of_some _ q)⟩
end
end PySem
namespace TG
open PySem L2 PyProof.Rows
def IteT (K : PySem.W.Frag) (a : Addr) : It :=
  { go := fun i H => ∃ (xs : List V) (x : V), SqT K H a xs ∧ xs[i]? = some x
    yld := fun i H v H' => ∃ T x, v = .ref T ∧ H T = none ∧ H' = upd H T (.tup [.int (i : Nat), x]) ∧ ∀ xs, SqT K H a xs → xs[i]? = some x
    stop := fun i H => ∃ xs : List V, SqT K H a xs ∧ xs.length ≤ i }
theorem turn_enumT {P : Program} {w : World} {K : PySem.W.Frag} {elts : List Expr} {kk : Nat} {tpos : Pos} (a e it : Addr) (hae : e ≠ a) (hai : a ≠ it) :
    Turn P w K (.Tuple elts kk tpos) (IteT K a) [e, it] e (fun i h => (∃ old, IsEnum h e it ((i : Nat) : Int) old) ∧ h.IsTupleIter it a i ∧ e ≠ it) := by
  refine ⟨by simp, fun i h st b hb => ?_, fun i h h' st k => ?_, ?_, ?_, fun A i s Q E st h => ?_⟩
  · obtain ⟨⟨old, he⟩, ⟨o, ho, _, hd⟩, _⟩ := st
    rcases (by simpa using hb : b = e ∨ b = it) with rfl | rfl
    · exact ⟨_, he, fun v q => nomatch q⟩
    · exact ⟨o, ho, fun v q => by rw [hd] at q; cases q⟩
  · obtain ⟨⟨old, he⟩, hi, hne⟩ := st
    exact ⟨⟨old, k e (by simp) _ he⟩, hi.at fun o q => k it (by simp) o q, hne⟩
  · rintro X rfl rfl rfl hc i pins s σ H E I hf ⟨⟨old, he⟩, hit, hne⟩ ⟨xs, x, hq, hx⟩
    obtain ⟨its, rv, p, hz⟩ := I.tuple hq
    obtain ⟨u, hu, ru⟩ := rv.get hx
    have hel : e < s.heap.objs.size := Heap.lt_size he
    have hil : it < s.heap.objs.size := by obtain ⟨_, q, _⟩ := hit; exact Heap.lt_size q
    have hlt : i < its.toArray.size := by simpa using (List.getElem?_eq_some_iff.mp hu).1
    have D : Draws X.prog X.w X.A.in1 it [it, a] its.toArray.size (fun i v => its.toArray[i]? = some v) (fun i h => h.IsTupleIter it a i ∧ h.IsTuple a its.toArray) := Draws.tuple (A := X.A.in1) (I.ok.hd hc) it a hai its.toArray
    refine wpAny_pyNext_enum_itemD D he ⟨hit, p⟩ hlt hne (by simp [hne, hae]) fun x' h' tk hx' ho st' hT hsz hk => ?_
    have hx2 : x' = u := by
      have : its.toArray[i]? = some u := by simpa using hu
      rw [this] at hx'
      exact (Option.some.inj hx').symm
    subst hx2
    refine ⟨_, rfl, wpAny_letOwnedTupleGo_enum (s := { s with heap := h', toks := tk + 1 }) ho fun h'' he' sb => ?_⟩
    have hT2 : h''.get? s.heap.objs.size = some { cls := .type "tuple", data := .seq #[.int i tk, x'] } := (sb.2 _ (Nat.ne_of_gt hel)).trans hT
    have new : ObjOk X.prog X.w (upd H s.heap.objs.size (.tup [.int (i : Nat), x])) h'' s.heap.objs.size (.tup [.int (i : Nat), x]) :=
      ⟨by show 2 ≤ sizeLine; decide, [.int i tk, x'], .cons ⟨_, rfl⟩ (.cons ru .nil), ⟨_, hT2, rfl, _, rfl⟩⟩
    have I1 : Inv X pins σ (upd H s.heap.objs.size (.tup [.int (i : Nat), x])) { s with heap := h'', toks := tk + 1 } :=
      I.turnedNew (t' := tk + 1) (ch := [e, it]) (fun b ob hb q => (sb.2 b (fun z => hb (by simp [z]))).trans (hk b ob (fun z => hb (by simp [z])) (fun z => hb (by simp [z])) q)) hf (Nat.le_refl _) new
    refine ⟨.ref s.heap.objs.size, _, I1, rfl, ⟨_, x, rfl, I.hok.fresh (Nat.le_refl _), rfl, fun ys hy => by rw [I.tuple_inj hy hq]; exact hx⟩, ⟨⟨x', ?_⟩, st'.1.at fun o q => (sb.2 it (Ne.symm hne)).trans q, hne⟩, fun b hb => ?_⟩
    · have e1 : ((i + 1 : Nat) : Int) = (i : Int) + 1 := by omega
      rw [e1]; exact he'
    · have hb' : b < s.heap.objs.size := by
        rcases (by simpa using hb : b = e ∨ b = it) with rfl | rfl <;> assumption
      rw [upd_ne (Nat.ne_of_lt hb')]
      exact (hf b hb).1
  · rintro X rfl rfl rfl hc i pins s σ H E I hf ⟨⟨old, he⟩, hit, hne⟩ ⟨xs, hq, hx⟩
    obtain ⟨its, rv, p, hz⟩ := I.tuple hq
    obtain ⟨f0, f1, f2, f3, f4, f5⟩ := hf it (by simp)
    have hl : its.length ≤ i := by rw [← rv.length]; exact hx
    have hh := I.ok.hd hc
    have D : Draws X.prog X.w X.A.in1 it [it, a] i (fun _ _ => True) (fun j h => j = i ∧ h.IsTupleIter it a i ∧ h.IsTuple a its.toArray) :=
      { live := fun _ _ st => let ⟨o, ho, _⟩ := st.2.1; ⟨o, ho⟩
        frame := fun _ _ _ st hk => ⟨st.1, st.2.1.at fun o e => hk it (by simp) o e, st.2.2.at fun o e => hk a (by simp) o e⟩
        item := fun j s Q E hj st _ => absurd st.1 (Nat.ne_of_lt hj)
        done := fun s Q E st hE => wpAny_nextOf_tuple_end (A := X.A.in1) hh st.2.1 st.2.2 (by simpa using hl) hE }
    exact wpAny_pyNext_enum_endD D he ⟨rfl, hit, p⟩ fun h' eb => ⟨rfl, I.turned (t' := s.toks) (fun b o hb q => eb b o hb q) f0 f1 f3 f4 f5⟩
  · obtain ⟨⟨_, he⟩, _⟩ := st
    exact wpAny_pyIter_enum he h
def iEnumT (K : PySem.W.Frag) (ta : TA) : TI := fun σ H R => ta σ H fun vs H1 => ∃ a xs, vs = [.ref a] ∧ SqT K H1 a xs ∧ R (IteT K a) H1
theorem pi_enumT {X : Cx} {e : Expr} {ta : TA} {p pos tpos : Pos} {elts : List Expr} {kk : Nat} (hg : Gl X "enumerate") (hm : X.mg "enumerate" = none) (ha : PA X [e] ta) (hs : starEach [e] X.env = [(false, eval e X.env)] := by rfl) :
    PI X (.Tuple elts kk tpos) (.Call (.Name "enumerate" p) [e] [] pos) (iEnumT X.K ta) := by
  refine ⟨fun pins s σ H R I h => Call_ (ld_blt I hg hm boot_enumerate (PyProof.Rows.callWith_type1 (thn (ha.run pos pins s σ H _ I h) fun us s1 ⟨vs, H1, I1, r1, a, xs, ex, hq, q⟩ => ?_) hs rfl))⟩
  subst ex
  cases r1 with
  | cons r rr =>
    cases rr
    cases r
    obtain ⟨its, rv, p', hz⟩ := I1.tuple hq
    refine tg_call_enum1 (begins_tuple a its.toArray) p' fun h' he hit hk => wpAny_pyIter_enum he ?_
    have I2 : Inv X pins σ H1 { s1 with heap := h' } := I1.kept (t' := s1.toks) hk
    have hal : a < s1.heap.objs.size := by obtain ⟨_, e1, _⟩ := p'; exact Heap.lt_size e1
    refine ⟨s1.heap.objs.size + 1, [s1.heap.objs.size + 1, s1.heap.objs.size], _, _, H1, rfl, I2, turn_enumT a (s1.heap.objs.size + 1) s1.heap.objs.size (fun z => ?_) (fun z => ?_), ⟨⟨.none, he⟩, ⟨_, hit, rfl, rfl⟩, Nat.succ_ne_self _⟩, fun b hb => ?_, q⟩
    · rw [← z] at hal; exact Nat.not_succ_le_self _ (Nat.le_of_lt hal)
    · rw [z] at hal; exact absurd hal (Nat.lt_irrefl _)
    · have hle : s1.heap.objs.size ≤ b := by
        rcases (by simpa using hb : b = s1.heap.objs.size + 1 ∨ b = s1.heap.objs.size) with z | z
        · rw [z]; exact Nat.le_add_right _ _
        · rw [z]; exact Nat.le_refl _
      exact I1.fpOk hle (I1.hok.fresh hle)
/-! for i, x in enumerate(data) -/
def enumD (l : List D) : List W := l.mapIdx fun i x => W.d (.tup [.int (i : Nat), x])
def eEnum (a : Cmp (List W)) : Cmp (List W) := fun ρ s => (a ρ s).bind fun x s1 => match x with
  | [x] => (match seqD x with | some l => .ok (enumD l) s1 | none => .no)
  | _ => .no
theorem walk_enum {K : PySem.W.Frag} {cl : Str → Option Addr} {J : It} {l : List D} {vs : List V} {H0 : Hp} {m : List Addr} (r : Reps K cl H0 vs l)
    (hs : ∀ (i : Nat) H1 H2 m2 s2, Same H0 H1 → Stt K cl H1 H2 m2 s2 → vs.length ≤ i → J.stop i H2) (hg : ∀ (i : Nat) H1 H2 m2 s2, Same H0 H1 → Stt K cl H1 H2 m2 s2 → i < vs.length → J.go i H2)
    (hy : ∀ (i : Nat) H1 H2 m2 s2 v H3, Same H0 H1 → Stt K cl H1 H2 m2 s2 → J.yld i H2 v H3 → ∃ T x, v = .ref T ∧ H2 T = none ∧ H3 = upd H2 T (.tup [.int (i : Nat), x]) ∧ vs[i]? = some x) : Walks K cl J (enumD l) H0 m := by
  have hl : (enumD l).length = vs.length := by rw [r.length]; simp [enumD]
  refine ⟨fun i H1 H2 m2 s2 e _ st hi => hs i H1 H2 m2 s2 e st (by omega), fun i H1 H2 m2 s2 e _ st hi => hg i H1 H2 m2 s2 e st (by omega), fun i H1 H2 m2 s2 v H3 e _ st hi y => ?_⟩
  obtain ⟨T, x, rfl, hT, rfl, hx⟩ := hy i H1 H2 m2 s2 v H3 e st y
  have hi' : i < l.length := by simpa [enumD] using hi
  have rw' := (r.mono e).ws (m := m2)
  obtain ⟨u, e1, e2⟩ := rw'.get (i := i) (x := W.d l[i]) (by simp [wD, hi'])
  rw [hx] at e1
  cases e1
  refine ⟨upd H1 T (.tup [.int (i : Nat), x]), Go.alloc st hT, st.alloc hT, W.d (.tup [.int (i : Nat), l[i]]), by simp [enumD, hi'], Rep.tup upd_same (.cons .int (.cons (Rep.mono (same_upd (st.h0 hT)) e2) .nil))⟩
section
variable {X : Cx} {cl : Str → Option Addr} {Wx : WX} {e : Expr} {elts : List Expr} {kk : Nat} {tpos pos p : Pos} {el : Cmp (List W)}
theorem ji_enum (hg : Gl X "enumerate") (hm : X.mg "enumerate" = none) (h : JA cl Wx X [e] el) (hs : starEach [e] X.env = [(false, eval e X.env)] := by rfl) : JI cl Wx X (.Tuple elts kk tpos) (.Call (.Name "enumerate" p) [e] [] pos) (eEnum el) :=
  PI.weaken (PI.or (pi_enum hg hm h hs) (pi_enumT hg hm h hs)) fun σ H R ⟨H0, m, ow, s, ρ, cx, q⟩ => by
    have q : RunE X.K cl (rrI X.K cl) Wx H0 H m σ R ((el ρ s).bind fun x s1 => match x with
      | [x] => (match seqD x with | some l => .ok (enumD l) s1 | none => .no)
      | _ => .no) := q
    cases e0 : el ρ s with
    | no => rw [e0] at q; exact q.elim
    | exc c x s' => exact .inl ⟨H0, m, ow, s, ρ, cx, by rw [e0] at q ⊢; exact q⟩
    | ok ws s' =>
      rw [e0] at q
      cases ws with
      | nil => exact q.elim
      | cons w ws =>
        cases ws with
        | cons _ _ => exact q.elim
        | nil =>
          have q : RunE X.K cl (rrI X.K cl) Wx H0 H m σ R (match seqD w with | some l => .ok (enumD l) s' | none => .no) := q
          unfold seqD at q
          split at q
          · rename_i l e1
            split at e1
            · cases e1
              refine .inl ⟨H0, m, ow, s, ρ, cx, ?_⟩
              rw [e0]
              intro v H0' H' m' g st rr
              cases rr with
              | cons r1 r2 =>
                cases r2
                cases r1 with
                | lst h1 h2 =>
                  refine ⟨_, _, rfl, sqL_of (st.sub _ _ h1), q _ H0' H' m' g st (walk_enum h2 (fun i H1 H2 m2 s2 e st' hi => ⟨_, sqL_of (st'.sub _ _ (e _ _ h1)), hi⟩) (fun i H1 H2 m2 s2 e st' hi => ⟨_, _, sqL_of (st'.sub _ _ (e _ _ h1)), by simp [hi]; rfl⟩) fun i H1 H2 m2 s2 v H3 e st' ⟨T, x, a1, a2, a3, a4⟩ => ⟨T, x, a1, a2, a3, a4 _ (sqL_of (st'.sub _ _ (e _ _ h1)))⟩)⟩
            · cases e1
              refine .inr ⟨H0, m, ow, s, ρ, cx, ?_⟩
              rw [e0]
              intro v H0' H' m' g st rr
              cases rr with
              | cons r1 r2 =>
                cases r2
                cases r1 with
                | tup h1 h2 =>
                  refine ⟨_, _, rfl, sqT_of (st.sub _ _ h1), q _ H0' H' m' g st (walk_enum h2 (fun i H1 H2 m2 s2 e st' hi => ⟨_, sqT_of (st'.sub _ _ (e _ _ h1)), hi⟩) (fun i H1 H2 m2 s2 e st' hi => ⟨_, _, sqT_of (st'.sub _ _ (e _ _ h1)), by simp [hi]; rfl⟩) fun i H1 H2 m2 s2 v H3 e st' ⟨T, x, a1, a2, a3, a4⟩ => ⟨T, x, a1, a2, a3, a4 _ (sqT_of (st'.sub _ _ (e _ _ h1)))⟩)⟩
            · cases e1
          · exact q.elim
end
end TG

set_option Elab.async false
set_option linter.all false
set_option maxRecDepth 100000
set_option maxHeartbeats 2000000
namespace TG
open PySem L2 PyProof.Rows

/-! ### a comprehension's block -/
theorem XOk.blk {X : Cx} {Wx : WX} (ok : XOk X Wx) {s : Shared} {H : Hp} {scope : Scope} {ce : Env} {fp : List Addr} : XOk (X.blk s H scope ce fp) W0 :=
  ⟨fun u s' ⟨a, B, sI, pins, σ, H, cls, d, e, I, nb, up, sky, na, os, ag, z⟩ => z.elim, PassesOwn.never, ok.nd⟩

/-! ### list(x) -/
def fListOf (x : W) (s : S) : Res (List W) := match asSeq x s with | some l => .ok l s | none => .no
def eListOf (a : Cmp (List W)) : Cmp (List W) := fun ρ s => (a ρ s).bind fun ws s1 => match ws with | [x] => fListOf x s1 | _ => .no
section
variable {X : Cx} {cl : Str → Option Addr} {Wx : WX} {e o i c : Expr} {es : List Expr} {pos p p' : Pos} {el : Cmp (List W)} {ea eo ei ev : Cmp W} {et : Cmp Bool} {b : Stm} {sts : List Stmt}
theorem jl_listof (hg : Gl X "list") (hm : X.mg "list" = none) (ha : JA cl Wx X [e] el) (h3 : starEach (e :: []) X.env = (false, eval e X.env) :: starEach [] X.env := by rfl) (h4 : ((backTo pos (starEach [] X.env)).any fun x => x.fst) = false := by rfl) :
    JL cl Wx X (.Call (.Name "list" p) [e] [] pos) (eListOf el) :=
  PE.weaken (pe_callTy call_list_of hg hm (by decide +kernel) ha (by decide) (by decide) h3 h4) fun σ H Q ⟨H0, m, ow, s, ρ, cx, h⟩ => ⟨H0, m, ow, s, ρ, cx, RunE.bind h fun ws s1 v H1 H1' m1 g st rr h2 => by
    cases rr with
    | nil => exact h2.elim
    | @cons v w vs ws r1 r2 =>
      cases r2 with
      | cons _ _ => exact h2.elim
      | nil =>
        have h2 : RunE X.K cl (rrL X.K cl) Wx H1 H1' m1 σ Q (fListOf w s1) := h2
        unfold fListOf at h2
        split at h2
        · rename_i l q
          obtain ⟨p, us, q1, q2, q3⟩ := asSeq_ok st r1 q
          refine ⟨p, us, by rw [q1], ?_, fun t ht => ?_⟩
          · rcases q2 with q2 | q2
            · exact .inl (sqL_of q2)
            · exact .inr (sqT_of q2)
          · exact h2 _ _ _ _ (Go.fresh ht) (st.fresh ht) ⟨t, us, rfl, ht, upd_same, st.h0 ht, st.notM ht, q3⟩
        · exact h2.elim⟩

/-! ### x[i] = e, x a cell (a list) -/
def setL (x i v : W) (s : S) : Option S := match x, asInt i with
  | .r n, some k => (match s[n]? with
    | some (.lst l) => (ixN l.length k).map fun j => s.set n (.lst (l.set j v))
    | _ => none)
  | _, _ => none
def sSetI (o i v : Cmp W) : Stm := fun ρ s => ebS (v ρ s) ρ fun x ρ s => ebS (o ρ s) ρ fun y ρ s => ebS (i ρ s) ρ fun z ρ s => match setL y z x s with | some s' => .nx ρ s' | none => .no
theorem nodup_inj {m : List Addr} (nd : m.Nodup) {i j : Nat} {a : Addr} (h1 : m[i]? = some a) (h2 : m[j]? = some a) : i = j := by
  obtain ⟨i1, j1⟩ := List.getElem?_eq_some_iff.mp h1
  obtain ⟨i2, j2⟩ := List.getElem?_eq_some_iff.mp h2
  have q := List.pairwise_iff_getElem.mp nd
  rcases Nat.lt_trichotomy i j with z | z | z
  · exact absurd (j1.trans j2.symm) (q i j i1 i2 z)
  · exact z
  · exact absurd (j2.trans j1.symm) (q j i i2 i1 z)
theorem Stt.updCell {K : PySem.W.Frag} {H0 H : Hp} {m : List Addr} {s : S} {n : Nat} {a : Addr} {ho : HO} {c : Cell} (st : Stt K cl H0 H m s) (h1 : m[n]? = some a) (h2 : n < s.length) (r : CellR K cl H0 (upd H a ho) m a c) : Stt K cl H0 (upd H a ho) m (s.set n c) := by
  obtain ⟨z1, _⟩ := st.cell n a s[n] h1 (by simp [h2])
  refine ⟨fun b x e => ?_, by simp [st.len], st.nd, fun k q d e1 e2 => ?_⟩
  · have : b ≠ a := fun z => by subst z; rw [z1] at e; cases e
    rw [upd_ne this]; exact st.sub _ _ e
  · by_cases hk : n = k
    · subst hk
      rw [h1] at e1
      cases e1
      rw [List.getElem?_set_self h2] at e2
      cases e2
      exact ⟨z1, r⟩
    · rw [List.getElem?_set_ne hk] at e2
      obtain ⟨y1, y2⟩ := st.cell k q d e1 e2
      have ne : q ≠ a := fun z => by
        subst z
        exact hk (nodup_inj st.nd h1 e1)
      exact ⟨y1, y2.mono (Same.refl _) List.prefix_rfl fun o z => by rw [upd_ne ne]; exact z⟩
theorem Go.updCell {H0 H : Hp} {m : List Addr} {a : Addr} {ho : HO} (h : a ∈ m) : GoE H0 H m H0 (upd H a ho) m :=
  ⟨Same.refl _, List.prefix_rfl, fun b x e h1 _ => by
    have : b ≠ a := fun z => h1 (z ▸ h)
    rw [upd_ne this]; exact e, fun b e => by
    unfold upd; split
    · simp
    · exact e, fun _ _ _ _ e => e, fun _ e => .inl e, fun _ e => .inl e⟩
theorem js_setI (ho : JE cl Wx X o eo) (hi : JE cl Wx X i ei) (hv : JE cl Wx X e ev)
    (ha : ∀ v : Value, assign (.Subscript o i p) X.env v = (do let ov ← holding [v] (eval o X.env); let iv ← holding [v, ov] (eval i X.env); standAt p; holding [v, ov, iv] (setItem ov iv v); release [v, ov, iv] []) := by exact fun _ => rfl)
    (h1 : swapsWithSole [.Subscript o i p] e pos.line X.env = pure false := by rfl) (h2 : swappedStores [.Subscript o i p] e X.env = pure none := by rfl) (h3 : List.map (fun x => x.snd) (assignEach [.Subscript o i p] X.env) = [assign (.Subscript o i p) X.env] := by rfl) :
    JS cl Wx X (.Assign [.Subscript o i p] e pos) (sSetI eo ei ev) :=
  PS.weaken (ps_asg hv (pg_sub ho hi set_list ha) h1 h2 h3) fun E σ H ⟨H0, m, ow, s, ρ, cx, h⟩ => ⟨H0, m, ow, s, ρ, cx, RunS.ofE cx h fun x s1 v H1 H1' m1 g c rr q1 => ⟨H1, m1, ow, s1, ρ, c, RunS.ofE c q1 fun y s2 u H2 H2' m2 g2 c2 r2 q2 => ⟨H2, m2, ow, s2, ρ, c2, RunS.ofE c2 q2 fun z s3 uz H3 H3' m3 g3 c3 r3 q3 => by
    have q3 : RunS X.K cl Wx H3 H3' m3 ow E (match setL y z x s3 with | some s' => .nx ρ s' | none => .no) := q3
    have r2 := RepW.mono g3.s0 g3.pre r2
    have rr := RepW.mono (g2.trans g3).s0 (g2.trans g3).pre rr
    cases e1 : setL y z x s3 with
    | none => rw [e1] at q3; exact q3.elim
    | some s' =>
      rw [e1] at q3
      unfold setL at e1
      split at e1
      · rename_i n k e2 _
        obtain ⟨a, a1, a2⟩ := r2
        split at e1
        · rename_i l e3
          cases e4 : ixN l.length k with
          | none => rw [e4] at e1; cases e1
          | some j =>
            rw [e4] at e1
            cases e1
            obtain ⟨z1, vs, z2, z3⟩ := c3.st.cell n a _ a1 e3
            have hn : n < s3.length := (List.getElem?_eq_some_iff.mp e3).1
            have am : a ∈ m3 := List.mem_of_getElem? a1
            have gg : GoE H3 H3' m3 H3 (upd H3' a (.lst (vs.set j v))) m3 := Go.updCell am
            refine ⟨a, vs, k, j, a2, asInt_ok r3 e2, z2, by rw [z3.length]; exact e4, ?_⟩
            exact q3 σ _ _ _ _ gg.lift (c3.go gg (c3.st.updCell a1 hn ⟨_, upd_same, z3.set rr j⟩))
        · cases e1
      · cases e1⟩⟩⟩

/-! ### while -/
def whileE (t : Cmp Bool) (b : Stm) : Nat → Stm
  | 0 => fun _ _ => .no
  | n + 1 => fun ρ s => ebS (t ρ s) ρ fun x ρ s => if x = true then forK (whileE t b n) (b ρ s) else .nx ρ s
def sWhile (f : Rho → Nat) (t : Cmp Bool) (b : Stm) : Stm := fun ρ s => whileE t b (f ρ) ρ s
theorem js_while (f : Rho → Nat) (ok : XOk X Wx) (ht : JT cl Wx X c et) (hb : JB cl Wx X sts b) : JS cl Wx X (.While c sts [] pos) (sWhile f et b) :=
  PS.weaken (ps_while ok.po ht hb) fun E σ H ⟨H0, m, ow, s, ρ, cx, h⟩ => by
    refine ⟨fun k σ' H' => ∃ H0' m' ow' s' ρ', Ctx X.K cl H0' H' m' ow' s' σ' ρ' ∧ RunS X.K cl Wx H0' H' m' ow' E (whileE et b k ρ' s'), ⟨f ρ, H0, m, ow, s, ρ, cx, h⟩, fun k σ' H' ⟨H0', m', ow', s', ρ', c', q⟩ => ?_⟩
    cases k with
    | zero => exact q.elim
    | succ k =>
      have q : RunS X.K cl Wx H0' H' m' ow' E (ebS (et ρ' s') ρ' fun x ρ s => if x = true then forK (whileE et b k) (b ρ s) else .nx ρ s) := q
      refine ⟨H0', m', ow', s', ρ', c', RunS.ofE c' q fun x s1 v H1 H1' m1 g c2 rr q2 => ?_⟩
      have rr : v = x := rr
      subst rr
      cases v with
      | false => exact iteF (RunS.nxt q2 c2)
      | true =>
        refine iteT ⟨fun σ2 H2 => ∃ H0' m' ow' s' ρ', Ctx X.K cl H0' H2 m' ow' s' σ2 ρ' ∧ RunS X.K cl Wx H0' H2 m' ow' E (whileE et b k ρ' s'), fun σ2 H2 q => ⟨k, Nat.lt_succ_self _, q⟩, H1, m1, ow', s1, ρ', c2, ?_⟩
        have q2 : RunS X.K cl Wx H1 H1' m1 ow' E (forK (whileE et b k) (b ρ' s1)) := q2
        cases e6 : b ρ' s1 with
        | nx ρ2 s2 =>
          rw [e6] at q2
          have q2 : RunS X.K cl Wx H1 H1' m1 ow' E (whileE et b k ρ2 s2) := q2
          exact fun σ' H0' H' m' ow' g' c' => ⟨H0', m', ow', s2, ρ2, c', q2.shift g'⟩
        | cnt ρ2 s2 =>
          rw [e6] at q2
          have q2 : RunS X.K cl Wx H1 H1' m1 ow' E (whileE et b k ρ2 s2) := q2
          exact fun σ' H0' H' m' ow' g' c' => ⟨H0', m', ow', s2, ρ2, c', q2.shift g'⟩
        | brk ρ2 s2 => rw [e6] at q2; exact q2
        | ret v s2 => rw [e6] at q2; exact q2
        | exc c x ρ2 s2 => rw [e6] at q2; exact q2
        | no => rw [e6] at q2; exact q2

/-! ### never; x op= e; a, b = e, f -/
def sNo : Stm := fun _ _ => .no
theorem js_never {st : Stmt} : JS cl Wx X st sNo := PS.weaken ps_never fun E σ H ⟨H0, m, ow, s, ρ, cx, h⟩ => h.elim
def sAug (i : Nat) (f : W → W → S → Res W) (e : Cmp W) : Stm := fun ρ s => match ρ[i]? with
  | some (.w x) => ebS (e ρ s) ρ fun y ρ s => ebS (f x y s) ρ fun z ρ s => .nx (ρ.set i (.w z)) s
  | _ => .no
theorem ip_mul {X : Cx} : PIp X .Mult (rI CMul fun i j => .int (i * j)) := by
  rintro pins s σ H x y v u Q I r1 r2 ⟨i, j, rfl, rfl, hm, q⟩
  obtain ⟨t, rfl⟩ := r1
  obtain ⟨t', rfl⟩ := r2
  refine PyProof.Rows.imul_int (s := s) ⟨.int _, H, I.tok _, ⟨_, rfl⟩, q⟩ ?_
  rcases hm with ⟨a, b⟩ | ⟨a, b⟩
  · exact .of_left (intBits_le_64 a b)
  · exact .of_right (intBits_le_64 a b)
abbrev fMulI := fI2c kMul fun i j => .int (i * j)
theorem ops_mulI {K : PySem.W.Frag} : OpS K cl (rI CMul fun i j => .int (i * j)) fMulI := ops_I2c (fun i j h => by
  have h := of_decide_eq_true h
  unfold CMul
  rw [show ((2 : Int) ^ 64) = 18446744073709551616 by decide]
  omega) fun _ _ _ => .int
theorem js_aug (k : Nat) {x : Str} {op : Operator} {r : R2} {f : W → W → S → Res W} (nd : X.N.Nodup) (hp : PIp X op r) (ho : OpS X.K cl r f) (h : JE cl Wx X e ea) (hN : X.N[k]? = some x := by rfl) (hl : L2.Loc X.env.scope x := by first | exact Or.inl rfl | exact Or.inr rfl)
    (hf : X.fn x = true ∨ List.lookup x X.env.scope.names = some NameKind.local := by first | exact Or.inl rfl | exact Or.inr rfl) : JS cl Wx X (.AugAssign (.Name x p) op e pos) (sAug k f ea) :=
  PS.weaken (ps_aug nd hN hl h hp hf) fun E σ H ⟨H0, m, ow, s, ρ, cx, h⟩ => by
    unfold sAug at h
    split at h
    · rename_i w e0
      obtain ⟨v, h1, h2⟩ := cx.en.slot k _ e0
      refine ⟨v, h1, H0, m, ow, s, ρ, cx, RunS.ofE cx h fun y s1 u H1 H1' m1 g c rr q => ?_⟩
      exact ho Wx σ H1 H1' m1 s1 v u w y _ c.st (RepW.mono g.s0 g.pre h2) rr (RunS.ofE c q fun z s2 uz H2 H2' m2 g2 c2 r2 q2 => RunS.nxt q2 (c2.setW r2 k))
    · exact h.elim
def sPar (i j : Nat) (a : Cmp (List W)) : Stm := fun ρ s => ebS (a ρ s) ρ fun ws ρ s => match ws with | [x, y] => .nx ((ρ.set i (.w x)).set j (.w y)) s | _ => .no
theorem js_par (k l : Nat) {x y : Str} {ex ey : Expr} {px py pt pt2 : Pos} {kt k2 : Nat} (hc : X.calm = true) (nd : X.N.Nodup) (h : JA cl Wx X [ex, ey] el) (hi : X.N[k]? = some x := by rfl) (hj : X.N[l]? = some y := by rfl) (hn : k ≠ l := by decide)
    (l1 : List.lookup x X.env.scope.names = some NameKind.local := by rfl) (l2 : List.lookup y X.env.scope.names = some NameKind.local := by rfl)
    (q1 : swappedStores [.Tuple [.Name x px, .Name y py] kt pt] (.Tuple [ex, ey] k2 pt2) X.env = pure (some [x, y]) := by rfl) (q2 : swapsWithSole [.Tuple [.Name x px, .Name y py] kt pt] (.Tuple [ex, ey] k2 pt2) pos.line X.env = pure false := by rfl) :
    JS cl Wx X (.Assign [.Tuple [.Name x px, .Name y py] kt pt] (.Tuple [ex, ey] k2 pt2) pos) (sPar k l el) :=
  PS.weaken (ps_par hc nd hi hj hn l1 l2 h q1 q2) fun E σ H ⟨H0, m, ow, s, ρ, cx, h⟩ => ⟨H0, m, ow, s, ρ, cx, RunS.ofE cx h fun ws s1 vs H1 H1' m1 g c rr q => by
    cases rr with
    | nil => exact q.elim
    | cons r1 r2 =>
      cases r2 with
      | nil => exact q.elim
      | cons r2 r3 =>
        cases r3 with
        | cons _ _ => exact q.elim
        | nil => exact ⟨_, _, rfl, RunS.nxt q ((c.setW r1 k).setW r2 l)⟩⟩
/-- an own list is data from here on -/
theorem jb_frz (k : Nat) (h : JB cl Wx X sts b) : JB cl Wx X sts (sFrz k b) := PSs.weaken h fun E σ H ⟨H0, m, ow, s, ρ, cx, h⟩ => by
  unfold sFrz at h
  split at h
  · rename_i l e0
    split at h
    · rename_i ds e1
      obtain ⟨p, vs, h1, h2, h3, h4⟩ := cx.en.slot k _ e0
      obtain ⟨o1, o2, o3⟩ := cx.en.owns p h2
      have rd := h4.ds e1
      have s0 : Same H0 (upd H0 p (.lst vs)) := same_upd o2
      refine ⟨upd H0 p (.lst vs), m, ow.filter (· ≠ p), s, _, ⟨cx.st.freeze o2 h3 o3, ?_⟩, RunS.shift h ?_⟩
      · refine ⟨by simp [cx.en.len], fun j y hj => ?_, fun j k' y z q a1 a2 a3 a4 a5 a6 => ?_, fun q hq => ?_⟩
        · by_cases hjk : k = j
          · subst hjk
            have hl : k < ρ.length := (List.getElem?_eq_some_iff.mp e0).1
            rw [List.getElem?_set_self hl] at hj
            cases hj
            exact ⟨_, h1, Rep.lst upd_same (rd.mono s0)⟩
          · rw [List.getElem?_set_ne hjk] at hj
            have q := cx.en.slot j y hj
            have nn : ∀ r : Addr, σ[j]? = some (some (.ref r)) → y.isOwn = true → r ≠ p := fun r hr hy z => hjk (cx.en.apart k j _ y p e0 hj rfl hy h1 (by rw [hr, z]))
            cases y with
            | no => trivial
            | w x =>
              obtain ⟨u, b1, b2⟩ := q
              exact ⟨u, b1, b2.mono s0 List.prefix_rfl⟩
            | own l' => obtain ⟨r, us, b1, b2, b3, b4⟩ := q; exact ⟨r, us, b1, by simp [b2, nn r b1 rfl], b3, b4.mono s0 List.prefix_rfl⟩
            | ownD l' => obtain ⟨r, us, b1, b2, b3, b4⟩ := q; exact ⟨r, us, b1, by simp [b2, nn r b1 rfl], b3, b4.mono s0 List.prefix_rfl⟩
            | ownI n l' => obtain ⟨r, C, dx, fs, b1, b2, b3, b4, b5⟩ := q; exact ⟨r, C, dx, fs, b1, by simp [b2, nn r b1 rfl], b3, b4, b5.mono s0 List.prefix_rfl⟩
        · have g : ∀ {j : Nat} {y : EV}, (ρ.set k (.w (.d (.lst ds))))[j]? = some y → y.isOwn = true → ρ[j]? = some y := fun {j y} h hy => by
            by_cases hjk : k = j
            · subst hjk
              have hl : k < ρ.length := (List.getElem?_eq_some_iff.mp e0).1
              rw [List.getElem?_set_self hl] at h
              cases h; cases hy
            · rw [List.getElem?_set_ne hjk] at h; exact h
          exact cx.en.apart j k' y z q (g a1 a3) (g a2 a4) a3 a4 a5 a6
        · simp only [List.mem_filter, decide_eq_true_eq] at hq
          obtain ⟨b1, b2, b3⟩ := cx.en.owns q hq.1
          exact ⟨b1, by rw [upd_ne hq.2]; exact b2, b3⟩
      · refine ⟨s0, List.prefix_rfl, fun a o e _ _ => e, fun a e => e, fun a e e1 e2 e3 => ?_, fun a e => .inl e, fun a e => .inl (List.mem_filter.mp e).1⟩
        have : a ≠ p := fun z => e2 (z ▸ h2)
        rw [upd_ne this]; exact e3
    · exact h.elim
  · exact h.elim
end
end TG

set_option Elab.async false
set_option linter.all false
set_option maxRecDepth 100000
set_option maxHeartbeats 2000000
namespace TG
open PySem L2 PyProof.Rows

/-! ### attributes -/
def fldOf (c f : Str) (x : W) (s : S) : Option W := match x with
  | .d (.ins c' l) => if c' = c then (l.lookup f).map W.d else none
  | .r n => (match s[n]? with | some (.ins c' l) => if c' = c then l.lookup f else none | _ => none)
  | _ => none
def eFld (c f : Str) (a : Cmp W) : Cmp W := fun ρ s => (a ρ s).bind fun x s1 => match fldOf c f x s1 with | some w => .ok w s1 | none => .no
/-- the class c has no attribute f of its own -/
structure ClsF (K : PySem.W.Frag) (cl : Str → Option Addr) (c f : Str) : Prop where
  at_ : ∀ C, cl c = some C → Cls K C ∧ NoAttr K C f
def putW (f : Str) (v : W) : List (Str × W) → List (Str × W)
  | [] => [(f, v)]
  | (g, x) :: r => if g = f then (g, v) :: r else (g, x) :: putW f v r
section
variable {K : PySem.W.Frag} {cl : Str → Option Addr} {H0 : Hp} {m : List Addr}
theorem RepF.look {fs : List (Str × V)} {l : List (Str × D)} {f : Str} {x : D} (h : RepF K cl H0 fs l) (e : l.lookup f = some x) : ∃ v, fs.lookup f = some v ∧ Rep K cl H0 v x := by
  induction l generalizing fs with
  | nil => cases e
  | cons a l ih =>
    obtain ⟨g, y⟩ := a
    cases h with
    | @cons _ v _ vs _ h1 h2 =>
      by_cases q : f = g
      · subst q
        simp [List.lookup] at e ⊢
        subst e
        exact h1
      · have q' : (f == g) = false := by simpa using q
        simp only [List.lookup, q'] at e ⊢
        exact ih h2 e
theorem RepWK.look {fs : List (Str × V)} {l : List (Str × W)} {f : Str} {x : W} (h : RepWK K cl H0 m fs l) (e : l.lookup f = some x) : ∃ v, fs.lookup f = some v ∧ RepW K cl H0 m v x := by
  induction h with
  | nil => cases e
  | @cons g v d vs ds h1 h2 ih =>
    by_cases q : f = g
    · subst q
      simp [List.lookup] at e ⊢
      subst e
      exact h1
    · have q' : (f == g) = false := by simpa using q
      simp only [List.lookup, q'] at e ⊢
      exact ih e
theorem RepWK.put {fs : List (Str × V)} {l : List (Str × W)} (h : RepWK K cl H0 m fs l) (f : Str) {v : V} {x : W} (r : RepW K cl H0 m v x) : RepWK K cl H0 m (putF f v fs) (putW f x l) := by
  induction h with
  | nil => exact .cons r .nil
  | @cons g u d vs ds h1 h2 ih =>
    unfold putF putW
    by_cases q : g = f
    · rw [if_pos q, if_pos q]; exact .cons r h2
    · rw [if_neg q, if_neg q]; exact .cons h1 ih
theorem RepWK.length {κ : Type} {fs : List (κ × V)} {l : List (κ × W)} (h : RepWK K cl H0 m fs l) : fs.length = l.length := by
  induction h with
  | nil => rfl
  | cons _ _ ih => rw [List.length_cons, List.length_cons, ih]
theorem fldOf_ok {H : Hp} {s : S} {c f : Str} {v : V} {x y : W} (F : ClsF K cl c f) (st : Stt K cl H0 H m s) (r : RepW K cl H0 m v x) (e : fldOf c f x s = some y) :
    ∃ a C dx fs u, v = .ref a ∧ H a = some (.ins C dx fs) ∧ Cls K C ∧ NoAttr K C f ∧ fs.lookup f = some u ∧ RepW K cl H0 m u y := by
  unfold fldOf at e
  split at e
  · rename_i c' l
    split at e
    · rename_i hc
      subst hc
      cases r with
      | ins h1 h2 h3 =>
        cases q : l.lookup f with
        | none => rw [q] at e; cases e
        | some z =>
          rw [q] at e
          cases e
          obtain ⟨u, k1, k2⟩ := h3.look q
          exact ⟨_, _, _, _, u, rfl, st.sub _ _ h1, (F.at_ _ h2).1, (F.at_ _ h2).2, k1, k2⟩
    · cases e
  · obtain ⟨a, a1, a2⟩ := r
    split at e
    · rename_i c' l q
      split at e
      · rename_i hc
        subst hc
        obtain ⟨_, C, dx, fs, k1, k2, k3⟩ := st.cell _ a _ a1 q
        obtain ⟨u, j1, j2⟩ := k3.look e
        exact ⟨a, C, dx, fs, u, a2, k1, (F.at_ _ k2).1, (F.at_ _ k2).2, j1, j2⟩
      · cases e
    · cases e
  · cases e
end
section
variable {X : Cx} {cl : Str → Option Addr} {Wx : WX} {e o : Expr} {es : List Expr} {pos p p' : Pos} {ea eo : Cmp W} {el : Cmp (List W)} {c f : Str}
theorem je_fld (F : ClsF X.K cl c f) (h : JE cl Wx X e ea) (hb : attributeBase e f X.env (eval e X.env) = eval e X.env := by rfl) : JE cl Wx X (.Attribute e f pos) (eFld c f ea) :=
  PE.weaken (pe_fld h hb) fun σ H Q ⟨H0, m, ow, s, ρ, cx, h⟩ => ⟨H0, m, ow, s, ρ, cx, RunE.bind h fun x s1 v H1 H1' m1 g st rr h2 => by
    have h2 : RunE X.K cl (rrW X.K cl) Wx H1 H1' m1 σ Q (match fldOf c f x s1 with | some w => .ok w s1 | none => .no) := h2
    cases q : fldOf c f x s1 with
    | none => rw [q] at h2; exact h2.elim
    | some y =>
      rw [q] at h2
      obtain ⟨a, C, dx, fs, u, k1, k2, k3, k4, k5, k6⟩ := fldOf_ok F st rr q
      exact ⟨a, C, dx, fs, u, k1, k2, k3, k4, k5, h2.done st k6⟩⟩
/-- o.f = e, o a cell -/
def setF (c f : Str) (x v : W) (s : S) : Option S := match x with
  | .r n => (match s[n]? with
    | some (.ins c' l) => if c' = c ∧ l.length < 1000 then some (s.set n (.ins c (putW f v l))) else none
    | _ => none)
  | _ => none
def sFld (c f : Str) (o v : Cmp W) : Stm := fun ρ s => ebS (v ρ s) ρ fun x ρ s => ebS (o ρ s) ρ fun y ρ s => match setF c f y x s with | some s' => .nx ρ s' | none => .no
theorem js_fld (F : ClsF X.K cl c f) (ho : JE cl Wx X o eo) (h : JE cl Wx X e ea) (hs : swapsWith e (some (.Attribute o f p')) pos.line X.env = pure false := by rfl) : JS cl Wx X (.Assign [.Attribute o f p'] e pos) (sFld c f eo ea) :=
  PS.weaken (ps_fld ho h hs) fun E σ H ⟨H0, m, ow, s, ρ, cx, h⟩ => ⟨H0, m, ow, s, ρ, cx, RunS.ofE cx h fun x s1 v H1 H1' m1 g ct rr h2 => ⟨H1, m1, ow, s1, ρ, ct, RunS.ofE ct h2 fun y s2 u H2 H2' m2 g2 c2 r2 h3 => by
    have h3 : RunS X.K cl Wx H2 H2' m2 ow E (match setF c f y x s2 with | some s' => .nx ρ s' | none => .no) := h3
    have rr := RepW.mono g2.s0 g2.pre rr
    cases e1 : setF c f y x s2 with
    | none => rw [e1] at h3; exact h3.elim
    | some s' =>
      rw [e1] at h3
      unfold setF at e1
      split at e1
      · obtain ⟨a, a1, a2⟩ := r2
        split at e1
        · rename_i c' l e3
          split at e1
          · rename_i hc
            obtain ⟨rfl, hl⟩ := hc
            cases e1
            obtain ⟨z1, C, dx, fs, k1, k2, k3⟩ := c2.st.cell _ a _ a1 e3
            have hn := (List.getElem?_eq_some_iff.mp e3).1
            have gg : GoE H2 H2' m2 H2 (upd H2' a (.ins C dx (putF f v fs))) m2 := Go.updCell (List.mem_of_getElem? a1)
            refine ⟨a, C, dx, fs, a2, k1, (F.at_ _ k2).1, (F.at_ _ k2).2, by rw [k3.length]; exact hl, ?_⟩
            exact h3 σ _ _ _ _ gg.lift (c2.go gg (c2.st.updCell a1 hn ⟨C, dx, _, upd_same, k2, k3.put f rr⟩))
          · cases e1
        · cases e1
      · cases e1⟩⟩
end

/-! ### cells come and go -/
section
variable {K : PySem.W.Frag} {cl : Str → Option Addr} {H0 H H0' H' : Hp} {m m' : List Addr} {s s1 s2 : S} {p : Addr}
theorem Stt.push {c : Cell} (st : Stt K cl H0 H m s) (h0 : H0 p = none) (hm : p ∉ m) (r : CellR K cl H0 H m p c) : Stt K cl H0 H (m ++ [p]) (s ++ [c]) := by
  refine ⟨st.sub, by simp [st.len], ?_, fun n a d q1 q2 => ?_⟩
  · rw [List.nodup_append]
    exact ⟨st.nd, by simp, fun a ha b hb => by rw [List.mem_singleton] at hb; subst hb; intro z; subst z; exact hm ha⟩
  · by_cases hn : n < m.length
    · rw [List.getElem?_append_left hn] at q1
      rw [List.getElem?_append_left (by rw [← st.len]; exact hn)] at q2
      obtain ⟨r1, r2⟩ := st.cell n a d q1 q2
      exact ⟨r1, r2.mono (Same.refl _) (List.prefix_append _ _) fun _ z => z⟩
    · have hn' : n = m.length := by
        have := (List.getElem?_eq_some_iff.mp q1).1
        rw [List.length_append] at this
        simp at this
        omega
      subst hn'
      rw [List.getElem?_append_right (Nat.le_refl _)] at q1
      rw [st.len, List.getElem?_append_right (Nat.le_refl _)] at q2
      simp at q1 q2
      subst q1
      subst q2
      exact ⟨h0, r.mono (Same.refl _) (List.prefix_append _ _) fun _ z => z⟩
theorem Go.push (g : GoE H0 H m H0' H' m') (hp : H p = none) : GoE H0 H m H0' H' (m' ++ [p]) :=
  ⟨g.s0, g.pre.trans (List.prefix_append _ _), g.fr, g.dom, g.n0, fun a ha => by
    rcases List.mem_append.mp ha with ha | ha
    · exact g.nm a ha
    · rw [List.mem_singleton] at ha; subst ha; exact .inr (.inr hp), g.nw⟩
theorem RepWs.back {vs us : List V} {l : List W} (h : RepWs K cl H0 m vs l) (h' : RepWs K cl H0' m' us l) (p : m <+: m') : RepWs K cl H0' m us l := by
  induction h generalizing us with
  | nil => cases h'; exact .nil
  | @cons v d vs l h1 h2 ih =>
    cases h' with
    | cons k1 k2 =>
      refine .cons ?_ (ih k2)
      cases d with
      | d x => exact k1
      | r n =>
        obtain ⟨a, a1, _⟩ := h1
        obtain ⟨b, b1, b2⟩ := k1
        exact ⟨b, by
          obtain ⟨t, rfl⟩ := p
          rw [List.getElem?_append_left (List.getElem?_eq_some_iff.mp a1).1] at b1
          exact b1, b2⟩
theorem RepWK.back {κ : Type} {vs us : List (κ × V)} {l : List (κ × W)} (h : RepWK K cl H0 m vs l) (h' : RepWK K cl H0' m' us l) (p : m <+: m') : RepWK K cl H0' m us l := by
  induction h generalizing us with
  | nil => cases h'; exact .nil
  | @cons k v d vs l h1 h2 ih =>
    cases h' with
    | cons k1 k2 =>
      refine .cons ?_ (ih k2)
      cases d with
      | d x => exact k1
      | r n =>
        obtain ⟨a, a1, _⟩ := h1
        obtain ⟨b, b1, b2⟩ := k1
        exact ⟨b, by
          obtain ⟨t, rfl⟩ := p
          rw [List.getElem?_append_left (List.getElem?_eq_some_iff.mp a1).1] at b1
          exact b1, b2⟩
theorem Stt.trunc (st1 : Stt K cl H0 H m s1) (g : GoE H0 H m H0' H' m') (st2 : Stt K cl H0' H' m' s2) (h : s2.take s1.length = s1) : Stt K cl H0' H' m s1 := by
  refine ⟨st2.sub, st1.len, st1.nd, fun n a c e1 e2 => ?_⟩
  have hn : n < s1.length := (List.getElem?_eq_some_iff.mp e2).1
  have e1' : m'[n]? = some a := by
    obtain ⟨t, rfl⟩ := g.pre
    rw [List.getElem?_append_left (List.getElem?_eq_some_iff.mp e1).1]; exact e1
  have e2' : s2[n]? = some c := by
    rw [← h, List.getElem?_take_of_lt hn] at e2; exact e2
  obtain ⟨q1, q2⟩ := st2.cell n a c e1' e2'
  obtain ⟨_, r2⟩ := st1.cell n a c e1 e2
  refine ⟨q1, ?_⟩
  cases c with
  | lst l =>
    obtain ⟨vs, x1, x2⟩ := q2
    obtain ⟨us, y1, y2⟩ := r2
    exact ⟨vs, x1, y2.back x2 g.pre⟩
  | dic l =>
    obtain ⟨vs, x1, x2⟩ := q2
    obtain ⟨us, y1, y2⟩ := r2
    exact ⟨vs, x1, y2.back x2 g.pre⟩
  | ins c l =>
    obtain ⟨C, dx, vs, x1, x2, x3⟩ := q2
    obtain ⟨_, _, us, y1, _, y2⟩ := r2
    exact ⟨C, dx, vs, x1, x2, y2.back x3 g.pre⟩
theorem Go.trunc (g : GoE H0 H m H0' H' m') : GoE H0 H m H0' H' m := ⟨g.s0, List.prefix_rfl, g.fr, g.dom, g.n0, fun _ h => .inl h, fun _ h => by cases h⟩
end

/-! ### a class made -/
def allDataF : List (Str × W) → Option (List (Str × D))
  | [] => some []
  | (k, .d x) :: r => (allDataF r).map ((k, x) :: ·)
  | (_, .r _) :: _ => none
theorem RepWK.dataF {K : PySem.W.Frag} {cl : Str → Option Addr} {H0 : Hp} {m : List Addr} {vs : List (Str × V)} {l : List (Str × W)} {ds : List (Str × D)} (h : RepWK K cl H0 m vs l) (e : allDataF l = some ds) : RepF K cl H0 vs ds := by
  induction h generalizing ds with
  | nil => cases e; exact .nil
  | @cons k v d vs l h1 h2 ih =>
    cases d with
    | r n => cases e
    | d x =>
      unfold allDataF at e
      cases q : allDataF l with
      | none => rw [q] at e; cases e
      | some z => rw [q] at e; cases e; exact .cons h1 (ih q)
open Classical in
/-- what a class's __init__ f left at the new cell, behind s1 -/
noncomputable def madeD (c : Str) (s1 : S) : Res RV → Res W
  | .ok (.w (.d .non)) s2 => (match s2[s1.length]? with
    | some (.ins c' l) => if c' = c ∧ s2.take s1.length = s1 then (match allDataF l with | some ds => .ok (.d (.ins c ds)) s1 | none => .no) else .no
    | _ => .no)
  | .ok _ _ => .no
  | .exc d x s2 => if s2.take s1.length = s1 then .exc d x s1 else .no
  | .no => .no
/-- C(..), an object that never changes -/
noncomputable def eMake (c : Str) (f : Sem1) (a : Cmp (List W)) : Cmp W := fun ρ s => (a ρ s).bind fun ws s1 => madeD c s1 (f (.r s1.length :: ws) (s1 ++ [.ins c []]))
/-- C(..), a cell -/
def madeC (s1 : S) : Res RV → Res W
  | .ok (.w (.d .non)) s2 => .ok (.r s1.length) s2
  | .ok _ _ => .no
  | .exc d x s2 => .exc d x s2
  | .no => .no
def eMakeC (c : Str) (f : Sem1) (a : Cmp (List W)) : Cmp W := fun ρ s => (a ρ s).bind fun ws s1 => madeC s1 (f (.r s1.length :: ws) (s1 ++ [.ins c []]))
/-- a class that stands: its __init__ -/
structure ClsAt (P : Program) (w : World) (K : PySem.W.Frag) (mg : Str → Option Value) (base : Heap) (cl : Str → Option Addr) (k : Nat) (c : Str) (ps : List Str) (f : Sem1) : Prop where
  ex : ∃ (C a : Addr) (fd : FuncData), cl c = some C ∧ mg c = some (.ref C) ∧ Mk K C a ∧ Binds K fd ps [] ∧ FnOk P w K mg base (L2.CX P w) k a fd ps (spOf K cl f)
theorem ClsAt.mono {P : Program} {w : World} {K : PySem.W.Frag} {mg : Str → Option Value} {base : Heap} {cl : Str → Option Addr} {j k : Nat} {c : Str} {ps : List Str} {f : Sem1} (F : ClsAt P w K mg base cl j c ps f) (h : j ≤ k) : ClsAt P w K mg base cl k c ps f := by
  obtain ⟨C, a, fd, h0, h1, h2, h3, h4⟩ := F.ex
  exact ⟨C, a, fd, h0, h1, h2, h3, h4.mono h⟩
section
variable {X : Cx} {cl : Str → Option Addr} {E : XK} {e : Expr} {es : List Expr} {pos p : Pos} {el : Cmp (List W)} {k : Nat} {c : Str} {ps : List Str} {f : Sem1}
theorem passE (ok : XOk X (wxE E)) : Passes (L2.CX X.prog X.w) X E := passes_call ok.tk fun _ _ _ _ h => h
theorem made_start {K : PySem.W.Frag} {H0 H : Hp} {m : List Addr} {s : S} {C x dx : Addr} (st : Stt K cl H0 H m s) (hC : cl c = some C) (hx : H x = none) (hdx : H dx = none) (hn : dx ≠ x) :
    Stt K cl H0 (upd (upd H dx (.own x)) x (.ins C dx [])) (m ++ [x]) (s ++ [.ins c []]) ∧ GoE H0 H m H0 (upd (upd H dx (.own x)) x (.ins C dx [])) (m ++ [x]) := by
  have hx' : (upd H dx (.own x)) x = none := by rw [upd_ne hn.symm]; exact hx
  have st' := (st.fresh (o := .own x) hdx).fresh (o := .ins C dx []) hx'
  exact ⟨st'.push (st.h0 hx) (st.notM hx) ⟨C, dx, [], upd_same, hC, .nil⟩, ((Go.fresh hdx).trans (Go.fresh hx')).push hx⟩
theorem je_make (ok : XOk X (wxE E)) (hr : Room (k + 1) X.A) (F : ClsAt X.prog X.w X.K X.mg X.base cl k c ps f) (ha : JA cl (wxE E) X (e :: es) el) (hg : Gl X c := by rfl)
    (h1 : (c == Str.ofString "__debug__") = false := by decide) (h2 : starEach (e :: es) X.env = (false, eval e X.env) :: starEach es X.env := by rfl) (h3 : ((backTo pos (starEach es X.env)).any fun x => x.fst) = false := by rfl) :
    JE cl (wxE E) X (.Call (.Name c p) (e :: es) [] pos) (eMake c f el) := by
  obtain ⟨C, a, fd, q0, q1, q2, q3, q4⟩ := F.ex
  refine PE.weaken (pe_make q2 q4 hr hg q1 q3 .nil (passE ok) ha h1 h2 h3) fun σ H Q ⟨H0, m, ow, s, ρ, cx, h⟩ => ⟨H0, m, ow, s, ρ, cx, RunE.bind h fun ws s1 vs H1 H1' m1 g st rr h4 x dx hx hdx hn => ?_⟩
  obtain ⟨st1, g1⟩ := made_start (c := c) st q0 hx hdx hn
  refine ⟨H1, m1 ++ [x], _, .r s1.length :: ws, st1, ?_, ?_⟩
  · rw [List.append_nil]
    exact .cons ⟨x, by rw [← st.len]; simp, rfl⟩ (rr.mono (Same.refl _) (List.prefix_append _ _))
  · cases e1 : f (.r s1.length :: ws) (s1 ++ [.ins c []]) with
    | no => rw [e1] at h4; exact h4
    | exc d z s2 =>
      rw [e1] at h4
      unfold madeD at h4
      dsimp only at h4
      split at h4
      · rename_i hs
        exact fun cv dd H0' H' m' g' st' r' => h4 cv dd H0' H' m1 (g1.trans g').trunc (st.trunc (g1.trans g') st' hs) r'
      · exact h4.elim
    | ok rv s2 =>
      rw [e1] at h4
      unfold madeD at h4
      intro v H0' H' m' g' st' r'
      split at h4
      · rename_i s3 e2
        cases e2
        have hv : v = .non := by cases r'; rfl
        subst hv
        refine ⟨rfl, ?_⟩
        split at h4
        · rename_i c' l e3
          split at h4
          · rename_i hc
            obtain ⟨rfl, ht⟩ := hc
            split at h4
            · rename_i ds e4
              have gg := g1.trans g'
              have hm' : m'[s1.length]? = some x := by
                obtain ⟨t, rfl⟩ := g'.pre
                rw [List.append_assoc, ← st.len, List.getElem?_append_right (Nat.le_refl _)]
                simp
              obtain ⟨z1, C', dx', fs, z2, z3, z4⟩ := st'.cell _ x _ hm' e3
              have stT := st.trunc gg st' ht
              have rF := z4.dataF e4
              refine h4 _ (upd H0' x (.ins C' dx' fs)) H' m1 (gg.trunc.freeze st hx) (stT.freeze z1 z2 (st.notM hx)) (Rep.ins upd_same z3 (rF.mono (same_upd z1)))
            · exact h4.elim
          · exact h4.elim
        · exact h4.elim
      · exact h4.elim
      · rename_i e2; cases e2
      · rename_i e2; cases e2
theorem je_makeC (ok : XOk X (wxE E)) (hr : Room (k + 1) X.A) (F : ClsAt X.prog X.w X.K X.mg X.base cl k c ps f) (ha : JA cl (wxE E) X (e :: es) el) (hg : Gl X c := by rfl)
    (h1 : (c == Str.ofString "__debug__") = false := by decide) (h2 : starEach (e :: es) X.env = (false, eval e X.env) :: starEach es X.env := by rfl) (h3 : ((backTo pos (starEach es X.env)).any fun x => x.fst) = false := by rfl) :
    JE cl (wxE E) X (.Call (.Name c p) (e :: es) [] pos) (eMakeC c f el) := by
  obtain ⟨C, a, fd, q0, q1, q2, q3, q4⟩ := F.ex
  refine PE.weaken (pe_make q2 q4 hr hg q1 q3 .nil (passE ok) ha h1 h2 h3) fun σ H Q ⟨H0, m, ow, s, ρ, cx, h⟩ => ⟨H0, m, ow, s, ρ, cx, RunE.bind h fun ws s1 vs H1 H1' m1 g st rr h4 x dx hx hdx hn => ?_⟩
  obtain ⟨st1, g1⟩ := made_start (c := c) st q0 hx hdx hn
  refine ⟨H1, m1 ++ [x], _, .r s1.length :: ws, st1, ?_, ?_⟩
  · rw [List.append_nil]
    exact .cons ⟨x, by rw [← st.len]; simp, rfl⟩ (rr.mono (Same.refl _) (List.prefix_append _ _))
  · cases e1 : f (.r s1.length :: ws) (s1 ++ [.ins c []]) with
    | no => rw [e1] at h4; exact h4
    | exc d z s2 =>
      rw [e1] at h4
      exact fun cv dd H0' H' m' g' st' r' => h4 cv dd H0' H' m' (g1.trans g') st' r'
    | ok rv s2 =>
      rw [e1] at h4
      unfold madeC at h4
      intro v H0' H' m' g' st' r'
      split at h4
      · rename_i s3 e2
        cases e2
        have hv : v = .non := by cases r'; rfl
        subst hv
        refine ⟨rfl, h4 _ H0' H' m' (g1.trans g') st' ⟨x, ?_, rfl⟩⟩
        obtain ⟨t, rfl⟩ := g'.pre
        rw [List.append_assoc, ← st.len, List.getElem?_append_right (Nat.le_refl _)]
        simp
      · exact h4.elim
      · rename_i e2; cases e2
      · rename_i e2; cases e2
end
end TG

set_option Elab.async false
set_option linter.all false
set_option maxRecDepth 100000
set_option maxHeartbeats 2000000
namespace TG
open PySem L2 PyProof.Rows

section
variable {P : Program} {w : World} {K : PySem.W.Frag} {mg : Str → Option Value} {base : Heap} {cl : Str → Option Addr}
/-- a def with defaults -/
theorem fn_okD {x qual : Str} {params : Arguments} {body : List Stmt} {scope : Scope} {dvs : List V} {f : Addr} {fd : FuncData} {N ps : List Str} {k : Nat} {b : Stm} (F : FunD K x qual params body scope dvs [] f fd) (S : FnScope N ps scope)
    (h : ∀ (cdv : Value) (A : Around) (outer : List Env) (s : Shared) (H : Hp) (E : XK), Room k (A.deeper (envOfC qual scope s.heap.objs.size f cdv)) →
      XOk (cxOf (L2.CX P w) P w K mg base N qual scope f cdv A outer s H E) (wxE E) → JB cl (wxE E) (cxOf (L2.CX P w) P w K mg base N qual scope f cdv A outer s H E) body b) :
    FnOk P w K mg base (L2.CX P w) (k + 1) f fd ps (spOf K cl (runF ps.length N.length b)) := by
  have len : ∀ {vs : List V} {H : Hp} {Q : VK} {E : XK}, spOf K cl (runF ps.length N.length b) vs H Q E → vs.length = ps.length := fun {vs H Q E} ⟨H0, m, s, ws, _, r, q⟩ => by
    by_cases hl : ws.length = ps.length
    · rw [r.length, hl]
    · unfold runF at q
      rw [if_neg hl] at q
      exact q.elim
  refine F.ok S (fun vs H Q E h => len h) fun cdv A outer s H vs Q E hr hsp => ?_
  have hl := len hsp
  refine ⟨_, h cdv A outer s H E hr ⟨takes_of rfl rfl rfl rfl, passes_of rfl, S.nd⟩, ?_⟩
  obtain ⟨H0, m, s', ws, st', rw', q⟩ := hsp
  have hlw : ws.length = ps.length := by rw [← rw'.length]; exact hl
  unfold runF at q
  rw [if_pos hlw] at q
  refine ⟨H0, m, [], s', ws.map .w ++ List.replicate (N.length - ps.length) .no, ⟨st', ?_⟩, ?_⟩
  · show EnvR K cl H0 H m [] (vs.map some ++ List.replicate (N.length - vs.length) none) _
    rw [hl]
    exact rw'.slot _
  · have g0 : ∀ {H0' H' : Hp} {m' ow' : List Addr}, Go H0 H m [] H0' H' m' ow' → GoE H0 H m H0' H' m' := fun g => ⟨g.s0, g.pre, g.fr, g.dom, g.n0, g.nm, fun a z => by cases z⟩
    cases e1 : b (ws.map .w ++ List.replicate (N.length - ps.length) .no) s' with
    | nx ρ s2 => rw [e1] at q; exact fun σ' H0' H' m' ow' g c => q _ _ _ _ (g0 g) c.st Rep.non
    | ret v s2 => rw [e1] at q; exact fun u H0' H' m' ow' g st r => q u _ _ _ (g0 g) st r
    | exc c x ρ s2 => rw [e1] at q; exact fun cv dd σ' H0' H' m' ow' g c e => q _ _ _ _ _ (g0 g) c.st e
    | brk ρ s2 => rw [e1] at q; exact q.elim
    | cnt ρ s2 => rw [e1] at q; exact q.elim
    | no => rw [e1] at q; exact q.elim
/-- as it stands behind the top -/
theorem fund_mk {x qual : Str} {st : Stmt} {f T : Addr} {oc : Value} {od an : Option Addr} {osl : Array (Option Value)} {kV doc pm cdv ct : Value} {dvs : List V} {its : List Value} {cT : Value} {dT : Option Addr} {n : Nat} {sT : Array (Option Value)}
    (l : K.lookup f = some ⟨oc, od, .func (PySem.W.fnOf x qual (defArgs st) (defBody st) (defScope st) (.ref T) kV doc pm an cdv ct), osl⟩) (c : PySem.W.codeIn K cdv qual = true) (k : PySem.W.keepIn K (.ref f) = true)
    (lT : K.lookup T = some ⟨cT, dT, .seq its.toArray n, sT⟩) (ne : dvs ≠ []) (r : Vals dvs its) :
    FunD K x qual (defArgs st) (defBody st) (defScope st) dvs [] f (PySem.W.fnOf x qual (defArgs st) (defBody st) (defScope st) (.ref T) kV doc pm an cdv ct) :=
  ⟨⟨oc, od, .ref T, kV, doc, pm, an, cdv, ct, osl, rfl, l, c, .inr ⟨ne, T, _, its, n, rfl, lT, rfl, r⟩, .inl rfl⟩, k⟩
/-- all arguments are given -/
theorem bindsD {x qual : Str} {params : Arguments} {body : List Stmt} {scope : Scope} {dvs : List V} {f : Addr} {fd : FuncData} {ps : List Str} (F : FunD K x qual params body scope dvs [] f fd) (hd : dvs ≠ [])
    (h : ∀ (T : Addr) (kV doc pm : Value) (an : Option Addr) (cdv ct : Value) (us its : List Value), us.length = ps.length → its.length = dvs.length →
      ∃ k, bindArgs (PySem.W.fnOf x qual params body scope (.ref T) kV doc pm an cdv ct) ⟨us, []⟩ = seqItems? (.ref T) >>= k ∧ k (some its.toArray) = pure (ps.zip us)) : Binds K fd ps [] := by
  obtain ⟨ds, r, b⟩ := F.binds1 (ps := ps) ps.length dvs.length hd (by simp) fun T kV doc pm an cdv ct us its h1 h2 => by
    obtain ⟨k, e1, e2⟩ := h T kV doc pm an cdv ct us its h1 h2
    refine ⟨k, e1, ?_⟩
    rw [e2, ← h2, List.drop_length, List.append_nil]
  rw [List.drop_length] at r
  cases r
  exact b
/-- what the law is asked -/
def spLaw (K : PySem.W.Frag) : Sp := fun vs H Q _ => ∃ (a : Addr) (ns : List Int), vs = [.ref a] ∧ SqL K H a (ns.map V.int) ∧ ns.length ≤ 63 ∧ ∀ H', Q (.bl true) H'
theorem law_ok {k : Nat} {f : Addr} {fd : FuncData} {ps : List Str} {g : Sem1} (F : FnOk P w K mg base (L2.CX P w) k f fd ps (spOf K cl g)) (h : ∀ ns : List Int, ns.length ≤ 63 → ∃ s', g [.d (.scr (ns.map D.int))] [] = .ok (.w (.d (.bl true))) s') :
    FnOk P w K mg base (L2.CX P w) k f fd ps (spLaw K) := F.imp fun vs H Q E ⟨a, ns, e, hS, hl, q⟩ => by
  subst e
  obtain ⟨s', e⟩ := h ns hl
  refine ⟨H, [], [], [.d (.scr (ns.map D.int))], ⟨Same.refl _, rfl, by simp, fun n a c h1 h2 => by simp at h1⟩, .cons (Rep.scr hS (Reps.ints ns)) .nil, ?_⟩
  rw [e]
  intro v H0' H' m' g st r
  cases r
  exact q H'
theorem cx_false {P : Program} {w : World} (H : Hp) (s : Shared) (e : Value) (s' : Shared) : L2.CX P w [] H s (fun _ _ _ => False) e s' → False := fun ⟨_, _, _, _, _, _, _, _, _, _, _, _, z⟩ => z
end
section
variable {X : Cx} {cl : Str → Option Addr} {Wx : WX} {a e elt tg iter : Expr} {ifs : List Expr} {es : List Expr} {pos p py spos : Pos} {ea ee : Cmp W} {el ec : Cmp (List W)} {et : Cmp Bool} {t : Tgt} {sl : List Nat} {own : List (Str × Nat)} {scope : Scope}
theorem je_globI' {x : Str} {i : Int} (hg : Gl X x) (hm : ∃ t, X.mg x = some (.int i t)) (hd : (x == ("__debug__" : Str)) = false := by decide) : JE cl Wx X (.Name x pos) (eC (.int i)) := by
  obtain ⟨t, h⟩ := hm
  exact je_globI hg h hd
theorem je_globS' {x : Str} {i : Str} (hg : Gl X x) (hm : ∃ t, X.mg x = some (.str i t)) (hd : (x == ("__debug__" : Str)) = false := by decide) : JE cl Wx X (.Name x pos) (eC (.str i)) := by
  obtain ⟨t, h⟩ := hm
  exact je_globS hg h hd
/-! y = [e for x in l if t], y a plain local -/
theorem asg_lc {i : Nat} {E : Ends} {σ : L2.St} {H : Hp} {tt : TE} (h : Sof X.K cl Wx (sSetO i el) E σ H) (q : ∀ σ H Q, Tof X.K cl (rrL X.K cl) Wx el σ H Q → tt σ H Q) : tAsg tt (gName i) E σ H := q _ _ _ (asg_own rfl h)
theorem js_setLcO (i : Nat) {y : Str} (hc : X.calm = true) (nd : X.N.Nodup) (hN : X.N[i]? = some y) (hi : JI cl Wx X tg iter ec) (ok : BlkOk X.N X.env.scope scope own)
    (hg : ∀ (s : Shared) (H : Hp) (C : Addr) (cc : List (Str × Addr)) (fp : List Addr), JG cl (X.blk s H scope (compEnvC scope cc C X.env) fp) tg t sl)
    (ht : ∀ (s : Shared) (H : Hp) (C : Addr) (cc : List (Str × Addr)) (fp : List Addr), JTs cl (X.blk s H scope (compEnvC scope cc C X.env) fp) ifs et)
    (he : ∀ (s : Shared) (H : Hp) (C : Addr) (cc : List (Str × Addr)) (fp : List Addr), JE cl W0 (X.blk s H scope (compEnvC scope cc C X.env) fp) elt ee)
    (hl : List.lookup y X.env.scope.names = some NameKind.local := by rfl) (hw : swapsWith (.ListComp elt [⟨tg, iter, ifs, 0⟩] scope pos) (some (.Name y py)) spos.line X.env = pure true := by exact sw_true rfl rfl rfl (by decide +kernel))
    (hsub : ∀ j ∈ sl, j ∈ own.map (·.2) := by decide) (hs : ∀ x, foldedSetIterable iter X.env x = pure x := by exact fun _ => rfl) :
    JS cl Wx X (.Assign [.Name y py] (.ListComp elt [⟨tg, iter, ifs, 0⟩] scope pos) spos) (sSetO i (eLc (own.map (·.2)) ec t et ee)) :=
  PS.weaken (ps_setLc (g := Gof X.K cl t sl) (tt := Tof X.K cl rrB W0 et) (te := Tof X.K cl (rrW X.K cl) W0 ee) hc nd hN hl hw hi ok hg ht he hs) fun E σ H h => asg_lc h fun σ H Q q => lc_tof hsub σ H Q q
theorem js_setLc (i : Nat) {y : Str} (hc : X.calm = true) (nd : X.N.Nodup) (hN : X.N[i]? = some y) (hi : JI cl Wx X tg iter ec) (ok : BlkOk X.N X.env.scope scope own)
    (hg : ∀ (s : Shared) (H : Hp) (C : Addr) (cc : List (Str × Addr)) (fp : List Addr), JG cl (X.blk s H scope (compEnvC scope cc C X.env) fp) tg t sl)
    (ht : ∀ (s : Shared) (H : Hp) (C : Addr) (cc : List (Str × Addr)) (fp : List Addr), JTs cl (X.blk s H scope (compEnvC scope cc C X.env) fp) ifs et)
    (he : ∀ (s : Shared) (H : Hp) (C : Addr) (cc : List (Str × Addr)) (fp : List Addr), JE cl W0 (X.blk s H scope (compEnvC scope cc C X.env) fp) elt ee)
    (hl : List.lookup y X.env.scope.names = some NameKind.local := by rfl) (hw : swapsWith (.ListComp elt [⟨tg, iter, ifs, 0⟩] scope pos) (some (.Name y py)) spos.line X.env = pure true := by exact sw_true rfl rfl rfl (by decide +kernel))
    (hsub : ∀ j ∈ sl, j ∈ own.map (·.2) := by decide) (hs : ∀ x, foldedSetIterable iter X.env x = pure x := by exact fun _ => rfl) :
    JS cl Wx X (.Assign [.Name y py] (.ListComp elt [⟨tg, iter, ifs, 0⟩] scope pos) spos) (sSet i (eFrz (eLc (own.map (·.2)) ec t et ee))) :=
  PS.weaken (ps_setLc (g := Gof X.K cl t sl) (tt := Tof X.K cl rrB W0 et) (te := Tof X.K cl (rrW X.K cl) W0 ee) hc nd hN hl hw hi ok hg ht he hs) fun E σ H ⟨H0, m, ow, s, ρ, cx, h⟩ =>
    lc_tof hsub σ H _ (frz_tof ⟨H0, m, ow, s, ρ, cx, RunS.ofE cx h fun x s1 v H1 H1' m1 g c rr h2 => RunS.nxt h2 (c.setW rr i)⟩)
end
end TG

set_option linter.all false
set_option maxRecDepth 100000
namespace TG
open PySem L2
/-! ### evaluators, step by step -/
@[simp] theorem bind_ok {α β : Type} (a : α) (s : S) (k : α → S → Res β) : (Res.ok a s).bind k = k a s := (rfl)
@[simp] theorem bind_exc {α β : Type} (c : Str) (x : Option D) (s : S) (k : α → S → Res β) : (Res.exc c x s).bind k = .exc c x s := (rfl)
@[simp] theorem bind_no {α β : Type} (k : α → S → Res β) : (Res.no).bind k = .no := (rfl)
@[simp] theorem ebS_ok {α : Type} (a : α) (s : S) (ρ : Rho) (k : α → Stm) : ebS (.ok a s) ρ k = k a ρ s := (rfl)
@[simp] theorem ebS_exc {α : Type} (c : Str) (x : Option D) (s : S) (ρ : Rho) (k : α → Stm) : ebS (.exc c x s) ρ k = .exc c x ρ s := (rfl)
@[simp] theorem sbind_nx (ρ : Rho) (s : S) (k : Stm) : (RS.nx ρ s).bind k = k ρ s := (rfl)
@[simp] theorem sbind_ret (v : RV) (s : S) (k : Stm) : (RS.ret v s).bind k = .ret v s := (rfl)
@[simp] theorem sbind_brk (ρ : Rho) (s : S) (k : Stm) : (RS.brk ρ s).bind k = .brk ρ s := (rfl)
@[simp] theorem sbind_cnt (ρ : Rho) (s : S) (k : Stm) : (RS.cnt ρ s).bind k = .cnt ρ s := (rfl)
@[simp] theorem sbind_exc (c : Str) (x : Option D) (ρ : Rho) (s : S) (k : Stm) : (RS.exc c x ρ s).bind k = .exc c x ρ s := (rfl)
@[simp] theorem forK_nx (k : Stm) (ρ : Rho) (s : S) : forK k (.nx ρ s) = k ρ s := (rfl)
@[simp] theorem forK_cnt (k : Stm) (ρ : Rho) (s : S) : forK k (.cnt ρ s) = k ρ s := (rfl)
@[simp] theorem forK_brk (k : Stm) (ρ : Rho) (s : S) : forK k (.brk ρ s) = .nx ρ s := (rfl)
@[simp] theorem forK_ret (k : Stm) (v : RV) (s : S) : forK k (.ret v s) = .ret v s := (rfl)

/-! continuations by name: simp does not go into them -/
section
def kBin (f : W → W → S → Res W) (b : Cmp W) (ρ : Rho) : W → S → Res W := fun x s => (b ρ s).bind (f x)
def kTest : W → S → Res Bool := fun x s => match asBool x with | some b => .ok b s | none => .no
def kCons2 (x : W) : List W → S → Res (List W) := fun y s => .ok (x :: y) s
def kCons (l : Cmp (List W)) (ρ : Rho) : W → S → Res (List W) := fun x s => (l ρ s).bind (kCons2 x)
def kPart : W → S → Res (Option Int) := fun x s => match asInt x with | some i => .ok (some i) s | none => .no
def kSl2 (f : W → Option Int → Option Int → S → Res W) (q : Cmp (Option Int)) (ρ : Rho) (x : W) : Option Int → S → Res W := fun i s => (q ρ s).bind (f x i)
def kSl (f : W → Option Int → Option Int → S → Res W) (p q : Cmp (Option Int)) (ρ : Rho) : W → S → Res W := fun x s => (p ρ s).bind (kSl2 f q ρ x)
def kAndT (u : Cmp Bool) (ρ : Rho) : Bool → S → Res Bool := fun x s => if x = true then u ρ s else .ok false s
def kOrT (u : Cmp Bool) (ρ : Rho) : Bool → S → Res Bool := fun x s => if x = true then .ok true s else u ρ s
def kNotT : Bool → S → Res Bool := fun x s => .ok (!x) s
def kAndV (b : Cmp W) (ρ : Rho) : W → S → Res W := fun x s => match asBool x with | some true => b ρ s | some false => .ok (.d (.bl false)) s | none => .no
def kOrV (b : Cmp W) (ρ : Rho) : W → S → Res W := fun x s => match asBool x with | some false => b ρ s | some true => .ok (.d (.bl true)) s | none => .no
def kNotV : W → S → Res W := fun x s => match asBool x with | some b => .ok (.d (.bl (!b))) s | none => .no
def kIf (a b : Cmp W) (ρ : Rho) : Bool → S → Res W := fun x s => if x = true then a ρ s else b ρ s
def kCh3 (g : W → W → S → Res W) (d : Cmp W) (ρ : Rho) (y : W) : W → S → Res W := fun z s => match asBool z with | some true => (d ρ s).bind (g y) | some false => .ok (.d (.bl false)) s | none => .no
def kCh2 (f g : W → W → S → Res W) (d : Cmp W) (ρ : Rho) (x : W) : W → S → Res W := fun y s => (f x y s).bind (kCh3 g d ρ y)
def kCh1 (f g : W → W → S → Res W) (b d : Cmp W) (ρ : Rho) : W → S → Res W := fun x s => (b ρ s).bind (kCh2 f g d ρ x)
def kLst : List W → S → Res (List W) := fun z s => if z.length ≤ 16777216 then .ok z s else .no
def kCell : List W → S → Res W := fun z s => .ok (.r s.length) (s ++ [.lst z])
def kSeq : W → S → Res (List W) := fun x s => match seqD x with | some l => .ok (wD l) s | none => .no
def kEnum : List W → S → Res (List W) := fun x s => match x with | [x] => (match seqD x with | some l => .ok (enumD l) s | none => .no) | _ => .no
def kListOf : List W → S → Res (List W) := fun ws s => match ws with | [x] => fListOf x s | _ => .no
def kLc (vs : List Nat) (tg : Tgt) (t : Cmp Bool) (a : Cmp W) (ρ : Rho) : List W → S → Res (List W) := fun z s => if z.length ≤ 16777216 then lcM tg t a (wipeR ρ vs) z s else .no
def kCall (f : Sem1) : List W → S → Res W := fun ws s => (f ws s).bind frzV
def kOwn : RV → S → Res (List W) := fun rv s => match rv with | .own l => .ok l s | _ => .no
def kCallL (f : Sem1) : List W → S → Res (List W) := fun ws s => (f ws s).bind kOwn
def kFld (c f : Str) : W → S → Res W := fun x s => match fldOf c f x s with | some w => .ok w s | none => .no
noncomputable def kMake (c : Str) (f : Sem1) : List W → S → Res W := fun ws s => madeD c s (f (.r s.length :: ws) (s ++ [.ins c []]))
def kMakeC (c : Str) (f : Sem1) : List W → S → Res W := fun ws s => madeC s (f (.r s.length :: ws) (s ++ [.ins c []]))
def kExpr : W → Stm := fun _ ρ s => .nx ρ s
def kSet (i : Nat) : W → Stm := fun x ρ s => .nx (ρ.set i (.w x)) s
def kSetO (i : Nat) : List W → Stm := fun x ρ s => .nx (ρ.set i (.own x)) s
def kSIf (x y : Stm) : Bool → Stm := fun z ρ s => if z = true then x ρ s else y ρ s
def kRet : W → Stm := fun x _ s => .ret (.w x) s
def kRetL : List W → Stm := fun x _ s => .ret (.own x) s
def kApp (i : Nat) (l : List W) : W → Stm := fun x ρ s => if l.length < 16777216 then .nx (ρ.set i (.own (l ++ [x]))) s else .no
def kSetT (tg : Tgt) : W → Stm := fun x ρ s => match tg x ρ with | some ρ' => .nx ρ' s | none => .no
def kSetI3 (x y : W) : W → Stm := fun z ρ s => match setL y z x s with | some s' => .nx ρ s' | none => .no
def kSetI2 (b : Cmp W) (x : W) : W → Stm := fun y ρ s => ebS (b ρ s) ρ (kSetI3 x y)
def kSetI (a b : Cmp W) : W → Stm := fun x ρ s => ebS (a ρ s) ρ (kSetI2 b x)
def kSFld2 (c f : Str) (x : W) : W → Stm := fun y ρ s => match setF c f y x s with | some s' => .nx ρ s' | none => .no
def kSFld (c f : Str) (a : Cmp W) : W → Stm := fun x ρ s => ebS (a ρ s) ρ (kSFld2 c f x)
def kAug (f : W → W → S → Res W) (i : Nat) (x : W) : W → Stm := fun y ρ s => ebS (f x y s) ρ (kSet i)
def kPar (i j : Nat) : List W → Stm := fun ws ρ s => match ws with | [x, y] => .nx ((ρ.set i (.w x)).set j (.w y)) s | _ => .no
def kWh (t : Cmp Bool) (x : Stm) (n : Nat) : Bool → Stm := fun z ρ s => if z = true then forK (whileE t x n) (x ρ s) else .nx ρ s
@[simp] theorem kBin_eq (f : W → W → S → Res W) (b : Cmp W) (ρ : Rho) (x : W) (s : S) : kBin f b ρ x s = (b ρ s).bind (f x) := (rfl)
@[simp] theorem kTest_eq (x : W) (s : S) : kTest x s = match asBool x with | some b => .ok b s | none => .no := (rfl)
@[simp] theorem kCons2_eq (x : W) (y : List W) (s : S) : kCons2 x y s = .ok (x :: y) s := (rfl)
@[simp] theorem kCons_eq (l : Cmp (List W)) (ρ : Rho) (x : W) (s : S) : kCons l ρ x s = (l ρ s).bind (kCons2 x) := (rfl)
@[simp] theorem kPart_eq (x : W) (s : S) : kPart x s = match asInt x with | some i => .ok (some i) s | none => .no := (rfl)
@[simp] theorem kSl2_eq (f : W → Option Int → Option Int → S → Res W) (q : Cmp (Option Int)) (ρ : Rho) (x : W) (i : Option Int) (s : S) : kSl2 f q ρ x i s = (q ρ s).bind (f x i) := (rfl)
@[simp] theorem kSl_eq (f : W → Option Int → Option Int → S → Res W) (p q : Cmp (Option Int)) (ρ : Rho) (x : W) (s : S) : kSl f p q ρ x s = (p ρ s).bind (kSl2 f q ρ x) := (rfl)
@[simp] theorem kAndT_eq (u : Cmp Bool) (ρ : Rho) (x : Bool) (s : S) : kAndT u ρ x s = if x = true then u ρ s else .ok false s := (rfl)
@[simp] theorem kOrT_eq (u : Cmp Bool) (ρ : Rho) (x : Bool) (s : S) : kOrT u ρ x s = if x = true then .ok true s else u ρ s := (rfl)
@[simp] theorem kNotT_eq (x : Bool) (s : S) : kNotT x s = .ok (!x) s := (rfl)
@[simp] theorem kAndV_eq (b : Cmp W) (ρ : Rho) (x : W) (s : S) : kAndV b ρ x s = match asBool x with | some true => b ρ s | some false => .ok (.d (.bl false)) s | none => .no := (rfl)
@[simp] theorem kOrV_eq (b : Cmp W) (ρ : Rho) (x : W) (s : S) : kOrV b ρ x s = match asBool x with | some false => b ρ s | some true => .ok (.d (.bl true)) s | none => .no := (rfl)
@[simp] theorem kNotV_eq (x : W) (s : S) : kNotV x s = match asBool x with | some b => .ok (.d (.bl (!b))) s | none => .no := (rfl)
@[simp] theorem kIf_eq (a b : Cmp W) (ρ : Rho) (x : Bool) (s : S) : kIf a b ρ x s = if x = true then a ρ s else b ρ s := (rfl)
@[simp] theorem kCh3_eq (g : W → W → S → Res W) (d : Cmp W) (ρ : Rho) (y : W) (z : W) (s : S) : kCh3 g d ρ y z s = match asBool z with | some true => (d ρ s).bind (g y) | some false => .ok (.d (.bl false)) s | none => .no := (rfl)
@[simp] theorem kCh2_eq (f g : W → W → S → Res W) (d : Cmp W) (ρ : Rho) (x : W) (y : W) (s : S) : kCh2 f g d ρ x y s = (f x y s).bind (kCh3 g d ρ y) := (rfl)
@[simp] theorem kCh1_eq (f g : W → W → S → Res W) (b d : Cmp W) (ρ : Rho) (x : W) (s : S) : kCh1 f g b d ρ x s = (b ρ s).bind (kCh2 f g d ρ x) := (rfl)
@[simp] theorem kLst_eq (z : List W) (s : S) : kLst z s = if z.length ≤ 16777216 then .ok z s else .no := (rfl)
@[simp] theorem kCell_eq (z : List W) (s : S) : kCell z s = .ok (.r s.length) (s ++ [.lst z]) := (rfl)
@[simp] theorem kSeq_eq (x : W) (s : S) : kSeq x s = match seqD x with | some l => .ok (wD l) s | none => .no := (rfl)
@[simp] theorem kEnum_eq (x : List W) (s : S) : kEnum x s = match x with | [x] => (match seqD x with | some l => .ok (enumD l) s | none => .no) | _ => .no := (rfl)
@[simp] theorem kListOf_eq (ws : List W) (s : S) : kListOf ws s = match ws with | [x] => fListOf x s | _ => .no := (rfl)
@[simp] theorem kLc_eq (vs : List Nat) (tg : Tgt) (t : Cmp Bool) (a : Cmp W) (ρ : Rho) (z : List W) (s : S) : kLc vs tg t a ρ z s = if z.length ≤ 16777216 then lcM tg t a (wipeR ρ vs) z s else .no := (rfl)
@[simp] theorem kCall_eq (f : Sem1) (ws : List W) (s : S) : kCall f ws s = (f ws s).bind frzV := (rfl)
@[simp] theorem kOwn_eq (rv : RV) (s : S) : kOwn rv s = match rv with | .own l => .ok l s | _ => .no := (rfl)
@[simp] theorem kCallL_eq (f : Sem1) (ws : List W) (s : S) : kCallL f ws s = (f ws s).bind kOwn := (rfl)
@[simp] theorem kFld_eq (c f : Str) (x : W) (s : S) : kFld c f x s = match fldOf c f x s with | some w => .ok w s | none => .no := (rfl)
@[simp] theorem kMake_eq (c : Str) (f : Sem1) (ws : List W) (s : S) : kMake c f ws s = madeD c s (f (.r s.length :: ws) (s ++ [.ins c []])) := (rfl)
@[simp] theorem kMakeC_eq (c : Str) (f : Sem1) (ws : List W) (s : S) : kMakeC c f ws s = madeC s (f (.r s.length :: ws) (s ++ [.ins c []])) := (rfl)
@[simp] theorem kExpr_eq (u_0 : W) (ρ : Rho) (s : S) : kExpr u_0 ρ s = .nx ρ s := (rfl)
@[simp] theorem kSet_eq (i : Nat) (x : W) (ρ : Rho) (s : S) : kSet i x ρ s = .nx (ρ.set i (.w x)) s := (rfl)
@[simp] theorem kSetO_eq (i : Nat) (x : List W) (ρ : Rho) (s : S) : kSetO i x ρ s = .nx (ρ.set i (.own x)) s := (rfl)
@[simp] theorem kSIf_eq (x y : Stm) (z : Bool) (ρ : Rho) (s : S) : kSIf x y z ρ s = if z = true then x ρ s else y ρ s := (rfl)
@[simp] theorem kRet_eq (x : W) (u_1 : Rho) (s : S) : kRet x u_1 s = .ret (.w x) s := (rfl)
@[simp] theorem kRetL_eq (x : List W) (u_1 : Rho) (s : S) : kRetL x u_1 s = .ret (.own x) s := (rfl)
@[simp] theorem kApp_eq (i : Nat) (l : List W) (x : W) (ρ : Rho) (s : S) : kApp i l x ρ s = if l.length < 16777216 then .nx (ρ.set i (.own (l ++ [x]))) s else .no := (rfl)
@[simp] theorem kSetT_eq (tg : Tgt) (x : W) (ρ : Rho) (s : S) : kSetT tg x ρ s = match tg x ρ with | some ρ' => .nx ρ' s | none => .no := (rfl)
@[simp] theorem kSetI3_eq (x y : W) (z : W) (ρ : Rho) (s : S) : kSetI3 x y z ρ s = match setL y z x s with | some s' => .nx ρ s' | none => .no := (rfl)
@[simp] theorem kSetI2_eq (b : Cmp W) (x : W) (y : W) (ρ : Rho) (s : S) : kSetI2 b x y ρ s = ebS (b ρ s) ρ (kSetI3 x y) := (rfl)
@[simp] theorem kSetI_eq (a b : Cmp W) (x : W) (ρ : Rho) (s : S) : kSetI a b x ρ s = ebS (a ρ s) ρ (kSetI2 b x) := (rfl)
@[simp] theorem kSFld2_eq (c f : Str) (x : W) (y : W) (ρ : Rho) (s : S) : kSFld2 c f x y ρ s = match setF c f y x s with | some s' => .nx ρ s' | none => .no := (rfl)
@[simp] theorem kSFld_eq (c f : Str) (a : Cmp W) (x : W) (ρ : Rho) (s : S) : kSFld c f a x ρ s = ebS (a ρ s) ρ (kSFld2 c f x) := (rfl)
@[simp] theorem kAug_eq (f : W → W → S → Res W) (i : Nat) (x : W) (y : W) (ρ : Rho) (s : S) : kAug f i x y ρ s = ebS (f x y s) ρ (kSet i) := (rfl)
@[simp] theorem kPar_eq (i j : Nat) (ws : List W) (ρ : Rho) (s : S) : kPar i j ws ρ s = match ws with | [x, y] => .nx ((ρ.set i (.w x)).set j (.w y)) s | _ => .no := (rfl)
@[simp] theorem kWh_eq (t : Cmp Bool) (x : Stm) (n : Nat) (z : Bool) (ρ : Rho) (s : S) : kWh t x n z ρ s = if z = true then forK (whileE t x n) (x ρ s) else .nx ρ s := (rfl)
end
section
variable (ρ : Rho) (s : S) (a b d : Cmp W) (t u : Cmp Bool) (l : Cmp (List W)) (p q : Cmp (Option Int)) (x y : Stm)
@[simp] theorem eC_eq (v : D) : eC v ρ s = .ok (.d v) s := (rfl)
@[simp] theorem eVar_eq (i : Nat) : eVar i ρ s = match (ρ[i]? : Option EV) with | some (.w x) => .ok x s | _ => .no := (rfl)
@[simp] theorem eBin_eq (f : W → W → S → Res W) : eBin f a b ρ s = (a ρ s).bind (kBin f b ρ) := (rfl)
@[simp] theorem eUn_eq (f : W → S → Res W) : eUn f a ρ s = (a ρ s).bind f := (rfl)
@[simp] theorem eTest_eq : eTest a ρ s = (a ρ s).bind kTest := (rfl)
@[simp] theorem eNil_eq : eNil ρ s = .ok [] s := (rfl)
@[simp] theorem eCons_eq : eCons a l ρ s = (a ρ s).bind (kCons l ρ) := (rfl)
@[simp] theorem eArgs_eq (f : List W → S → Res W) : eArgs f l ρ s = (l ρ s).bind f := (rfl)
@[simp] theorem eNoPart_eq : eNoPart ρ s = .ok none s := (rfl)
@[simp] theorem ePart_eq : ePart a ρ s = (a ρ s).bind kPart := (rfl)
@[simp] theorem eSl_eq (f : W → Option Int → Option Int → S → Res W) : eSl f a p q ρ s = (a ρ s).bind (kSl f p q ρ) := (rfl)
@[simp] theorem eAndT_eq : eAndT t u ρ s = (t ρ s).bind (kAndT u ρ) := (rfl)
@[simp] theorem eOrT_eq : eOrT t u ρ s = (t ρ s).bind (kOrT u ρ) := (rfl)
@[simp] theorem eNotT_eq : eNotT t ρ s = (t ρ s).bind kNotT := (rfl)
@[simp] theorem eAndV_eq : eAndV a b ρ s = (a ρ s).bind (kAndV b ρ) := (rfl)
@[simp] theorem eOrV_eq : eOrV a b ρ s = (a ρ s).bind (kOrV b ρ) := (rfl)
@[simp] theorem eNotV_eq : eNotV a ρ s = (a ρ s).bind kNotV := (rfl)
@[simp] theorem eIf_eq : eIf t a b ρ s = (t ρ s).bind (kIf a b ρ) := (rfl)
@[simp] theorem eChain_eq (f g : W → W → S → Res W) : eChain f g a b d ρ s = (a ρ s).bind (kCh1 f g b d ρ) := (rfl)
@[simp] theorem eTup_eq : eTup l ρ s = (l ρ s).bind mkTup := (rfl)
@[simp] theorem eLst_eq : eLst l ρ s = (l ρ s).bind kLst := (rfl)
@[simp] theorem eFrz_eq (l : Cmp (List W)) : eFrz l ρ s = (l ρ s).bind frzL := (rfl)
@[simp] theorem eCell_eq (l : Cmp (List W)) : eCell l ρ s = (l ρ s).bind kCell := (rfl)
@[simp] theorem eSeq_eq : eSeq a ρ s = (a ρ s).bind kSeq := (rfl)
@[simp] theorem eRng1_eq : eRng1 l ρ s = (l ρ s).bind rng1 := (rfl)
@[simp] theorem eRng2_eq : eRng2 l ρ s = (l ρ s).bind rng2 := (rfl)
@[simp] theorem eEnum_eq : eEnum l ρ s = (l ρ s).bind kEnum := (rfl)
@[simp] theorem eListOf_eq : eListOf l ρ s = (l ρ s).bind kListOf := (rfl)
@[simp] theorem eLc_eq (vs : List Nat) (tg : Tgt) : eLc vs l tg t a ρ s = (l ρ s).bind (kLc vs tg t a ρ) := (rfl)
@[simp] theorem eYes_eq : eYes ρ s = .ok true s := (rfl)
@[simp] theorem eCall_eq (f : Sem1) : eCall f l ρ s = (l ρ s).bind (kCall f) := (rfl)
@[simp] theorem eCallL_eq (f : Sem1) : eCallL f l ρ s = (l ρ s).bind (kCallL f) := (rfl)
@[simp] theorem eFld_eq (c f : Str) : eFld c f a ρ s = (a ρ s).bind (kFld c f) := (rfl)
@[simp] theorem eMake_eq (c : Str) (f : Sem1) : eMake c f l ρ s = (l ρ s).bind (kMake c f) := (rfl)
@[simp] theorem eMakeC_eq (c : Str) (f : Sem1) : eMakeC c f l ρ s = (l ρ s).bind (kMakeC c f) := (rfl)
@[simp] theorem sNext_eq : sNext ρ s = .nx ρ s := (rfl)
@[simp] theorem sSeq_eq : sSeq x y ρ s = (x ρ s).bind y := (rfl)
@[simp] theorem sExpr_eq : sExpr a ρ s = ebS (a ρ s) ρ kExpr := (rfl)
@[simp] theorem sSet_eq (i : Nat) : sSet i a ρ s = ebS (a ρ s) ρ (kSet i) := (rfl)
@[simp] theorem sSetO_eq (i : Nat) : sSetO i l ρ s = ebS (l ρ s) ρ (kSetO i) := (rfl)
@[simp] theorem sIf_eq : sIf t x y ρ s = ebS (t ρ s) ρ (kSIf x y) := (rfl)
@[simp] theorem sRet_eq : sRet a ρ s = ebS (a ρ s) ρ kRet := (rfl)
@[simp] theorem sRetL_eq : sRetL l ρ s = ebS (l ρ s) ρ kRetL := (rfl)
@[simp] theorem sRetN_eq : sRetN ρ s = .ret (.w (.d .non)) s := (rfl)
@[simp] theorem sRetO_eq (i : Nat) : sRetO i ρ s = match (ρ[i]? : Option EV) with | some (.own l) => .ret (.own l) s | some (.ownD l) => .ret (.ownD l) s | _ => .no := (rfl)
@[simp] theorem sBreak_eq : sBreak ρ s = .brk ρ s := (rfl)
@[simp] theorem sApp_eq (i : Nat) : sApp i a ρ s = match (ρ[i]? : Option EV) with | some (.own l) => ebS (a ρ s) ρ (kApp i l) | _ => .no := (rfl)
@[simp] theorem sFrz_eq (i : Nat) : sFrz i x ρ s = match (ρ[i]? : Option EV) with | some (.own l) => (match allData l with | some ds => x (ρ.set i (.w (.d (.lst ds)))) s | none => .no) | _ => .no := (rfl)
@[simp] theorem sSetT_eq (tg : Tgt) : sSetT tg a ρ s = ebS (a ρ s) ρ (kSetT tg) := (rfl)
@[simp] theorem sFor_eq (tg : Tgt) : sFor l tg x ρ s = ebS (l ρ s) ρ (forE tg x) := (rfl)
@[simp] theorem sSetI_eq : sSetI a b d ρ s = ebS (d ρ s) ρ (kSetI a b) := (rfl)
@[simp] theorem sFld_eq (c f : Str) : sFld c f a b ρ s = ebS (b ρ s) ρ (kSFld c f a) := (rfl)
@[simp] theorem sWhile_eq (f : Rho → Nat) : sWhile f t x ρ s = whileE t x (f ρ) ρ s := (rfl)
@[simp] theorem sNo_eq : sNo ρ s = .no := (rfl)
@[simp] theorem sAug_eq (i : Nat) (f : W → W → S → Res W) : sAug i f a ρ s = match (ρ[i]? : Option EV) with | some (.w x) => ebS (a ρ s) ρ (kAug f i x) | _ => .no := (rfl)
@[simp] theorem sPar_eq (i j : Nat) : sPar i j l ρ s = ebS (l ρ s) ρ (kPar i j) := (rfl)
@[simp] theorem tgName_eq (i : Nat) (w : W) : tgName i w ρ = some (ρ.set i (.w w)) := (rfl)
@[simp] theorem tgTup_eq (n : Nat) (u : List W → Rho → Option Rho) (w : W) : tgTup n u w ρ = match asTup w with | some l => if l.length = n then u (wD l) ρ else none | none => none := (rfl)
@[simp] theorem tgNil_eq : tgNil [] ρ = some ρ := (rfl)
@[simp] theorem tgCons_eq (t : Tgt) (u : List W → Rho → Option Rho) (w : W) (r : List W) : tgCons t u (w :: r) ρ = (t w ρ).bind (u r) := (rfl)
@[simp] theorem forE_nil (tg : Tgt) : forE tg x [] ρ s = .nx ρ s := (rfl)
theorem forE_cons (tg : Tgt) (w : W) (r : List W) : forE tg x (w :: r) ρ s = match tg w ρ with | none => .no | some ρ1 => forK (forE tg x r) (x ρ1 s) := (rfl)
@[simp] theorem whileE_succ (n : Nat) : whileE t x (n + 1) ρ s = ebS (t ρ s) ρ (kWh t x n) := (rfl)
end
/-! ### values -/
@[simp] theorem asInt_int (i : Int) : asInt (.d (.int i)) = some i := (rfl)
@[simp] theorem asInt_bl (i : Bool) : asInt (.d (.bl i)) = none := (rfl)
@[simp] theorem asInt_tup (l : List D) : asInt (.d (.tup l)) = none := (rfl)
@[simp] theorem asInt_lst (l : List D) : asInt (.d (.lst l)) = none := (rfl)
@[simp] theorem asInt_str (l : Str) : asInt (.d (.str l)) = none := (rfl)
@[simp] theorem asInt_non : asInt (.d .non) = none := (rfl)
@[simp] theorem asInt_r (n : Nat) : asInt (.r n) = none := (rfl)
@[simp] theorem asBool_bl (i : Bool) : asBool (.d (.bl i)) = some i := (rfl)
@[simp] theorem asBool_int (i : Int) : asBool (.d (.int i)) = none := (rfl)
@[simp] theorem asTup_tup (l : List D) : asTup (.d (.tup l)) = some l := (rfl)
@[simp] theorem asTup_lst (l : List D) : asTup (.d (.lst l)) = none := (rfl)
@[simp] theorem asTup_r (n : Nat) : asTup (.r n) = none := (rfl)
@[simp] theorem asTup_int (n : Int) : asTup (.d (.int n)) = none := (rfl)
@[simp] theorem asTup_str (n : Str) : asTup (.d (.str n)) = none := (rfl)
@[simp] theorem asStr_str (x : Str) : asStr (.d (.str x)) = some x := (rfl)
@[simp] theorem asStr_lst (l : List D) : asStr (.d (.lst l)) = none := (rfl)
@[simp] theorem asStr_tup (l : List D) : asStr (.d (.tup l)) = none := (rfl)
@[simp] theorem asStr_int (i : Int) : asStr (.d (.int i)) = none := (rfl)
@[simp] theorem asStr_r (n : Nat) : asStr (.r n) = none := (rfl)
@[simp] theorem asLst_lst (l : List D) (s : S) : asLst (.d (.lst l)) s = some (wD l) := (rfl)
@[simp] theorem asLst_r (n : Nat) (s : S) : asLst (.r n) s = match s[n]? with | some (.lst l) => some l | _ => none := (rfl)
@[simp] theorem asLst_tup (l : List D) (s : S) : asLst (.d (.tup l)) s = none := (rfl)
@[simp] theorem asLst_scr (l : List D) (s : S) : asLst (.d (.scr l)) s = none := (rfl)
@[simp] theorem asTup_scr (l : List D) : asTup (.d (.scr l)) = none := (rfl)
@[simp] theorem asLst_int (l : Int) (s : S) : asLst (.d (.int l)) s = none := (rfl)
@[simp] theorem asLst_str (l : Str) (s : S) : asLst (.d (.str l)) s = none := (rfl)
@[simp] theorem asSeq_tup (l : List D) (s : S) : asSeq (.d (.tup l)) s = some (wD l) := (rfl)
@[simp] theorem asSeq_lst (l : List D) (s : S) : asSeq (.d (.lst l)) s = some (wD l) := (rfl)
@[simp] theorem asSeq_str (l : Str) (s : S) : asSeq (.d (.str l)) s = none := (rfl)
@[simp] theorem asSeq_r (n : Nat) (s : S) : asSeq (.r n) s = match s[n]? with | some (.lst l) => some l | _ => none := (rfl)
@[simp] theorem seqD_lst (l : List D) : seqD (.d (.lst l)) = some l := (rfl)
@[simp] theorem seqD_tup (l : List D) : seqD (.d (.tup l)) = some l := (rfl)
@[simp] theorem allData_nil : allData [] = some [] := (rfl)
@[simp] theorem allData_d (x : D) (r : List W) : allData (.d x :: r) = (allData r).map (x :: ·) := (rfl)
@[simp] theorem allData_w (l : List D) : allData (wD l) = some l := allData_wD l
@[simp] theorem allInts_w (l : List Int) : allInts (wD (l.map D.int)) = some l := allInts_wD l
@[simp] theorem allBools_w (l : List Bool) : allBools (wD (l.map D.bl)) = some l := allBools_wD l
@[simp] theorem wD_nil : wD [] = [] := (rfl)
@[simp] theorem wD_cons (x : D) (l : List D) : wD (x :: l) = .d x :: wD l := (rfl)
@[simp] theorem wD_len (l : List D) : (wD l).length = l.length := by simp [wD]
@[simp] theorem frzL_w (l : List D) (s : S) : frzL (wD l) s = .ok (.d (.lst l)) s := by unfold frzL; rw [allData_wD]
theorem frzL_eq (l : List W) (s : S) : frzL l s = match allData l with | some ds => .ok (.d (.lst ds)) s | none => .no := (rfl)
@[simp] theorem frzL_nil (s : S) : frzL [] s = .ok (.d (.lst [])) s := (rfl)
@[simp] theorem frzL_cons (x : D) (l : List W) (s : S) : frzL (.d x :: l) s = match allData (.d x :: l) with | some ds => .ok (.d (.lst ds)) s | none => .no := (rfl)
@[simp] theorem frzV_w (x : W) (s : S) : frzV (.w x) s = .ok x s := (rfl)
@[simp] theorem frzV_own (l : List W) (s : S) : frzV (.own l) s = frzL l s := (rfl)
@[simp] theorem mkTup_eq (l : List W) (s : S) : mkTup l s = match allData l with | some ds => if ds.length ≤ 16777216 then .ok (.d (.tup ds)) s else .no | none => .no := (rfl)
@[simp] theorem fAdd_int (i j : Int) (s : S) : fAdd (.d (.int i)) (.d (.int j)) s = .ok (.d (.int (i + j))) s := (rfl)
@[simp] theorem fSub_int (i j : Int) (s : S) : fSub (.d (.int i)) (.d (.int j)) s = .ok (.d (.int (i - j))) s := (rfl)
@[simp] theorem fAdd_tup (i j : List D) (s : S) : fAdd (.d (.tup i)) (.d (.tup j)) s = if i.length + j.length ≤ 16777216 then .ok (.d (.tup (i ++ j))) s else .no := (rfl)
@[simp] theorem fMul_int (i j : Int) (s : S) : fMul (.d (.int i)) (.d (.int j)) s = if kMul i j = true then .ok (.d (.int (i * j))) s else .no := (rfl)
@[simp] theorem fMulI_int (i j : Int) (s : S) : fMulI (.d (.int i)) (.d (.int j)) s = if kMul i j = true then .ok (.d (.int (i * j))) s else .no := (rfl)
@[simp] theorem fMod_int (i j : Int) (s : S) : fMod (.d (.int i)) (.d (.int j)) s = if kMod i j = true then .ok (.d (.int (i.fmod j))) s else .no := (rfl)
@[simp] theorem fDiv_int (i j : Int) (s : S) : fDiv (.d (.int i)) (.d (.int j)) s = if kDiv i j = true then .ok (.d (.int (i.fdiv j))) s else .no := (rfl)
@[simp] theorem fPow_int (i j : Int) (s : S) : fPow (.d (.int i)) (.d (.int j)) s = if kPow i j = true then .ok (.d (.int (i ^ j.toNat))) s else .no := (rfl)
@[simp] theorem fLt_int (i j : Int) (s : S) : fLt (.d (.int i)) (.d (.int j)) s = .ok (.d (.bl (decide (i < j)))) s := (rfl)
@[simp] theorem fLe_int (i j : Int) (s : S) : fLe (.d (.int i)) (.d (.int j)) s = .ok (.d (.bl (decide (i ≤ j)))) s := (rfl)
@[simp] theorem fGt_int (i j : Int) (s : S) : fGt (.d (.int i)) (.d (.int j)) s = .ok (.d (.bl (decide (j < i)))) s := (rfl)
@[simp] theorem fGe_int (i j : Int) (s : S) : fGe (.d (.int i)) (.d (.int j)) s = .ok (.d (.bl (decide (j ≤ i)))) s := (rfl)
@[simp] theorem fNeg_int (i : Int) (s : S) : fNeg (.d (.int i)) s = .ok (.d (.int (-i))) s := (rfl)
@[simp] theorem fEq_int (neg : Bool) (i j : Int) (s : S) : fEq neg (.d (.int i)) (.d (.int j)) s = .ok (.d (.bl (if neg then !(i == j) else i == j))) s := by
  simp [fEq, asData, eqD, D.py, SeqAt.shaped, PyData.canLay0, PyData.depth, PyData.eqv]
@[simp] theorem fIx_eq (x y : W) (s : S) : fIx x y s = match asSeq x s, asInt y with
  | some l, some k => (match atI l k with | some w => .ok w s | none => .no)
  | _, _ => match asStr x, asInt y with
    | some z, some k => if z.length ≤ 16777216 then (match atI z.cps.toList k with | some c => .ok (.d (.str ⟨#[c]⟩)) s | none => .no) else .no
    | _, _ => match asDic x s, y with
      | some kvs, .d a => (match keyD a with | some k => (match getK kvs k with | some w => .ok w s | none => .no) | none => .no)
      | _, _ => .no := (rfl)
@[simp] theorem c1_eq (f : W → S → Res W) (x : W) (s : S) : c1 f [x] s = f x s := (rfl)
@[simp] theorem c2_eq (f : W → W → S → Res W) (x y : W) (s : S) : c2 f [x, y] s = f x y s := (rfl)
@[simp] theorem fLen_eq (x : W) (s : S) : fLen x s = match asSeq x s with | some l => .ok (.d (.int l.length)) s | none => match asStr x with | some z => if z.length ≤ 16777216 then .ok (.d (.int z.length)) s else .no | none => .no := (rfl)
@[simp] theorem fAbs_int (i : Int) (s : S) : fAbs (.d (.int i)) s = .ok (.d (.int (if i < 0 then -i else i))) s := (rfl)
@[simp] theorem fMin2_int (i j : Int) (s : S) : fMin2 (.d (.int i)) (.d (.int j)) s = .ok (.d (.int (if j < i then j else i))) s := (rfl)
@[simp] theorem fMax2_int (i j : Int) (s : S) : fMax2 (.d (.int i)) (.d (.int j)) s = .ok (.d (.int (if j > i then j else i))) s := (rfl)
@[simp] theorem fInt_int (i : Int) (s : S) : fInt (.d (.int i)) s = .ok (.d (.int i)) s := (rfl)
@[simp] theorem fInt_bl (i : Bool) (s : S) : fInt (.d (.bl i)) s = .ok (.d (.int (if i = true then 1 else 0))) s := (rfl)
@[simp] theorem fTuple_lst (l : List D) (s : S) : fTuple (.d (.lst l)) s = .ok (.d (.tup l)) s := by
  show (match (asLst (.d (.lst l)) s).bind allData with | some ds => Res.ok (W.d (.tup ds)) s | none => .no) = _
  rw [asLst_lst, Option.bind_some, allData_wD]
@[simp] theorem fTuple_tup (l : List D) (s : S) : fTuple (.d (.tup l)) s = .ok (.d (.tup l)) s := (rfl)
@[simp] theorem fSl_tup (l : List D) (i j : Option Int) (s : S) : fSl (.d (.tup l)) i j s = .ok (.d (.tup (cut l i j))) s := (rfl)
@[simp] theorem fSl_scr (l : List D) (i j : Option Int) (s : S) : fSl (.d (.scr l)) i j s = .ok (.d (.lst (cut l i j))) s := (rfl)
@[simp] theorem fListOf_eq (x : W) (s : S) : fListOf x s = match asSeq x s with | some l => .ok l s | none => .no := (rfl)
@[simp] theorem fAll_bls (l : List Bool) (s : S) : fAll (.d (.lst (l.map D.bl))) s = .ok (.d (.bl (l.all id))) s := by
  show (match (asLst (.d (.lst (l.map D.bl))) s).bind allBools with | some l => Res.ok (W.d (.bl (l.all id))) s | none => .no) = _
  rw [asLst_lst, Option.bind_some, allBools_wD]
@[simp] theorem fAny_bls (l : List Bool) (s : S) : fAny (.d (.lst (l.map D.bl))) s = .ok (.d (.bl (l.any id))) s := by
  show (match (asLst (.d (.lst (l.map D.bl))) s).bind allBools with | some l => Res.ok (W.d (.bl (l.any id))) s | none => .no) = _
  rw [asLst_lst, Option.bind_some, allBools_wD]
@[simp] theorem asIntsL_ints (l : List Int) (s : S) : asIntsL (.d (.lst (l.map D.int))) s = some l := by
  unfold asIntsL; rw [asLst_lst, Option.bind_some, allInts_wD]
@[simp] theorem fMaxL_ints (l : List Int) (s : S) : fMaxL (.d (.lst (l.map D.int))) s = match l.max? with | some i => .ok (.d (.int i)) s | none => .no := by unfold fMaxL; rw [asIntsL_ints] <;> rfl
@[simp] theorem fMinL_ints (l : List Int) (s : S) : fMinL (.d (.lst (l.map D.int))) s = match l.min? with | some i => .ok (.d (.int i)) s | none => .no := by unfold fMinL; rw [asIntsL_ints] <;> rfl
@[simp] theorem setL_eq (n : Nat) (i : Int) (v : W) (s : S) : setL (.r n) (.d (.int i)) v s = match s[n]? with | some (.lst l) => (ixN l.length i).map fun j => s.set n (.lst (l.set j v)) | _ => none := (rfl)
@[simp] theorem rng1_eq (n : Int) (s : S) : rng1 [.d (.int n)] s = if n < 1000000000 ∧ -1000000000 < n then .ok ((List.range n.toNat).map fun i : Nat => W.d (.int (i : Int))) s else .no := (rfl)
theorem kMod_ne {i j : Int} (h : j ≠ 0) : kMod i j = true := decide_eq_true h
theorem kDiv_ok {i j : Int} (h : j ≠ 0) (h' : j.natAbs < 1073741824) : kDiv i j = true := decide_eq_true ⟨h, h'⟩
theorem kMul_l {i j : Int} (h : i.natAbs < 18446744073709551616) : kMul i j = true := decide_eq_true (.inl h)
theorem kMul_r {i j : Int} (h : j.natAbs < 18446744073709551616) : kMul i j = true := decide_eq_true (.inr h)
/-- an item by its place -/
theorem atI_nat {α : Type} (l : List α) (i : Int) (h0 : 0 ≤ i) (h : i < l.length) : atI l i = l[i.toNat]? := by
  unfold atI ixN
  rw [if_pos h0, if_pos h]
  rfl
@[simp] theorem ixN_nat (n : Nat) (i : Nat) : ixN n (i : Int) = if i < n then some i else none := by
  unfold ixN
  rw [if_pos (Int.natCast_nonneg i)]
  by_cases h : i < n
  · rw [if_pos h, if_pos (Int.ofNat_lt.mpr h)]; rfl
  · rw [if_neg h, if_neg (fun z => h (Int.ofNat_lt.mp z))]
@[simp] theorem ixN_0 (n : Nat) : ixN n 0 = if 0 < n then some 0 else none := ixN_nat n 0
@[simp] theorem ixN_1 (n : Nat) : ixN n 1 = if 1 < n then some 1 else none := ixN_nat n 1
@[simp] theorem ixN_2 (n : Nat) : ixN n 2 = if 2 < n then some 2 else none := ixN_nat n 2
@[simp] theorem ixN_3 (n : Nat) : ixN n 3 = if 3 < n then some 3 else none := ixN_nat n 3
@[simp] theorem atI_nat' {α : Type} (l : List α) (i : Nat) : atI l (i : Int) = l[i]? := by
  unfold atI; rw [ixN_nat]; by_cases h : i < l.length
  · rw [if_pos h]; rfl
  · rw [if_neg h]; rw [List.getElem?_eq_none (by omega)]; rfl
@[simp] theorem atI_0 {α : Type} (l : List α) : atI l 0 = l[0]? := atI_nat' l 0
@[simp] theorem atI_1 {α : Type} (l : List α) : atI l 1 = l[1]? := atI_nat' l 1
@[simp] theorem atI_2 {α : Type} (l : List α) : atI l 2 = l[2]? := atI_nat' l 2
@[simp] theorem atI_3 {α : Type} (l : List α) : atI l 3 = l[3]? := atI_nat' l 3
end TG

set_option Elab.async false
set_option linter.all false
set_option maxRecDepth 100000
set_option maxHeartbeats 2000000
namespace TG
open PySem L2 PyProof.Rows

/-! ### calls by keywords, and with what is left out -/
theorem PK.weaken {X : Cx} {e : List Keyword} {t t' : TA} (h : PK X e t) (w : ∀ σ H Q, t' σ H Q → t σ H Q) : PK X e t' := ⟨fun pos pins s σ H Q I q => h.run pos pins s σ H Q I (w σ H Q q)⟩
def JK (cl : Str → Option Addr) (Wx : WX) (X : Cx) (e : List Keyword) (c : Cmp (List W)) : Prop := PK X e (Tof X.K cl (rrA X.K cl) Wx c)
/-- where a parameter's value comes from: a place, a keyword, what stands when left out -/
inductive Pk where
  | p (i : Nat) | k (j : Nat) | c (i : Nat)
def Pk.get {α : Type} (d : α) (ds us ws : List α) : Pk → α
  | .p i => us.getD i d
  | .k j => ws.getD j d
  | .c i => ds.getD i d
def pkV (l : List Pk) (ds us ws : List V) : List V := l.map (Pk.get .non ds us ws)
def pkU (l : List Pk) (ds us ws : List Value) : List Value := l.map (Pk.get .none ds us ws)
def pkW (l : List Pk) (ds us ws : List W) : List W := l.map (Pk.get (.d .non) ds us ws)
theorem vals_getD {vs : List V} {us : List Value} (r : Vals vs us) (i : Nat) : RelV (vs.getD i .non) (us.getD i .none) := by
  induction r generalizing i with
  | nil => exact rfl
  | cons h _ ih =>
    cases i with
    | zero => exact h
    | succ i => exact ih i
theorem pk_rel (l : List Pk) {vd : List V} {ud : List Value} {vs : List V} {us : List Value} {zs : List V} {ws : List Value} (rd : Vals vd ud) (r : Vals vs us) (r' : Vals zs ws) : Vals (pkV l vd vs zs) (pkU l ud us ws) := by
  induction l with
  | nil => exact .nil
  | cons a l ih =>
    refine .cons ?_ ih
    cases a with
    | p i => exact vals_getD r i
    | k i => exact vals_getD r' i
    | c i => exact vals_getD rd i
section
variable {K : PySem.W.Frag} {cl : Str → Option Addr} {H : Hp} {m : List Addr}
theorem repws_getD {vs : List V} {ws : List W} (r : RepWs K cl H m vs ws) (i : Nat) : RepW K cl H m (vs.getD i .non) (ws.getD i (.d .non)) := by
  induction r generalizing i with
  | nil => exact (Rep.non : Rep K cl H .non .non)
  | cons h _ ih =>
    cases i with
    | zero => exact h
    | succ i => exact ih i
theorem pk_rep (l : List Pk) {vd : List V} {wd : List W} {vs : List V} {us : List W} {zs : List V} {ws : List W} (rd : RepWs K cl H m vd wd) (r : RepWs K cl H m vs us) (r' : RepWs K cl H m zs ws) : RepWs K cl H m (pkV l vd vs zs) (pkW l wd us ws) := by
  induction l with
  | nil => exact .nil
  | cons a l ih =>
    refine .cons ?_ ih
    cases a with
    | p i => exact repws_getD r i
    | k i => exact repws_getD r' i
    | c i => exact repws_getD rd i
theorem ints_rep (l : List Int) : RepWs K cl H m (l.map V.int) (l.map fun i => W.d (.int i)) := by
  induction l with
  | nil => exact .nil
  | cons a l ih => exact .cons (Rep.int : Rep K cl H (.int a) (.int a)) ih
end
/-- a def that stands, called with n places and the keywords ks -/
structure FnAtK (P : Program) (w : World) (K : PySem.W.Frag) (mg : Str → Option Value) (base : Heap) (cl : Str → Option Addr) (k : Nat) (x : Str) (ps : List Str) (f : Sem1) (n : Nat) (ks : List Str) (pk : List Pk) (ds : List Int) : Prop where
  ex : ∃ (a : Addr) (fd : FuncData) (its : List Value), mg x = some (.ref a) ∧ PySem.W.keepIn K (.ref a) = true ∧ KBn K fd ps n ks (fun us ws => pkU pk its us ws) (fun vs zs => pkV pk (ds.map V.int) vs zs) ∧ FnOk P w K mg base (L2.CX P w) k a fd ps (spOf K cl f)
theorem FnAtK.mono {P : Program} {w : World} {K : PySem.W.Frag} {mg : Str → Option Value} {base : Heap} {cl : Str → Option Addr} {j k : Nat} {x : Str} {ps : List Str} {f : Sem1} {n : Nat} {ks : List Str} {pk : List Pk} {ds : List Int} (F : FnAtK P w K mg base cl j x ps f n ks pk ds) (h : j ≤ k) : FnAtK P w K mg base cl k x ps f n ks pk ds := by
  obtain ⟨a, fd, its, h1, h2, h3, h4⟩ := F.ex
  exact ⟨a, fd, its, h1, h2, h3, h4.mono h⟩
section
variable {K : PySem.W.Frag} {x qual : Str} {params : Arguments} {body : List Stmt} {scope : Scope} {f : Addr} {fd : FuncData} {ps : List Str}
/-- how such a call binds: of a def with defaults -/
theorem kbD {dvs : List V} (F : FunD K x qual params body scope dvs [] f fd) (hd : dvs ≠ []) (n : Nat) (ks : List Str) (pk : List Pk)
    (h : ∀ (T : Addr) (kV doc pm : Value) (an : Option Addr) (cdv ct : Value) (us ws its : List Value), us.length = n → ws.length = ks.length → its.length = dvs.length →
      ∃ k, bindArgs (PySem.W.fnOf x qual params body scope (.ref T) kV doc pm an cdv ct) ⟨us, ks.zip ws⟩ = seqItems? (.ref T) >>= k ∧ k (some its.toArray) = pure (ps.zip (pkU pk its us ws))) :
    ∃ its, KBn K fd ps n ks (fun us ws => pkU pk its us ws) (fun vs zs => pkV pk dvs vs zs) := by
  obtain ⟨_, _, _, w1, w2, w3, w4, w5, w6, _, rfl, _, _, dfl, _⟩ := F.ex
  rcases dfl with ⟨no, _⟩ | ⟨_, tup, _, its, _, rfl, at_, dat, rel⟩
  · exact absurd no hd
  · refine ⟨its, ⟨fun s us ws inK n1 n2 => BindsTo.of_looks fun M => ?_, fun r1 r2 => pk_rel pk rel r1 r2⟩⟩
    obtain ⟨rest, b1, b2⟩ := h tup w1 w2 w3 w4 w5 w6 us ws its n1 n2 rel.length.symm
    exact b1 ▸ looks_items inK at_ dat (PySem.W.Looks.of_pure b2)
end
section
variable {X : Cx} {k : Nat} {a : Addr} {fd : FuncData} {ps ks : List Str} {sp : Sp} {E : XK} {x : Str} {p pos : Pos} {kws : List Keyword} {tk : TA} {g : List Value → List Value → List Value} {gV : List V → List V → List V}
/-- keywords alone -/
theorem pe_onlyK (fo : FnOk X.prog X.w X.K X.mg X.base (L2.CX X.prog X.w) k a fd ps sp) (room : Room k X.A) (gl : Gl X x) (here : X.mg x = some (.ref a)) (kp : PySem.W.keepIn X.K (.ref a) = true) (kb : KBn X.K fd ps 0 ks g gV) (pass : Passes (L2.CX X.prog X.w) X E) (pk : PK X kws tk)
    (q1 : (backToKw pos (keywordEach kws X.env)).all (fun y => y.1.isSome) = true) (q2 : (backToKw pos (keywordEach kws X.env)).filterMap (fun y => y.1) = ks) (q3 : (x == Str.ofString "__debug__") = false)
    (q4 : ((backTo pos (starEach [] X.env)).any (fun y => y.1) || (backToKw pos (keywordEach kws X.env)).any (fun y => y.1.isNone)) = false) :
    PE X (.Call (.Name x p) [] kws pos) (tCallN 0 ks.length sp gV E tNil tk) :=
  ⟨fun pins s0 σ H Q inv wish => wpAny_Call_Name_kw (ld_glob inv gl here (PySem.W.callWith_KW0 (h₀ := X.base) inv.ok.mod.kin kp q1
    (thn (pk.run pos pins s0 σ H _ inv wish) fun vals s3 ⟨zs, H3, inv3, rel, n1, n2, q⟩ => ⟨inv3.kIn, by rw [q2]; exact run_fnN (us := []) (vs := []) fo room kb pass inv3 .nil rel n1 n2 q⟩) q4) q3)⟩
end
def eCallK (f : Sem1) (n m : Nat) (pk : List Pk) (ds : List Int) (a b : Cmp (List W)) : Cmp W := fun ρ s => (a ρ s).bind fun us s1 => (b ρ s1).bind fun ws s2 => if us.length = n ∧ ws.length = m then (f (pkW pk (ds.map fun i => W.d (.int i)) us ws) s2).bind frzV else .no
section
variable {X : Cx} {cl : Str → Option Addr} {Wx : WX} {e : Expr} {es : List Expr} {nm : Option Str} {kpos pos p : Pos} {ea : Cmp W} {el ek : Cmp (List W)} {k n : Nat} {x : Str} {ps ks : List Str} {f : Sem1} {kws : List Keyword} {pk : List Pk} {ds : List Int}
theorem jk_nil : JK cl Wx X [] eNil := PK.weaken pk_nil fun σ H Q ⟨H0, m, ow, s, ρ, cx, h⟩ => RunE.done (RR := rrA X.K cl) h cx.st .nil
theorem jk_cons (ha : JE cl Wx X e ea) (hr : JK cl Wx X kws el) : JK cl Wx X (⟨nm, e, kpos⟩ :: kws) (eCons ea el) :=
  PK.weaken (pk_cons ha hr) fun σ H Q ⟨H0, m, ow, s, ρ, cx, h⟩ => ⟨H0, m, ow, s, ρ, cx, RunE.bind h fun x s1 v H1 H1' m1 g st rr h2 => ⟨H1, m1, ow, s1, ρ, cx.go g st, RunE.bind h2 fun y s2 u H2 H2' m2 g' st' rr' h3 =>
    RunE.done (RR := rrA X.K cl) h3 st' (.cons (RepW.mono g'.s0 g'.pre rr) rr')⟩⟩
theorem je_callK {E : XK} (ok : XOk X (wxE E)) (hr : Room k X.A) (F : FnAtK X.prog X.w X.K X.mg X.base cl k x ps f n ks pk ds) (ha : JA cl (wxE E) X (e :: es) el) (hkw : JK cl (wxE E) X kws ek) (hg : Gl X x := by rfl)
    (q1 : (backToKw pos (keywordEach kws X.env)).all (fun y => y.1.isSome) = true := by rfl) (q2 : (backToKw pos (keywordEach kws X.env)).filterMap (fun y => y.1) = ks := by rfl)
    (q3 : (x == Str.ofString "__debug__") = false := by decide) (q4 : starEach (e :: es) X.env = (false, eval e X.env) :: starEach es X.env := by rfl)
    (q5 : ((backTo pos (starEach (e :: es) X.env)).any (fun y => y.1) || (backToKw pos (keywordEach kws X.env)).any (fun y => y.1.isNone)) = false := by rfl) :
    JE cl (wxE E) X (.Call (.Name x p) (e :: es) kws pos) (eCallK f n ks.length pk ds el ek) := by
  obtain ⟨a, fd, its, f1, f2, f3, f4⟩ := F.ex
  refine PE.weaken (pe_callN f4 hr hg f1 f2 f3 (passE ok) ha hkw q1 q2 q3 q4 q5) fun σ H Q ⟨H0, m, ow, s, ρ, cx, h⟩ => ⟨H0, m, ow, s, ρ, cx, RunE.bind h fun us s1 vs H1 H1' m1 g st rr h2 => ⟨H1, m1, ow, s1, ρ, cx.go g st, ?_⟩⟩
  have h2 : RunE X.K cl (rrW X.K cl) (wxE E) H1 H1' m1 σ Q ((ek ρ s1).bind fun ws s2 => if us.length = n ∧ ws.length = ks.length then (f (pkW pk (ds.map fun i => W.d (.int i)) us ws) s2).bind frzV else .no) := h2
  exact RunE.bind h2 fun ws s2 zs H2 H2' m2 g' st' rr' h3 => by
    split at h3
    · rename_i hl
      refine ⟨rr.length.trans hl.1, rr'.length.trans hl.2, ?_⟩
      exact call_run st' (pk_rep pk (ints_rep ds) (RepWs.mono g'.s0 g'.pre rr) rr') (call_frz st' h3)
    · exact h3.elim
theorem je_callK0 {E : XK} (ok : XOk X (wxE E)) (hr : Room k X.A) (F : FnAtK X.prog X.w X.K X.mg X.base cl k x ps f 0 ks pk ds) (hkw : JK cl (wxE E) X kws ek) (hg : Gl X x := by rfl)
    (q1 : (backToKw pos (keywordEach kws X.env)).all (fun y => y.1.isSome) = true := by rfl) (q2 : (backToKw pos (keywordEach kws X.env)).filterMap (fun y => y.1) = ks := by rfl)
    (q3 : (x == Str.ofString "__debug__") = false := by decide)
    (q4 : ((backTo pos (starEach [] X.env)).any (fun y => y.1) || (backToKw pos (keywordEach kws X.env)).any (fun y => y.1.isNone)) = false := by rfl) :
    JE cl (wxE E) X (.Call (.Name x p) [] kws pos) (eCallK f 0 ks.length pk ds eNil ek) := by
  obtain ⟨a, fd, its, f1, f2, f3, f4⟩ := F.ex
  refine PE.weaken (pe_onlyK f4 hr hg f1 f2 f3 (passE ok) hkw q1 q2 q3 q4) fun σ H Q ⟨H0, m, ow, s, ρ, cx, h⟩ => ⟨H0, m, ow, s, ρ, cx, ?_⟩
  have h2 : RunE X.K cl (rrW X.K cl) (wxE E) H0 H m σ Q ((ek ρ s).bind fun ws s2 => if ([] : List W).length = 0 ∧ ws.length = ks.length then (f (pkW pk (ds.map fun i => W.d (.int i)) [] ws) s2).bind frzV else .no) := h
  exact RunE.bind h2 fun ws s2 zs H2 H2' m2 g' st' rr' h3 => by
    split at h3
    · rename_i hl
      refine ⟨rfl, rr'.length.trans hl.2, ?_⟩
      exact call_run st' (pk_rep pk (ints_rep ds) .nil rr') (call_frz st' h3)
    · exact h3.elim
end
end TG

set_option Elab.async false
set_option linter.all false
set_option maxRecDepth 100000
set_option maxHeartbeats 2000000
namespace TG
open PySem L2 PyProof.Rows

/-! ### isinstance -/
def tyD : D → Option String
  | .non => some "NoneType" | .bl _ => some "bool" | .int _ => some "int" | .str _ => some "str" | .tup _ => some "tuple" | .lst _ => some "list" | .dic _ => some "dict" | _ => none
def tyW : W → S → Option String
  | .d x, _ => tyD x
  | .r n, s => match s[n]? with | some (.lst _) => some "list" | some (.dic _) => some "dict" | _ => none
theorem tyW_ok {K : PySem.W.Frag} {cl : Str → Option Addr} {H0 H : Hp} {m : List Addr} {s : S} {v : V} {w : W} {t : String} (st : Stt K cl H0 H m s) (r : RepW K cl H0 m v w) (e : tyW w s = some t) : TyX K H v (.type t) := by
  cases w with
  | d x =>
    have r : Rep K cl H0 v x := r
    have e : tyD x = some t := e
    cases r <;> cases e
    · exact .base .non
    · exact .base (.bl _)
    · exact .base (.int _)
    · exact .base (.str _)
    · exact .base (.tup (st.sub _ _ (by assumption)))
    · exact .base (.lst (st.sub _ _ (by assumption)))
    · exact .base (.dK (st.sub _ _ (by assumption)))
  | r n =>
    obtain ⟨a, h1, rfl⟩ := r
    have e : (match s[n]? with | some (.lst _) => some "list" | some (.dic _) => some "dict" | _ => none) = some t := e
    cases q : s[n]? with
    | none => rw [q] at e; cases e
    | some c =>
      have h2 := (st.cell n a c h1 q).2
      rw [q] at e
      cases c with
      | lst l =>
        cases e
        obtain ⟨vs, h3, _⟩ := h2
        exact .base (.lst h3)
      | dic l =>
        cases e
        obtain ⟨vs, h3, _⟩ := h2
        exact .base (.dK h3)
      | ins c l => cases e
def fIsi (t : String) : W → S → Res W := fun x s => match tyW x s with | some a => (match kitB a t with | some b => .ok (.d (.bl b)) s | none => .no) | none => .no
def fIsi2 (t u : String) : W → S → Res W := fun x s => match tyW x s with
  | some a => (match kitB a t, kitB a u with | some b, some c => .ok (.d (.bl (b || c))) s | _, _ => .no)
  | none => .no
section
variable {X : Cx} {cl : Str → Option Addr} {Wx : WX} {e : Expr} {pos p q p2 pt : Pos} {ea : Cmp W} {x y z : Str} {k2 : Nat}
theorem je_isi (t : String) (hg : Gl X x) (hm : X.mg x = none) (hv : bootBuiltins x = some (.builtin "isinstance")) (hg2 : Gl X y) (hm2 : X.mg y = none) (hv2 : bootBuiltins y = some (.type t)) (ha : JE cl Wx X e ea)
    (n1 : x ≠ "__name__" := by decide) (n2 : (x == ("__debug__" : Str)) = false := by decide) (n3 : y ≠ "__name__" := by decide) (n4 : (y == ("__debug__" : Str)) = false := by decide)
    (hs : starEach [e, .Name y q] X.env = (false, eval e X.env) :: starEach [.Name y q] X.env := by rfl) (hs2 : starEach [.Name y q] X.env = (false, eval (.Name y q) X.env) :: starEach [] X.env := by rfl) (h4 : ((backTo pos (starEach [.Name y q] X.env)).any fun x => x.fst) = false := by rfl) :
    JE cl Wx X (.Call (.Name x p) [e, .Name y q] [] pos) (eUn (fIsi t) ea) :=
  PE.weaken (pe_callB call_isi hg hm hv (pa_cons ha (pa_cons (pe_bltn hg2 hm2 hv2 (v := .ty t) rfl n3 n4) pa_nil hs2) hs) n1 n2 hs h4) fun σ H Q ⟨H0, m, ow, s, ρ, cx, h⟩ => ⟨H0, m, ow, s, ρ, cx, RunE.bind h fun a s1 v H1 H1' m1 g st rr h2 => by
    have h2 : RunE X.K cl (rrW X.K cl) Wx H1 H1' m1 σ Q (match tyW a s1 with | some a => (match kitB a t with | some b => .ok (.d (.bl b)) s1 | none => .no) | none => .no) := h2
    cases e1 : tyW a s1 with
    | none => rw [e1] at h2; exact h2.elim
    | some ty =>
      rw [e1] at h2
      have h2 : RunE X.K cl (rrW X.K cl) Wx H1 H1' m1 σ Q (match kitB ty t with | some b => .ok (.d (.bl b)) s1 | none => .no) := h2
      cases e2 : kitB ty t with
      | none => rw [e2] at h2; exact h2.elim
      | some b =>
        rw [e2] at h2
        exact ⟨v, .ty t, _, _, b, rfl, .ty t, tyW_ok st rr e1, kit_ty e2, RunE.done (RR := rrW X.K cl) h2 st (Rep.bl : Rep X.K cl H1 (.bl b) (.bl b))⟩⟩
theorem je_isi2 (t u : String) (hg : Gl X x) (hm : X.mg x = none) (hv : bootBuiltins x = some (.builtin "isinstance")) (hg2 : Gl X y) (hm2 : X.mg y = none) (hv2 : bootBuiltins y = some (.type t)) (hg3 : Gl X z) (hm3 : X.mg z = none) (hv3 : bootBuiltins z = some (.type u)) (ha : JE cl Wx X e ea)
    (n1 : x ≠ "__name__" := by decide) (n2 : (x == ("__debug__" : Str)) = false := by decide) (n3 : y ≠ "__name__" := by decide) (n4 : (y == ("__debug__" : Str)) = false := by decide) (n5 : z ≠ "__name__" := by decide) (n6 : (z == ("__debug__" : Str)) = false := by decide)
    (hs : starEach [e, .Tuple [.Name y q, .Name z p2] k2 pt] X.env = (false, eval e X.env) :: starEach [.Tuple [.Name y q, .Name z p2] k2 pt] X.env := by rfl)
    (hs2 : starEach [.Tuple [.Name y q, .Name z p2] k2 pt] X.env = (false, eval (.Tuple [.Name y q, .Name z p2] k2 pt) X.env) :: starEach [] X.env := by rfl)
    (hs3 : starEach [.Name y q, .Name z p2] X.env = (false, eval (.Name y q) X.env) :: starEach [.Name z p2] X.env := by rfl) (hs4 : starEach [.Name z p2] X.env = (false, eval (.Name z p2) X.env) :: starEach [] X.env := by rfl)
    (h4 : ((backTo pos (starEach [.Tuple [.Name y q, .Name z p2] k2 pt] X.env)).any fun x => x.fst) = false := by rfl) :
    JE cl Wx X (.Call (.Name x p) [e, .Tuple [.Name y q, .Name z p2] k2 pt] [] pos) (eUn (fIsi2 t u) ea) :=
  PE.weaken (pe_callB call_isiT hg hm hv (pa_cons ha (pa_cons (pe_tup (pa_cons (pe_bltn hg2 hm2 hv2 (v := .ty t) rfl n3 n4) (pa_cons (pe_bltn hg3 hm3 hv3 (v := .ty u) rfl n5 n6) pa_nil hs4) hs3)) pa_nil hs2) hs) n1 n2 hs h4) fun σ H Q ⟨H0, m, ow, s, ρ, cx, h⟩ => ⟨H0, m, ow, s, ρ, cx, RunE.bind h fun a s1 v H1 H1' m1 g st rr h2 => by
    have h2 : RunE X.K cl (rrW X.K cl) Wx H1 H1' m1 σ Q (match tyW a s1 with | some a => (match kitB a t, kitB a u with | some b, some c => .ok (.d (.bl (b || c))) s1 | _, _ => .no) | none => .no) := h2
    cases e1 : tyW a s1 with
    | none => rw [e1] at h2; exact h2.elim
    | some ty =>
      rw [e1] at h2
      have h2 : RunE X.K cl (rrW X.K cl) Wx H1 H1' m1 σ Q (match kitB ty t, kitB ty u with | some b, some c => .ok (.d (.bl (b || c))) s1 | _, _ => .no) := h2
      cases e2 : kitB ty t with
      | none => rw [e2] at h2; exact h2.elim
      | some b =>
        cases e3 : kitB ty u with
        | none => rw [e2, e3] at h2; exact h2.elim
        | some c =>
          rw [e2, e3] at h2
          have h2 : RunE X.K cl (rrW X.K cl) Wx H1 H1' m1 σ Q (.ok (.d (.bl (b || c))) s1) := h2
          refine ⟨size_of (by simp), fun r hr => ?_⟩
          have ka : PySem.W.kitAny X.K (.type ty) [.type t, .type u] = some (b || c) := by
            refine kitAny_cons (kit_ty e2) (fun hb => ?_) (fun hb => by rw [hb]; rfl)
            rw [hb]
            refine kitAny_cons (kit_ty e3) (fun hc => ?_) (fun hc => by rw [hc]; rfl)
            rw [hc]
            exact kitAny_nil
          have st2 := st.alloc hr (o := .tup [.ty t, .ty u])
          exact ⟨v, r, [.ty t, .ty u], _, [.type t, .type u], b || c, rfl, upd_same, .cons (.ty t) (.cons (.ty u) .nil), tyW_ok st2 (RepW.mono (same_upd (st.h0 hr)) List.prefix_rfl rr) e1, ka,
            h2 _ _ _ _ (Go.alloc st hr) st2 (Rep.bl : Rep X.K cl _ (.bl (b || c)) (.bl (b || c)))⟩⟩
end
end TG
namespace TG
open PySem L2 PyProof.Rows
/-- a def that is not asked -/
theorem fnok_no {P : Program} {w : World} {K : PySem.W.Frag} {mg : Str → Option Value} {base : Heap} {cl : Str → Option Addr} {CX : CXT} {k : Nat} {f : Addr} {fd : FuncData} {ps : List Str} : FnOk P w K mg base CX k f fd ps (spOf K cl fun _ _ => .no) :=
  ⟨fun _ _ _ _ ⟨_, _, _, _, _, _, h⟩ => h.elim, fun _ _ _ _ _ _ _ _ _ _ _ _ _ ⟨_, _, _, _, _, _, h⟩ => h.elim⟩
end TG

set_option linter.all false
set_option maxRecDepth 100000
namespace TG
open PySem L2
theorem lcM_map (tg : Tgt) (tst : Cmp Bool) (e : Cmp W) (ρ : Rho) (g : W → W) (s : S) : ∀ (z : List W),
    (∀ w ∈ z, ∃ ρ1, tg w ρ = some ρ1 ∧ tst ρ1 s = .ok true s ∧ e ρ1 s = .ok (g w) s) → lcM tg tst e ρ z s = .ok (z.map g) s
  | [], _ => rfl
  | w :: r, h => by
    obtain ⟨ρ1, e1, e2, e3⟩ := h w (.head _)
    simp [lcM, e1, e2, e3, lcM_map tg tst e ρ g s r (fun w hw => h w (.tail _ hw))]
/-- values that are numbers -/
theorem ints_of (R : Int → Prop) : ∀ (vs : List W), (∀ v ∈ vs, ∃ i, v = .d (.int i) ∧ R i) → ∃ l : List Int, vs = wD (l.map D.int) ∧ l.length = vs.length ∧ ∀ i ∈ l, R i
  | [], _ => ⟨[], rfl, rfl, by simp⟩
  | v :: r, h => by
    obtain ⟨i, rfl, hi⟩ := h v (.head _)
    obtain ⟨l, rfl, hl, hr⟩ := ints_of R r (fun w hw => h w (.tail _ hw))
    refine ⟨i :: l, rfl, by simp [wD], ?_⟩
    intro x hx
    cases hx with
    | head => exact hi
    | tail _ hx => exact hr x hx
theorem ints_map (l : List Int) : l.map (fun i => W.d (.int i)) = wD (l.map D.int) := by simp [wD]
theorem rng_mem {n : Int} {w : W} (h : w ∈ (List.range n.toNat).map fun i : Nat => W.d (.int (i : Int))) : ∃ i : Nat, (i : Int) < n ∧ w = .d (.int i) := by
  obtain ⟨i, hi, rfl⟩ := List.mem_map.mp h
  exact ⟨i, by have := List.mem_range.mp hi; omega, rfl⟩
/-- four places, one of them by a drawn number -/
theorem quarter (x : Int) (h0 : 0 ≤ x) (h1 : x < 4) : x = 0 ∨ x = 1 ∨ x = 2 ∨ x = 3 := by omega
theorem fifth (x : Int) (h0 : 0 ≤ x) (h1 : x < 5) : x = 0 ∨ x = 1 ∨ x = 2 ∨ x = 3 ∨ x = 4 := by omega
theorem wide_spec (x : Int) (h0 : 0 ≤ x) (h1 : x < 4) (p q r u : Int) (P : Int → Prop) (hp : P p) (hq : P q) (hr : P r) (hu : P u) : ∃ y, P y ∧ atI (wD [.int p, .int q, .int r, .int u]) x = some (.d (.int y)) := by
  rcases quarter x h0 h1 with rfl | rfl | rfl | rfl
  · exact ⟨p, hp, rfl⟩
  · exact ⟨q, hq, rfl⟩
  · exact ⟨r, hr, rfl⟩
  · exact ⟨u, hu, rfl⟩
theorem forE_pre' (tg : Tgt) (x : Stm) (z0 : List W) (I : List W → Rho → S → Prop)
    (hh : ∀ pre w r, z0 = pre ++ w :: r → ∀ ρ s, I pre ρ s → ∃ ρ1, tg w ρ = some ρ1 ∧ ∃ ρ2 s2, x ρ1 s = .nx ρ2 s2 ∧ I (pre ++ [w]) ρ2 s2) : ∀ (z pre : List W) (ρ : Rho) (s : S), z0 = pre ++ z → I pre ρ s →
    ∃ ρ2 s2, forE tg x z ρ s = .nx ρ2 s2 ∧ I z0 ρ2 s2
  | [], pre, ρ, s, e, h => ⟨ρ, s, rfl, by rw [e, List.append_nil]; exact h⟩
  | w :: r, pre, ρ, s, e, h => by
    obtain ⟨ρ1, e1, ρ2, s2, e2, h2⟩ := hh pre w r e ρ s h
    obtain ⟨ρ3, s3, e3, h3⟩ := forE_pre' tg x z0 I hh r (pre ++ [w]) ρ2 s2 (by rw [e]; simp) h2
    exact ⟨ρ3, s3, by rw [forE_cons]; simp [e1, e2, e3], h3⟩
/-- a for loop that goes to its end: what holds behind each prefix -/
theorem forE_pre (tg : Tgt) (x : Stm) (z0 : List W) (I : List W → Rho → S → Prop)
    (hh : ∀ pre w r, z0 = pre ++ w :: r → ∀ ρ s, I pre ρ s → ∃ ρ1, tg w ρ = some ρ1 ∧ ∃ ρ2 s2, x ρ1 s = .nx ρ2 s2 ∧ I (pre ++ [w]) ρ2 s2) (ρ : Rho) (s : S) (h : I [] ρ s) :
    ∃ ρ2 s2, forE tg x z0 ρ s = .nx ρ2 s2 ∧ I z0 ρ2 s2 := forE_pre' tg x z0 I hh z0 [] ρ s rfl h
theorem rng1_nat (n : Nat) (s : S) (h : n ≤ 1000) : rng1 [.d (.int (n : Nat))] s = .ok ((List.range n).map fun i : Nat => W.d (.int (i : Int))) s := by
  rw [rng1_eq, if_pos (by omega)]
  rfl
theorem cut_all (l : List D) (h : l.length ≤ 63) : cut l none (some 63) = l := by
  have h1 : HT.sIx l.length 0 none = 0 := rfl
  have h2 : HT.sIx l.length l.length (some 63) = l.length := by
    unfold HT.sIx
    simp
    omega
  unfold cut
  rw [h1, h2]
  simp
theorem fmod_rng (x n : Int) (h : 0 < n) : 0 ≤ x.fmod n ∧ x.fmod n < n := ⟨Int.fmod_nonneg_of_pos _ h, Int.fmod_lt_of_pos _ h⟩
theorem fmod_fmod (x n : Int) (h : 0 < n) : (x.fmod n).fmod n = x.fmod n := by
  rw [Int.fmod_eq_emod_of_nonneg _ (by omega), Int.fmod_eq_emod_of_nonneg _ (by omega), Int.emod_emod_of_dvd _ (Int.dvd_refl n)]
theorem forE_list' {α : Type} (tg : Tgt) (x : Stm) (g : α → W) (l : List α) (I : List α → Rho → S → Prop)
    (hh : ∀ pre a r, l = pre ++ a :: r → ∀ ρ s, I pre ρ s → ∃ ρ1, tg (g a) ρ = some ρ1 ∧ ∃ ρ2 s2, (x ρ1 s = .nx ρ2 s2 ∨ x ρ1 s = .cnt ρ2 s2) ∧ I (pre ++ [a]) ρ2 s2) : ∀ (z pre : List α) (ρ : Rho) (s : S), l = pre ++ z → I pre ρ s →
    ∃ ρ2 s2, forE tg x (z.map g) ρ s = .nx ρ2 s2 ∧ I l ρ2 s2
  | [], pre, ρ, s, e, h => ⟨ρ, s, rfl, by rw [e, List.append_nil]; exact h⟩
  | w :: r, pre, ρ, s, e, h => by
    obtain ⟨ρ1, e1, ρ2, s2, e2, h2⟩ := hh pre w r e ρ s h
    obtain ⟨ρ3, s3, e3, h3⟩ := forE_list' tg x g l I hh r (pre ++ [w]) ρ2 s2 (by rw [e]; simp) h2
    refine ⟨ρ3, s3, ?_, h3⟩
    rw [List.map_cons, forE_cons]
    rcases e2 with e2 | e2 <;> simp [e1, e2, e3]
/-- a for loop that goes to its end, over the values of a list -/
theorem forE_list {α : Type} (tg : Tgt) (x : Stm) (g : α → W) (l : List α) (I : List α → Rho → S → Prop)
    (hh : ∀ pre a r, l = pre ++ a :: r → ∀ ρ s, I pre ρ s → ∃ ρ1, tg (g a) ρ = some ρ1 ∧ ∃ ρ2 s2, (x ρ1 s = .nx ρ2 s2 ∨ x ρ1 s = .cnt ρ2 s2) ∧ I (pre ++ [a]) ρ2 s2) (ρ : Rho) (s : S) (h : I [] ρ s) :
    ∃ ρ2 s2, forE tg x (l.map g) ρ s = .nx ρ2 s2 ∧ I l ρ2 s2 := forE_list' tg x g l I hh l [] ρ s rfl h
theorem forE_some' {α : Type} (tg : Tgt) (x : Stm) (g : α → W) (l rest : List α) (I : List α → Rho → S → Prop)
    (hh : ∀ pre a r, l = pre ++ a :: r → ∀ ρ s, I pre ρ s → ∃ ρ1, tg (g a) ρ = some ρ1 ∧ ∃ ρ2 s2, (x ρ1 s = .nx ρ2 s2 ∨ x ρ1 s = .cnt ρ2 s2) ∧ I (pre ++ [a]) ρ2 s2) : ∀ (z pre : List α) (ρ : Rho) (s : S), l = pre ++ z → I pre ρ s →
    ∃ ρ2 s2, forE tg x ((z ++ rest).map g) ρ s = forE tg x (rest.map g) ρ2 s2 ∧ I l ρ2 s2
  | [], pre, ρ, s, e, h => ⟨ρ, s, rfl, by rw [e, List.append_nil]; exact h⟩
  | w :: r, pre, ρ, s, e, h => by
    obtain ⟨ρ1, e1, ρ2, s2, e2, h2⟩ := hh pre w r e ρ s h
    obtain ⟨ρ3, s3, e3, h3⟩ := forE_some' tg x g l rest I hh r (pre ++ [w]) ρ2 s2 (by rw [e]; simp) h2
    refine ⟨ρ3, s3, ?_, h3⟩
    rw [List.cons_append, List.map_cons, forE_cons]
    rcases e2 with e2 | e2 <;> simp only [e1, e2, forK_nx, forK_cnt, e3]
/-- the first turns of a for loop -/
theorem forE_some {α : Type} (tg : Tgt) (x : Stm) (g : α → W) (l rest : List α) (I : List α → Rho → S → Prop)
    (hh : ∀ pre a r, l = pre ++ a :: r → ∀ ρ s, I pre ρ s → ∃ ρ1, tg (g a) ρ = some ρ1 ∧ ∃ ρ2 s2, (x ρ1 s = .nx ρ2 s2 ∨ x ρ1 s = .cnt ρ2 s2) ∧ I (pre ++ [a]) ρ2 s2) (ρ : Rho) (s : S) (h : I [] ρ s) :
    ∃ ρ2 s2, forE tg x ((l ++ rest).map g) ρ s = forE tg x (rest.map g) ρ2 s2 ∧ I l ρ2 s2 := forE_some' tg x g l rest I hh l [] ρ s rfl h
def kCK2 (f : Sem1) (n m : Nat) (pk : List Pk) (ds : List Int) (us : List W) : List W → S → Res W := fun ws s => if us.length = n ∧ ws.length = m then (f (pkW pk (ds.map fun i => W.d (.int i)) us ws) s).bind frzV else .no
def kCK1 (f : Sem1) (n m : Nat) (pk : List Pk) (ds : List Int) (b : Cmp (List W)) (ρ : Rho) : List W → S → Res W := fun us s => (b ρ s).bind (kCK2 f n m pk ds us)
@[simp] theorem kCK2_eq (f : Sem1) (n m : Nat) (pk : List Pk) (ds : List Int) (us ws : List W) (s : S) : kCK2 f n m pk ds us ws s = if us.length = n ∧ ws.length = m then (f (pkW pk (ds.map fun i => W.d (.int i)) us ws) s).bind frzV else .no := (rfl)
@[simp] theorem kCK1_eq (f : Sem1) (n m : Nat) (pk : List Pk) (ds : List Int) (b : Cmp (List W)) (ρ : Rho) (us : List W) (s : S) : kCK1 f n m pk ds b ρ us s = (b ρ s).bind (kCK2 f n m pk ds us) := (rfl)
@[simp] theorem eCallK_eq (f : Sem1) (n m : Nat) (pk : List Pk) (ds : List Int) (a b : Cmp (List W)) (ρ : Rho) (s : S) : eCallK f n m pk ds a b ρ s = (a ρ s).bind (kCK1 f n m pk ds b ρ) := (rfl)
@[simp] theorem pkW_eq (l : List Pk) (ds us ws : List W) : pkW l ds us ws = l.map (Pk.get (.d .non) ds us ws) := (rfl)
@[simp] theorem pk_p (d : W) (ds us ws : List W) (i : Nat) : Pk.get d ds us ws (.p i) = us.getD i d := (rfl)
@[simp] theorem pk_k (d : W) (ds us ws : List W) (i : Nat) : Pk.get d ds us ws (.k i) = ws.getD i d := (rfl)
@[simp] theorem pk_c (d : W) (ds us ws : List W) (i : Nat) : Pk.get d ds us ws (.c i) = ds.getD i d := (rfl)
theorem third (x : Int) (h0 : 0 ≤ x) (h1 : x < 3) : x = 0 ∨ x = 1 ∨ x = 2 := by omega
theorem three_of (x : Int) (h0 : 0 ≤ x) (h1 : x < 3) (p q r : Int) (P : Int → Prop) (hp : P p) (hq : P q) (hr : P r) : ∃ y, P y ∧ atI (wD [.int p, .int q, .int r]) x = some (.d (.int y)) := by
  rcases third x h0 h1 with rfl | rfl | rfl
  · exact ⟨p, hp, rfl⟩
  · exact ⟨q, hq, rfl⟩
  · exact ⟨r, hr, rfl⟩
end TG

set_option Elab.async false
set_option linter.all false
set_option maxRecDepth 100000
set_option maxHeartbeats 2000000
namespace TG
open PySem L2 PyProof.Rows

/-! ### exceptions of own classes: raised, met -/
/-- an own class of exceptions without own __init__ -/
structure ExcAt (K : PySem.W.Frag) (mg : Str → Option Value) (cl : Str → Option Addr) (c : Str) : Prop where
  ex : ∃ (C : Addr) (B newId initId : String) (bm : List Value), cl c = some C ∧ mg c = some (.ref C) ∧ ExcBaseFacts B newId initId bm ∧ PySem.W.excIn K C bm newId = true ∧ PySem.W.keepIn K (.ref C) = true ∧
    PySem.W.subIn K (.ref C) (.type "BaseException") = some true ∧ PySem.W.typeIn K (.ref C) = some (.type "type")
section
variable {X : Cx} {C : Addr} {bm : List Value} {B newId initId : String} {x : Str} {p pos : Pos}
/-- such a class, called without arguments -/
theorem pmk_bare (facts : ExcBaseFacts B newId initId bm) (exc : PySem.W.excIn X.K C bm newId = true) (glob : X.mg x = some (.ref C)) (kept : PySem.W.keepIn X.K (.ref C) = true) (rs : Raises X (.ref C)) (hg : Gl X x)
    (nd : (x == Str.ofString "__debug__") = false := by decide) : PMk X (.Call (.Name x p) [] [] pos) (fun _ H Q => Q (.ref C) none H) := fun pins s σ H Q inv q => by
  obtain ⟨_, _, _, _, _, _, _, _, _, _, _, _, _, _, _, _, _, at_, ns, no, tail⟩ := exc_obj inv.kIn exc
  exact wpAny_Call_Name_kw (ld_glob inv hg glob (PySem.W.callWith_K0 inv.kIn kept (wpAny_call_exc_subT facts tail at_ ns no (fun _ _ made => mk_of inv made rs q (inv.hok.gone made.new)) (Nat.zero_le _))) nd)
end
def sRaise0 (c : Str) : Stm := fun ρ s => .exc c none ρ s
def hdF (sub : Str → Str → Option Bool) (c : Str) : List (Str × Stm) → Option (Option Stm)
  | [] => some none
  | (h, b) :: r => match sub c h with
    | some true => some (some b)
    | some false => hdF sub c r
    | none => none
def noExc : RS → RS
  | .exc _ _ _ _ => .no
  | r => r
def sTry (sub : Str → Str → Option Bool) (b : Stm) (hs : List (Str × Stm)) : Stm := fun ρ s => match b ρ s with
  | .exc c x ρ' s' => (match hdF sub c hs with | some (some k) => noExc (k ρ' s') | some none => .exc c x ρ' s' | none => .no)
  | r => r
def SubOk (K : PySem.W.Frag) (cl : Str → Option Addr) (sub : Str → Str → Option Bool) : Prop := ∀ c h b C C', sub c h = some b → cl c = some C → cl h = some C' → PySem.W.exmOne K (.ref C) (.ref C') = some b
section
variable {X : Cx} {cl : Str → Option Addr} {Wx : WX} {c : Str} {p p2 pos : Pos} {body : List Stmt} {b : Stm}
theorem js_raise0 (ok : XOk X Wx) (hc : X.calm = true) (F : ExcAt X.K X.mg cl c) (hg : Gl X c := by rfl) (nd : (c == Str.ofString "__debug__") = false := by decide) :
    JS cl Wx X (.Raise (some (.Call (.Name c p) [] [] p2)) none pos) (sRaise0 c) := by
  obtain ⟨C, B, ni, ii, bm, h1, h2, h3, h4, h5, h6, h7⟩ := F.ex
  refine PS.weaken (ps_raise hc ok.tk (pmk_bare h3 h4 h2 h5 (raises_own h6 h7) hg nd)) fun E σ H ⟨H0, m, ow, s, ρ, cx, h⟩ => ?_
  exact h _ _ _ _ _ _ _ Go.refl cx ⟨C, h1, rfl⟩
/-- the clauses -/
inductive HdJ (cl : Str → Option Addr) (X : Cx) : List ExceptHandler → List (Str × Stm) → Prop
  | nil : HdJ cl X [] []
  | cons {x : Str} {b₀ : Stmt} {suite : List Stmt} {np pos' : Pos} {hds : List ExceptHandler} {k : Stm} {l : List (Str × Stm)} (hx : ∃ C, cl x = some C ∧ X.mg x = some (.ref C)) (hg : Gl X x) (nd : (x == Str.ofString "__debug__") = false)
      (hs : ∀ (a : Addr) (oe : Obj) (pn : List (Addr × Obj)), XOk (X.suite a ((a, oe) :: pn)) W0 → JB cl W0 (X.suite a ((a, oe) :: pn)) (b₀ :: suite) k) (r : HdJ cl X hds l) :
      HdJ cl X (.ExceptHandler (some (.Name x np)) none (b₀ :: suite) pos' :: hds) ((x, k) :: l)
/-- the same for the library's rule -/
inductive HdR (K : PySem.W.Frag) (cl : Str → Option Addr) : List (Str × Stm) → List (Value × (Addr → Value → Option Addr → TS)) → Prop
  | nil : HdR K cl [] []
  | cons {x : Str} {k : Stm} {C : Addr} {l r} (h : cl x = some C) (q : HdR K cl l r) : HdR K cl ((x, k) :: l) ((.ref C, fun _ _ _ => Sof K cl W0 k) :: r)
theorem HdJ.ok (nd : X.N.Nodup) : ∀ {hds l}, HdJ cl X hds l → ∃ r, HdsOk X hds r ∧ HdR X.K cl l r
  | _, _, .nil => ⟨[], .nil, .nil⟩
  | _, _, .cons hx hg n hs q => by
    obtain ⟨C, h1, h2⟩ := hx
    obtain ⟨r, h3, h4⟩ := q.ok nd
    exact ⟨_, .cons (ts := fun _ _ _ => Sof X.K cl W0 _) ⟨hg, n, .inl h2⟩ (fun a oe cls d pn _ _ => hs a oe pn ⟨fun u s' ⟨a, B, sI, pins, σ, H, cls, d, e, I, nb, up, sky, na, os, ag, z⟩ => z.elim, PassesOwn.never, nd⟩) h3, .cons h1 h4⟩
theorem RunS.noExc {K : PySem.W.Frag} {H0 H : Hp} {m ow : List Addr} {E : Ends} {r : RS} (h : RunS K cl Wx H0 H m ow E (noExc r)) : RunS K cl W0 H0 H m ow E r := by
  cases r with
  | exc c x ρ s => exact h.elim
  | _ => exact h
theorem many_of {K : PySem.W.Frag} {sub : Str → Str → Option Bool} (hsub : SubOk K cl sub) {E : Ends} {c : Str} {x : Option D} {ρ : Rho} {s : S} {cv : Value} {dd : Option Addr} {σ : L2.St} {H0 H : Hp} {m ow : List Addr} {C : Addr} (hC : cl c = some C) (hcv : cv = .ref C) (cx : Ctx K cl H0 H m ow s σ ρ) (ex : ExcR K cl H0 H cv dd c x) :
    ∀ {l r}, HdR K cl l r → RunS K cl Wx H0 H m ow E (match hdF sub c l with | some (some k) => TG.noExc (k ρ s) | some none => .exc c x ρ s | none => .no) → wMany K Wx E r cv dd σ H
  | _, _, .nil, h => h _ _ _ _ _ _ _ Go.refl cx ex
  | _, _, .cons (x := y) (k := k) (C := C') (l := l) hy q, h => by
    subst hcv
    unfold hdF at h
    cases e : sub c y with
    | none => rw [e] at h; exact h.elim
    | some b =>
      rw [e] at h
      refine ⟨b, hsub c y b C C' e hC hy, fun hb a _ => ?_, fun hb => ?_⟩
      · subst hb
        exact ⟨H0, m, ow, s, ρ, cx, RunS.noExc h⟩
      · subst hb
        exact many_of hsub hC rfl cx ex q h
theorem js_try {h₀ : ExceptHandler} {hds : List ExceptHandler} {l : List (Str × Stm)} {sub : Str → Str → Option Bool} (ok : XOk X Wx) (hs : X.stack = X.env :: X.outer) (hf : X.env.frame = some X.env.locals) (hsub : SubOk X.K cl sub)
    (hb : ∀ (W : WX) (pn : List (Addr × Obj)) (xe : Value → Shared → Prop), XOk (X.tr pn xe) W → JB cl W (X.tr pn xe) body b) (hh : HdJ cl X (h₀ :: hds) l) : JS cl Wx X (.Try body (h₀ :: hds) [] [] pos) (sTry sub b l) := by
  obtain ⟨r, h1, h2⟩ := hh.ok ok.nd
  refine PS.weaken (ps_try_many hs hf ok.tk (tb := fun W => Sof X.K cl W b) (fun W pn xe tk po => hb W pn xe ⟨tk, po, ok.nd⟩) h1) fun E σ H ⟨H0, m, ow, s, ρ, cx, h⟩ => ⟨H0, m, ow, s, ρ, cx, ?_⟩
  unfold sTry at h
  cases e : b ρ s with
  | exc c x ρ' s' =>
    rw [e] at h
    intro cv dd σ' H0' H' m' ow' g cx' ex
    have h : RunS X.K cl Wx H0 H m ow E (match hdF sub c l with | some (some k) => TG.noExc (k ρ' s') | some none => .exc c x ρ' s' | none => .no) := h
    have hC : ∃ C, cl c = some C ∧ cv = .ref C := by
      cases x with
      | none => exact ex
      | some y => obtain ⟨C, _, _, q1, q2, _⟩ := ex; exact ⟨C, q1, q2⟩
    obtain ⟨C, q1, q2⟩ := hC
    exact many_of hsub q1 q2 cx' ex h2 (h.shift g)
  | nx ρ' s' => rw [e] at h; exact h
  | ret v s' => rw [e] at h; exact h
  | brk ρ' s' => rw [e] at h; exact h
  | cnt ρ' s' => rw [e] at h; exact h
  | no => rw [e] at h; exact h
end
end TG
namespace TG
open PySem L2 PyProof.Rows
def subT : List (Str × Str × Bool) → Str → Str → Option Bool
  | [], _, _ => none
  | (c, h, b) :: r, x, y => if c = x ∧ h = y then some b else subT r x y
theorem subT_ok {K : PySem.W.Frag} {cl : Str → Option Addr} : ∀ {l : List (Str × Str × Bool)}, (∀ q ∈ l, ∃ C C', cl q.1 = some C ∧ cl q.2.1 = some C' ∧ PySem.W.exmOne K (.ref C) (.ref C') = some q.2.2) → SubOk K cl (subT l)
  | [], _, _, _, _, _, _, e, _, _ => nomatch e
  | (c, h, b) :: r, hl, x, y, d, C, C', e, h1, h2 => by
    unfold subT at e
    split at e
    · rename_i q
      obtain ⟨rfl, rfl⟩ := q
      cases e
      obtain ⟨D, D', e1, e2, e3⟩ := hl _ (.head _)
      cases e1.symm.trans h1
      cases e2.symm.trans h2
      exact e3
    · exact subT_ok (fun q hq => hl q (.tail _ hq)) x y d C C' e h1 h2
end TG
namespace TG
open PySem L2 PyProof.Rows
theorem exm_pair {K : PySem.W.Frag} {C C' : Addr} {b : Bool} (b1 : PySem.W.subIn K (.ref C') (.type "BaseException") = some true) (i1 : PySem.W.isClsIn K C' = true) (t1 : PySem.W.typeIn K (.ref C') = some (.type "type")) (s1 : PySem.W.subIn K (.ref C) (.ref C') = some b) :
    PySem.W.exmOne K (.ref C) (.ref C') = some b := by
  have i2 : (PySem.W.clsIn K C').isSome = true := i1
  unfold PySem.W.exmOne PySem.W.kitCls
  simp only [b1, t1, s1, i2]
  rfl
end TG

set_option Elab.async false
set_option linter.all false
set_option maxRecDepth 100000
set_option maxHeartbeats 4000000
/-! sorted(set(a list of ints)) -/
namespace L2
open PySem PySem.Spec PyProof.Rows
abbrev tgSet0 (w : World) : Obj := { cls := .type "set", dict := none, data := .set #[] 0 (.fresh 0 0 (!w.params.followText "set-order")) }
section
variable {P : Program} {w : World} {A : Around} {E : Value → Shared → Prop} {s : Shared}
/-- what a new set over s has become -/
def TgSetMade (w : World) (s : Shared) (ns : List Int) (s2 : Shared) : Prop :=
  ∃ h' tk c, s2 = { s with heap := h', toks := tk } ∧ SetR w h' s.heap.objs.size (fun j => decide (j ∈ ns)) c ∧ c ≤ ns.length ∧ ∀ b o, s.heap.get? b = some o → h'.get? b = some o
theorem tg_set_init {l : Addr} {items : Array Value} (ns : List Int) {R : Result → Shared → Prop} (hh : A.handled = none) (hl : s.heap.IsList l items) (hit : IntsAre items.toList ns) (hb : ns.length + 1 < scanBound)
    (hR : ∀ s2, TgSetMade w s ns s2 → R (.ok (.ret .none)) s2) :
    wpAny (model P w) A.in1 (Builtin.«set.__init__» ⟨[.ref s.heap.objs.size, .ref l], []⟩) (fun fin s' => match fin with
      | .done f => R (.ok f) s'
      | .again c' => c'.quiet = true ∧ codeAny (model P w) A c' R s') (fun e s' => R (.error e) s') { s with heap := s.heap.push (tgSet0 w) } := by
  have hsize : items.size = ns.length := by rw [← Array.length_toList]; exact hit.length
  have hS : (s.heap.push (tgSet0 w)).get? s.heap.objs.size = some (tgSet0 w) := Heap.get?_push_size _ rfl
  obtain ⟨⟨ocls, odict, odata, oslots⟩, hol, hcl, nl, hdl⟩ := hl
  simp only at hcl hdl
  subst hcl; subst hdl
  have hol' : (s.heap.push (tgSet0 w)).get? l = some { cls := .type "list", dict := odict, data := .seq items nl, slots := oslots } := Heap.get?_push_of_some _ hol
  have hl1 : (s.heap.push (tgSet0 w)).IsList l items := ⟨_, hol', rfl, nl, rfl⟩
  have f1 := F.sub_list_set
  have f2 := F.sub_list_frozenset
  have f3 : (Value.type "list" == Value.type "dict") = false := by decide
  unfold Builtin.«set.__init__» noKeywords Builtin.Frozenset.updateFrom
  generalize hPI : pyIter = PI
  wp_walk
  subst hPI
  refine wpAny_pyIter_list hl1 ?_
  refine wpAny_bind (wpAny_runValue ?_)
  have hlS : l < s.heap.objs.size := Heap.lt_size hol
  have hz : (s.heap.push (tgSet0 w)).objs.size = s.heap.objs.size + 1 := Heap.size_push ..
  have hne0 : l ≠ s.heap.objs.size := Nat.ne_of_lt hlS
  have hneI : l ≠ (s.heap.push (tgSet0 w)).objs.size := by rw [hz]; exact Nat.ne_of_lt (Nat.lt_succ_of_lt hlS)
  have hSf : s.heap.objs.size ∉ [(s.heap.push (tgSet0 w)).objs.size, l] := by
    rw [hz]
    intro q
    rcases List.mem_cons.mp q with q | q
    · exact absurd q (Nat.ne_of_lt (Nat.lt_succ_self _))
    · exact hne0 (List.mem_singleton.mp q).symm
  have hval : ∀ (i : Nat) (v : Value), items[i]? = some v → ∃ k t, ns[i]? = some k ∧ v = .int k t := fun i v hv => by
    have hi : i < ns.length := by rw [← hsize]; exact (Array.getElem?_eq_some_iff.mp hv).1
    obtain ⟨t, e⟩ := PyProof.Rows.IntsAre.int_at hit i v (by rw [Array.getElem?_toList]; exact hv)
    exact ⟨ns[i], t, by simp [hi], by rw [e]; simp [List.getD_eq_getElem?_getD, hi]⟩
  have hh3 : A.in1.in1.handled = none := hh
  refine set_update_ints ((Walks.list hh3 _ l hneI items).toS) s.heap.objs.size hSf ns hsize hb hval (items.size - 0) 0 _ (by omega) (Nat.zero_le _) ?_ ?_ ?_
  · exact ⟨⟨_, Heap.get?_push_size _ rfl, rfl, rfl⟩, hl1.push _⟩
  · exact ⟨0, Nat.le_refl 0, setR_new_at (Heap.get?_push_of_some _ hS)⟩
  · rintro ⟨h', g2, d', tk', os'⟩ c' hm hc' hS'
    have eg : g2 = s.gens := hm.gens
    have ed : d' = s.drawn := hm.drawn
    have eo : os' = s.os := hm.os
    subst eg; subst ed; subst eo
    show wpAny _ _ _ _ _ _
    refine wpAny_pure ?_
    show wpAny _ _ (ret Value.none) _ _ _
    refine wpAny_pure (hR _ ⟨h', tk', c', rfl, hS', by omega, fun b o e => ?_⟩)
    have hb0 : b < s.heap.objs.size := Heap.lt_size e
    refine hm.heap b o ?_ (Heap.get?_push_of_some _ (Heap.get?_push_of_some _ e))
    intro q
    rcases List.mem_cons.mp q with q | q
    · exact absurd q (Nat.ne_of_lt hb0)
    · have q := List.mem_singleton.mp q
      rw [hz] at q
      exact absurd q (Nat.ne_of_lt (Nat.lt_succ_of_lt hb0))
theorem tg_call_set {l : Addr} {items : Array Value} (ns : List Int) {Q : Value → Shared → Prop} (hh : A.handled = none) (hl : s.heap.IsList l items) (hit : IntsAre items.toList ns) (hb : ns.length + 1 < scanBound)
    (h : ∀ s2, TgSetMade w s ns s2 → Q (.ref s.heap.objs.size) s2) : wpAny (model P w) A (call (.type "set") [.ref l]) Q E s := by
  obtain ⟨c, tl, hmro⟩ := F.called_set.mro
  have hmade := F.called_set.made
  have hsub := F.called_set.sub
  have h1 := F.called_set.notType
  have h2 := F.called_set.canCreate
  have hct := F.typeCall_set_1 (.ref l)
  refine wpAny_call (codeAny_of_tree ?_)
  show wpAny _ _ (callAny (.type "set") _) _ _ _
  refine wpAny_pure ⟨Code.quiet_builtin _ (by decide +kernel), codeAny_builtin F.entry_type_call ?_⟩
  rw [Around.under_plain (weight_type_call_type "set" [.ref l] []) rfl]
  repeat (any_goals (first | assumption | wp_step))
  refine codeAny_mono (code_set_led1 (.ref l) (E := E) (Q₁ := fun obj s₁ => obj = .ref s.heap.objs.size ∧ s₁ = { s with heap := s.heap.push (tgSet0 w) }) ⟨rfl, rfl⟩) fun r s₁ hr => ?_
  cases r with
  | error e => exact hr
  | ok fl =>
    cases fl with
    | ret obj =>
      obtain ⟨rfl, rfl⟩ := hr
      have hS : (s.heap.push (tgSet0 w)).get? s.heap.objs.size = some (tgSet0 w) := Heap.get?_push_size _ rfl
      have hT : Shared.TypeIs { s with heap := s.heap.push (tgSet0 w) } (.ref s.heap.objs.size) "set" := ⟨_, hS, rfl⟩
      have hli := F.called_set.init.lookup
      have hbi := F.called_set.init.bind (.ref s.heap.objs.size)
      repeat (any_goals (first | assumption | wp_step))
      refine codeAny_mono (codeAny_call_builtin (R := wants (fun r s₂ => r = .none ∧ TgSetMade w s ns s₂) E) F.called_set.init.plain F.entry_set_init (check_set_init_1 hT (tg_set_init ns (by exact hh) hl hit hb fun s2 q => ⟨rfl, q⟩))) fun r₂ s₂ hr₂ => ?_
      cases r₂ with
      | error e => exact hr₂
      | ok fl₂ =>
        cases fl₂ with
        | ret v =>
          obtain ⟨rfl, q⟩ := hr₂
          repeat (any_goals (first | assumption | wp_step))
          exact h _ q
        | _ => exact hr₂.elim
    | _ => exact hr.elim
end
/-- set(xs) -/
def rTgSetL (K : PySem.W.Frag) (w : World) : List V → Hp → VK → Prop := fun xs H Q => ∃ (a : Addr) (ns : List Int), xs = [.ref a] ∧ SqL K H a (ns.map V.int) ∧ ns.length ≤ 1000 ∧
  ∀ p c, H p = none → c ≤ ns.length → Q (.ref p) (upd H p (SetO w p (fun j => decide (j ∈ ns)) c))
theorem cr_tgSetL {X : Cx} (hc : X.calm = true) : CallR X (.type "set") (rTgSetL X.K X.w) := by
  intro pins s σ H vs us Q I r h
  obtain ⟨a, ns, rfl, hq, hl, q⟩ := h
  rw [Vals.ref1 r]
  obtain ⟨its, rv, ⟨⟨cls, dd, data, sl⟩, n, ho, hcl, hdn, hd⟩, hlen⟩ := I.list hq
  simp only at hcl hd
  subst hcl hd
  have hi : IntsAre its.toArray.toList ns := ints_of_vals rv
  refine tg_call_set ns (I.ok.hd hc) (items := its.toArray) ⟨_, ho, rfl, n, rfl⟩ hi (by unfold scanBound; omega) fun s2 ⟨h', tk, c, e, R, hc', k⟩ => ?_
  subst e
  exact ⟨.ref _, upd H s.heap.objs.size (SetO X.w s.heap.objs.size (fun j => decide (j ∈ ns)) c), I.laid (t' := tk) k (Nat.le_refl _) (setO_new R), rfl, q _ _ (I.hok.fresh (Nat.le_refl _)) hc'⟩
end L2
namespace TG
open PySem L2 PyProof.Rows
/-- the members, rising, each once -/
def dedupI : List Int → List Int
  | [] => []
  | a :: r => if a ∈ r then dedupI r else a :: dedupI r
theorem dedupI_mem : ∀ {l : List Int} {x : Int}, x ∈ dedupI l ↔ x ∈ l
  | [], x => Iff.rfl
  | a :: r, x => by
    unfold dedupI
    split
    · rename_i h
      rw [dedupI_mem, List.mem_cons]
      exact ⟨.inr, fun z => z.elim (fun z => z ▸ h) id⟩
    · rw [List.mem_cons, List.mem_cons, dedupI_mem]
theorem dedupI_nodup : ∀ (l : List Int), (dedupI l).Nodup
  | [] => List.nodup_nil
  | a :: r => by
    unfold dedupI
    split
    · exact dedupI_nodup r
    · rename_i h
      exact List.nodup_cons.mpr ⟨fun z => h (dedupI_mem.mp z), dedupI_nodup r⟩
def sortD (l : List Int) : List Int := (dedupI l).mergeSort
theorem sortD_mem {l : List Int} {x : Int} : x ∈ sortD l ↔ x ∈ l := by
  unfold sortD
  rw [(List.mergeSort_perm _ _).mem_iff, dedupI_mem]
theorem sortD_lt (l : List Int) : (sortD l).Pairwise (· < ·) := by
  have h1 : (sortD l).Pairwise (· ≤ ·) := by
    have := List.pairwise_mergeSort (le := fun a b : Int => decide (a ≤ b)) (fun a b c h h' => by simp at *; omega) (fun a b => by simp; omega) (dedupI l)
    exact this.imp fun h => of_decide_eq_true h
  have h2 : (sortD l).Nodup := (List.mergeSort_perm _ _).nodup_iff.mpr (dedupI_nodup l)
  exact (h1.and h2).imp fun ⟨a, b⟩ => by omega
theorem lt_ext : ∀ {l r : List Int}, l.Pairwise (· < ·) → r.Pairwise (· < ·) → (∀ x, x ∈ l ↔ x ∈ r) → l = r
  | [], [], _, _, _ => rfl
  | [], b :: r, _, _, h => by have := (h b).mpr (.head _); cases this
  | a :: l, [], _, _, h => by have := (h a).mp (.head _); cases this
  | a :: l, b :: r, h1, h2, h => by
    obtain ⟨p1, p2⟩ := List.pairwise_cons.mp h1
    obtain ⟨q1, q2⟩ := List.pairwise_cons.mp h2
    have hab : a = b := by
      rcases List.mem_cons.mp ((h a).mp (.head _)) with e | e
      · exact e
      · rcases List.mem_cons.mp ((h b).mpr (.head _)) with e' | e'
        · exact e'.symm
        · have := p1 b e'; have := q1 a e; omega
    subst hab
    congr 1
    refine lt_ext p2 q2 fun x => ⟨fun hx => ?_, fun hx => ?_⟩
    · rcases List.mem_cons.mp ((h x).mp (.tail _ hx)) with e | e
      · have := p1 x hx; omega
      · exact e
    · rcases List.mem_cons.mp ((h x).mpr (.tail _ hx)) with e | e
      · have := q1 x hx; omega
      · exact e
def kSortSet : List W → S → Res (List W) := fun ws s1 => match ws with
  | [x] => (match asIntsL x s1 with | some l => if l.length < 64 then .ok (wD ((sortD l).map D.int)) s1 else .no | none => .no)
  | _ => .no
def eSortSet (a : Cmp (List W)) : Cmp (List W) := fun ρ s => (a ρ s).bind kSortSet
section
variable {X : Cx} {cl : Str → Option Addr} {Wx : WX} {e : Expr} {el : Cmp (List W)} {p p2 pos pos2 : Pos}
theorem ints_ws {K : PySem.W.Frag} {H0 : Hp} {m : List Addr} (l : List Int) : RepWs K cl H0 m (l.map V.int) (wD (l.map D.int)) := (Reps.ints l).ws
theorem jl_sortset (hc : X.calm = true) (hg : Gl X "sorted") (hm : X.mg "sorted" = none) (hg2 : Gl X "set") (hm2 : X.mg "set" = none) (ha : JA cl Wx X [e] el)
    (h1 : starEach [.Call (.Name "set" p2) [e] [] pos2] X.env = (false, eval (.Call (.Name "set" p2) [e] [] pos2) X.env) :: starEach [] X.env := by rfl) (h2 : ((backTo pos (starEach [] X.env)).any fun x => x.fst) = false := by rfl)
    (h3 : starEach [e] X.env = (false, eval e X.env) :: starEach [] X.env := by rfl) (h4 : ((backTo pos2 (starEach [] X.env)).any fun x => x.fst) = false := by rfl) :
    JL cl Wx X (.Call (.Name "sorted" p) [.Call (.Name "set" p2) [e] [] pos2] [] pos) (eSortSet el) := by
  have P1 := pe_callTy (p := p2) (pos := pos2) (cr_tgSetL hc) hg2 hm2 (by decide +kernel) ha (by decide) (by decide) h3 h4
  have P2 := pe_callB (p := p) (pos := pos) (cr_sortedSet hc) hg hm (by decide +kernel) (pa_cons P1 pa_nil) (by decide) (by decide) h1 h2
  refine PE.weaken P2 fun σ H Q ⟨H0, m, ow, s, ρ, cx, h⟩ => ?_
  refine ⟨H0, m, ow, s, ρ, cx, RunE.bind h fun ws s1 v H1 H1' m1 g st rr h2 => ?_⟩
  have h2 : RunE X.K cl (rrL X.K cl) Wx H1 H1' m1 σ Q (kSortSet ws s1) := h2
  cases rr with
  | nil => exact h2.elim
  | @cons v w vs ws r1 r2 =>
    cases r2 with
    | cons _ _ => exact h2.elim
    | nil =>
      unfold kSortSet at h2
      simp only at h2
      cases e1 : asIntsL w s1 with
      | none => rw [e1] at h2; exact h2.elim
      | some l =>
        rw [e1] at h2
        simp only at h2
        split at h2
        · rename_i hl
          obtain ⟨a, ea, eb⟩ := asIntsL_ok st r1 e1
          refine ⟨a, l, by rw [ea], sqL_of eb, by omega, fun p1 c hp1 hcl => ?_⟩
          refine ⟨p1, _, c, rfl, upd_same, by omega, fun ns p2 q1 q2 q3 q4 => ?_⟩
          have es : ns = sortD l := lt_ext q1 (sortD_lt l) fun x => by rw [q2, sortD_mem, decide_eq_true_eq]
          subst es
          have hp2 : H1' p2 = none := by
            by_cases z : p2 = p1
            · subst z; rw [upd_same] at q4; cases q4
            · rw [upd_ne z] at q4; exact q4
          exact h2 _ _ _ _ ((Go.fresh hp1).trans (Go.fresh q4)) ((st.fresh hp1).fresh q4) ⟨p2, _, rfl, hp2, upd_same, st.h0 hp2, st.notM hp2, ints_ws _⟩
        · exact h2.elim
end
end TG

set_option Elab.async false
set_option linter.all false
set_option maxRecDepth 100000
set_option maxHeartbeats 4000000
/-! own lists read and stored; cells appended to; what a call gives as a cell, or handed on -/
namespace TG
open PySem L2 PyProof.Rows
def kIxO (l : List W) : W → S → Res W := fun y s => match asInt y with | some k => (match atI l k with | some w => .ok w s | none => .no) | none => .no
def eIxO (i : Nat) (e : Cmp W) : Cmp W := fun ρ s => match (ρ[i]? : Option EV) with | some (.own l) => (e ρ s).bind (kIxO l) | _ => .no
def eLenO (i : Nat) : Cmp W := fun ρ s => match (ρ[i]? : Option EV) with | some (.own l) => .ok (.d (.int l.length)) s | _ => .no
def kSetIO2 (i : Nat) (l : List W) (x : W) : W → Stm := fun z ρ s => match asInt z with | some k => (match ixN l.length k with | some j => .nx (ρ.set i (.own (l.set j x))) s | none => .no) | none => .no
def kSetIO (i : Nat) (k : Cmp W) : W → Stm := fun x ρ s => match (ρ[i]? : Option EV) with | some (.own l) => ebS (k ρ s) ρ (kSetIO2 i l x) | _ => .no
def sSetIO (i : Nat) (k v : Cmp W) : Stm := fun ρ s => ebS (v ρ s) ρ (kSetIO i k)
def kExt (i : Nat) (l : List W) : W → Stm := fun y ρ s => match asLst y s with | some zs => if l.length + zs.length ≤ 16777216 then .nx (ρ.set i (.own (l ++ zs))) s else .no | none => .no
def sExt (i : Nat) (e : Cmp W) : Stm := fun ρ s => match (ρ[i]? : Option EV) with | some (.own l) => ebS (e ρ s) ρ (kExt i l) | _ => .no
def appC : W → W → S → Option S := fun x v s => match x with
  | .r n => (match s[n]? with | some (.lst l) => if l.length < 16777216 then some (s.set n (.lst (l ++ [v]))) else none | _ => none)
  | _ => none
def isCL : W → S → Bool := fun x s => match x with
  | .r n => (match s[n]? with | some (.lst _) => true | _ => false)
  | _ => false
def kAppC2 (x : W) : W → Stm := fun y ρ s => match appC x y s with | some s' => .nx ρ s' | none => .no
def kAppC (e : Cmp W) : W → Stm := fun x ρ s => if isCL x s = true then ebS (e ρ s) ρ (kAppC2 x) else .no
def sAppC (o e : Cmp W) : Stm := fun ρ s => ebS (o ρ s) ρ (kAppC e)
def kProm : RV → S → Res W := fun rv s => match rv with
  | .w x => .ok x s
  | .own l => .ok (.r s.length) (s ++ [.lst l])
  | .ownD l => .ok (.r s.length) (s ++ [.dic l])
def kCallC (f : Sem1) : List W → S → Res W := fun ws s => (f ws s).bind kProm
/-- a call whose new list is a cell from here on -/
def eCallC (f : Sem1) (a : Cmp (List W)) : Cmp W := fun ρ s => (a ρ s).bind (kCallC f)
def kRetC (f : Sem1) : List W → Stm := fun ws ρ s => match f ws s with
  | .ok rv s' => .ret rv s'
  | .exc c x s' => .exc c x ρ s'
  | .no => .no
/-- return f(..), a new list handed on as it is -/
def sRetC (f : Sem1) (a : Cmp (List W)) : Stm := fun ρ s => ebS (a ρ s) ρ (kRetC f)
section
variable {X : Cx} {cl : Str → Option Addr} {Wx : WX} {e i o : Expr} {es : List Expr} {pos p1 p2 p3 p : Pos} {ea ei eo : Cmp W} {el : Cmp (List W)} {k : Nat} {x : Str} {ps : List Str} {f : Sem1}
theorem je_ixO (n : Nat) (hi : JE cl Wx X e ei) (hN : X.N[n]? = some x := by rfl) (hv : Vis X.env.scope x := by first | exact Or.inl rfl | exact Or.inr (Or.inl rfl) | exact Or.inr (Or.inr rfl)) (hd : (x == ("__debug__" : Str)) = false := by decide)
    (hcd : (x == ("__classdict__" : Str)) = false := by decide) (hs : PlainIx e := by exact fun _ _ => rfl) : JE cl Wx X (.Subscript (.Name x p1) e pos) (eIxO n ei) :=
  PE.weaken (pe_ix ix_list (pe_var hN hv hd hcd) hi hs) fun σ H Q ⟨H0, m, ow, s, ρ, cx, h⟩ => by
    unfold eIxO at h
    split at h
    · rename_i l e0
      obtain ⟨p, vs, h1, h2, h3, h4⟩ := cx.en.slot n _ e0
      refine ⟨.ref p, h1, H0, m, ow, s, ρ, cx, RunE.bind h fun y s1 v H1 H1' m1 g st rr q => ?_⟩
      have q : RunE X.K cl (rrW X.K cl) Wx H1 H1' m1 σ Q (kIxO l y s1) := q
      obtain ⟨p', us, k1, k2, k3, k4⟩ := (cx.go g st).en.slot n _ e0
      rw [h1] at k1
      cases k1
      unfold kIxO at q
      split at q
      · rename_i kk e1
        split at q
        · rename_i w e2
          obtain ⟨u, r1, r2⟩ := atI_ok k4 e2
          exact ⟨p, us, kk, u, rfl, asInt_ok rr e1, sqL_of k3, r1, RunE.done (RR := rrW X.K cl) q st r2⟩
        · exact q.elim
      · exact q.elim
    · exact h.elim
theorem je_lenO (n : Nat) (hg : Gl X "len") (hm : X.mg "len" = none) (hN : X.N[n]? = some x := by rfl) (hv : Vis X.env.scope x := by first | exact Or.inl rfl | exact Or.inr (Or.inl rfl) | exact Or.inr (Or.inr rfl)) (hd : (x == ("__debug__" : Str)) = false := by decide)
    (hcd : (x == ("__classdict__" : Str)) = false := by decide)
    (h3 : starEach [.Name x p1] X.env = (false, eval (.Name x p1) X.env) :: starEach [] X.env := by rfl) (h4 : ((backTo pos (starEach [] X.env)).any fun x => x.fst) = false := by rfl) : JE cl Wx X (.Call (.Name "len" p) [.Name x p1] [] pos) (eLenO n) :=
  PE.weaken (pe_callB (p := p) (pos := pos) call_len hg hm PySem.boot_len (pa_cons (pe_var hN hv hd hcd) pa_nil h3) (by decide) (by decide) h3 h4) fun σ H Q ⟨H0, m, ow, s, ρ, cx, h⟩ => by
    unfold eLenO at h
    split at h
    · rename_i l e0
      obtain ⟨p, vs, h1, h2, h3, h4⟩ := cx.en.slot n _ e0
      exact ⟨.ref p, h1, _, l.length, rfl, .inl ⟨vs, sqL_of h3, h4.length.symm⟩, RunE.done (RR := rrW X.K cl) h cx.st .int⟩
    · exact h.elim
theorem js_setIO (n : Nat) (hi : JE cl Wx X i ei) (h : JE cl Wx X e ea) (hN : X.N[n]? = some x := by rfl) (hv : Vis X.env.scope x := by first | exact Or.inl rfl | exact Or.inr (Or.inl rfl) | exact Or.inr (Or.inr rfl)) (hd : (x == ("__debug__" : Str)) = false := by decide)
    (hcd : (x == ("__classdict__" : Str)) = false := by decide)
    (ha : ∀ v : Value, assign (.Subscript (.Name x p1) i p2) X.env v = (do let ov ← holding [v] (eval (.Name x p1) X.env); let iv ← holding [v, ov] (eval i X.env); standAt p2; holding [v, ov, iv] (setItem ov iv v); release [v, ov, iv] []) := by exact fun _ => rfl)
    (h1 : swapsWithSole [.Subscript (.Name x p1) i p2] e pos.line X.env = pure false := by rfl) (h2 : swappedStores [.Subscript (.Name x p1) i p2] e X.env = pure none := by rfl) (h3 : List.map (fun x => x.snd) (assignEach [.Subscript (.Name x p1) i p2] X.env) = [assign (.Subscript (.Name x p1) i p2) X.env] := by rfl) :
    JS cl Wx X (.Assign [.Subscript (.Name x p1) i p2] e pos) (sSetIO n ei ea) :=
  PS.weaken (ps_asg h (pg_sub (pe_var hN hv hd hcd) hi set_list ha) h1 h2 h3) fun E σ H ⟨H0, m, ow, s, ρ, cx, h⟩ => ⟨H0, m, ow, s, ρ, cx, RunS.ofE cx h fun y s1 v H1 H1' m1 g c rr q1 => by
    have q1 : RunS X.K cl Wx H1 H1' m1 ow E (kSetIO n ei y ρ s1) := q1
    unfold kSetIO at q1
    split at q1
    · rename_i l e0
      obtain ⟨p, vs, h1, h2, h3, h4⟩ := c.en.slot n _ e0
      refine ⟨.ref p, h1, H1, m1, ow, s1, ρ, c, RunS.ofE c q1 fun z s2 uz H2 H2' m2 g2 c2 r2 q2 => ?_⟩
      have q2 : RunS X.K cl Wx H2 H2' m2 ow E (kSetIO2 n l y z ρ s2) := q2
      obtain ⟨p', us, k1, k2, k3, k4⟩ := c2.en.slot n _ e0
      rw [h1] at k1
      cases k1
      have rr := RepW.mono g2.s0 g2.pre rr
      unfold kSetIO2 at q2
      split at q2
      · rename_i kk e1
        split at q2
        · rename_i j e2
          refine ⟨p, us, kk, j, rfl, asInt_ok r2 e1, k3, by rw [k4.length]; exact e2, ?_⟩
          exact q2 _ _ _ _ _ (Go.updOwn k2) (c2.updOwn e0 rfl h1 k2 rfl ⟨p, _, rfl, k2, upd_same, k4.set rr j⟩)
        · exact q2.elim
      · exact q2.elim
    · exact q1.elim⟩
theorem js_ext (n : Nat) (h : JE cl Wx X e ea) (hN : X.N[n]? = some x := by rfl) (hv : Vis X.env.scope x := by first | exact Or.inl rfl | exact Or.inr (Or.inl rfl) | exact Or.inr (Or.inr rfl)) (hd : (x == ("__debug__" : Str)) = false := by decide)
    (hcd : (x == ("__classdict__" : Str)) = false := by decide)
    (q1 : attributeBase (.Name x p1) "extend" X.env (eval (.Name x p1) X.env) = eval (.Name x p1) X.env := by rfl)
    (q2 : ((((backTo p3 (starEach (e :: []) X.env)).all fun x => !x.fst) && (backToKw p3 (keywordEach [] X.env)).all fun x => x.fst.isSome) && decide (((e :: []).length + ([] : List Keyword).length + if ([] : List Keyword).isEmpty = true then 0 else 1) < 30)) = true := by rfl)
    (q3 : (p2.endLine == p3.line) = true := by rfl) (q4 : starEach (e :: []) X.env = (false, eval e X.env) :: starEach [] X.env := by rfl) (q5 : ((backTo p3 (starEach [] X.env)).any fun x => x.fst) = false := by rfl)
    (hs : swapsWith (.Call (.Attribute (.Name x p1) "extend" p2) [e] [] p3) none pos.line X.env = pure false := by rfl) :
    JS cl Wx X (.Expr (.Call (.Attribute (.Name x p1) "extend" p2) [e] [] p3) pos) (sExt n ea) :=
  PS.weaken (ps_expr (pe_bm PySem.F.plainAttrs_list PySem.F.slot_list_extend PySem.F.type_list_extend mt_extend (pe_var hN hv hd hcd) (pa_cons h pa_nil q4) q1 q2 q3 q4 q5) hs) fun E σ H ⟨H0, m, ow, s, ρ, cx, h⟩ => by
    unfold sExt at h
    split at h
    · rename_i l e0
      obtain ⟨p, vs, h1, h2, h3, h4⟩ := cx.en.slot n _ e0
      refine ⟨.ref p, h1, .inl ⟨rfl, vs, .inl (.inl h3)⟩, H0, m, ow, s, ρ, cx, RunS.ofE cx h fun y s1 v H1 H1' m1 g c rr h5 => ?_⟩
      have h5 : RunS X.K cl Wx H1 H1' m1 ow E (kExt n l y ρ s1) := h5
      obtain ⟨p', us, k1, k2, k3, k4⟩ := c.en.slot n _ e0
      rw [h1] at k1
      cases k1
      unfold kExt at h5
      split at h5
      · rename_i zs e1
        obtain ⟨b, ws, b1, b2, b3⟩ := asLst_ok c.st rr e1
        split at h5
        · rename_i hl
          subst b1
          refine ⟨p, b, us, ws, rfl, rfl, k3, b2, size_of (by rw [k4.length, b3.length]; exact hl), ?_⟩
          exact h5 _ _ _ _ _ (Go.updOwn k2) (c.updOwn e0 rfl h1 k2 rfl ⟨p, _, rfl, k2, upd_same, k4.append b3⟩)
        · exact h5.elim
      · exact h5.elim
    · exact h.elim
theorem js_appC (ho : JE cl Wx X o eo) (h : JE cl Wx X e ea)
    (q1 : attributeBase o "append" X.env (eval o X.env) = eval o X.env := by rfl)
    (q2 : ((((backTo p3 (starEach (e :: []) X.env)).all fun x => !x.fst) && (backToKw p3 (keywordEach [] X.env)).all fun x => x.fst.isSome) && decide (((e :: []).length + ([] : List Keyword).length + if ([] : List Keyword).isEmpty = true then 0 else 1) < 30)) = true := by rfl)
    (q3 : (p2.endLine == p3.line) = true := by rfl) (q4 : starEach (e :: []) X.env = (false, eval e X.env) :: starEach [] X.env := by rfl) (q5 : ((backTo p3 (starEach [] X.env)).any fun x => x.fst) = false := by rfl)
    (hs : swapsWith (.Call (.Attribute o "append" p2) [e] [] p3) none pos.line X.env = pure false := by rfl) :
    JS cl Wx X (.Expr (.Call (.Attribute o "append" p2) [e] [] p3) pos) (sAppC eo ea) :=
  PS.weaken (ps_expr (pe_bm PySem.F.plainAttrs_list PySem.F.slot_list_append PySem.F.type_list_append mt_append ho (pa_cons h pa_nil q4) q1 q2 q3 q4 q5) hs) fun E σ H ⟨H0, m, ow, s, ρ, cx, h⟩ => ⟨H0, m, ow, s, ρ, cx, RunS.ofE cx h fun y s1 v H1 H1' m1 g c rr h2 => by
    have h2 : RunS X.K cl Wx H1 H1' m1 ow E (kAppC ea y ρ s1) := h2
    unfold kAppC at h2
    split at h2
    · rename_i hc
      cases y with
      | d _ => cases hc
      | r n =>
        obtain ⟨a, a1, a2⟩ := rr
        have hc' : (match s1[n]? with | some (.lst _) => true | _ => false) = true := hc
        split at hc'
        · rename_i l e3
          obtain ⟨z1, vs, z2, z3⟩ := c.st.cell n a _ a1 e3
          subst a2
          refine ⟨.inl ⟨rfl, vs, .inl (.inl z2)⟩, H1, m1, ow, s1, ρ, c, RunS.ofE c h2 fun w s2 u H2 H2' m2 g2 c2 r2 h5 => ?_⟩
          have h5 : RunS X.K cl Wx H2 H2' m2 ow E (kAppC2 (.r n) w ρ s2) := h5
          have h5 : RunS X.K cl Wx H2 H2' m2 ow E (match appC (.r n) w s2 with | some s' => .nx ρ s' | none => .no) := h5
          cases e5 : appC (.r n) w s2 with
          | none => rw [e5] at h5; exact h5.elim
          | some s' =>
            rw [e5] at h5
            have e6 : (match s2[n]? with | some (.lst l) => if l.length < 16777216 then some (s2.set n (.lst (l ++ [w]))) else none | _ => none) = some s' := e5
            split at e6
            · rename_i l2 e7
              split at e6
              · rename_i hl
                cases e6
                have am2 : m2[n]? = some a := by
                  obtain ⟨t, rfl⟩ := g2.pre
                  rw [List.getElem?_append_left (List.getElem?_eq_some_iff.mp a1).1]; exact a1
                obtain ⟨y1, us, y2, y3⟩ := c2.st.cell n a _ am2 e7
                refine ⟨a, us, u, rfl, rfl, y2, size_lt (by rw [y3.length]; exact hl), ?_⟩
                have gg : GoE H2 H2' m2 H2 (upd H2' a (.lst (us ++ [u]))) m2 := Go.updCell (List.mem_of_getElem? am2)
                exact h5 σ _ _ _ _ gg.lift (c2.go gg (c2.st.updCell am2 (List.getElem?_eq_some_iff.mp e7).1 ⟨_, upd_same, y3.append (.cons r2 .nil)⟩))
              · cases e6
            · cases e6
        · cases hc'
    · exact h2.elim⟩
theorem call_prom {K : PySem.W.Frag} {H0 H : Hp} {m : List Addr} {s : S} {σ : L2.St} {Q : VK} {ws : List W} (st : Stt K cl H0 H m s) (h : RunE K cl (rrW K cl) Wx H0 H m σ Q ((f ws s).bind kProm)) : RunE K cl (rrV K cl) (wxE (WE Wx σ)) H0 H m [] Q (f ws s) := by
  cases e : f ws s with
  | no => rw [e] at h; exact h
  | exc c x s' => rw [e] at h; exact h
  | ok rv s' =>
    rw [e] at h
    intro v H0' H' m' g st' r
    cases rv with
    | w x => exact h v H0' H' m' g st' r
    | own l =>
      have h : RunE K cl (rrW K cl) Wx H0 H m σ Q (.ok (.r s'.length) (s' ++ [.lst l])) := h
      obtain ⟨p, vs, h1, h2, h3, h4, h5, h6⟩ := r
      have h2 : H p = none := by rcases h2 with z | z <;> first | (cases z; done) | exact z
      refine h v H0' H' (m' ++ [p]) ⟨g.s0, g.pre.trans (List.prefix_append _ _), g.fr, g.dom, g.n0, fun a ha => ?_, g.nw⟩ (st'.push h4 h5 ⟨vs, h3, h6⟩) ⟨p, ?_, h1⟩
      · rcases List.mem_append.mp ha with ha | ha
        · exact g.nm a ha
        · rw [List.mem_singleton] at ha; subst ha; exact .inr (.inr h2)
      · rw [← st'.len, List.getElem?_append_right (Nat.le_refl _)]
        simp
    | ownD l =>
      have h : RunE K cl (rrW K cl) Wx H0 H m σ Q (.ok (.r s'.length) (s' ++ [.dic l])) := h
      obtain ⟨p, vs, h1, h2, h3, h4, h5, h6⟩ := r
      have h2 : H p = none := by rcases h2 with z | z <;> first | (cases z; done) | exact z
      refine h v H0' H' (m' ++ [p]) ⟨g.s0, g.pre.trans (List.prefix_append _ _), g.fr, g.dom, g.n0, fun a ha => ?_, g.nw⟩ (st'.push h4 h5 ⟨vs, h3, h6⟩) ⟨p, ?_, h1⟩
      · rcases List.mem_append.mp ha with ha | ha
        · exact g.nm a ha
        · rw [List.mem_singleton] at ha; subst ha; exact .inr (.inr h2)
      · rw [← st'.len, List.getElem?_append_right (Nat.le_refl _)]
        simp
theorem je_callC (ok : XOk X Wx) (hr : Room k X.A) (F : FnAt X.prog X.w X.K X.mg X.base cl k x ps f) (ha : JA cl Wx X (e :: es) el) (hg : Gl X x := by rfl)
    (h1 : (x == Str.ofString "__debug__") = false := by decide) (h2 : starEach (e :: es) X.env = (false, eval e X.env) :: starEach es X.env := by rfl) (h3 : ((backTo pos (starEach es X.env)).any fun x => x.fst) = false := by rfl) :
    JE cl Wx X (.Call (.Name x p) (e :: es) [] pos) (eCallC f el) := by
  obtain ⟨a, fd, q1, q2, q3, q4⟩ := F.ex
  refine PE.weaken (pe_callS q4 hr hg q1 q2 q3 (fun σ => passAt ok.tk σ) ha h1 h2 h3) fun σ H Q ⟨H0, m, ow, s, ρ, cx, h⟩ => ⟨H0, m, ow, s, ρ, cx, ?_⟩
  have h : RunE X.K cl (rrW X.K cl) Wx H0 H m σ Q ((el ρ s).bind (kCallC f)) := h
  revert h
  generalize el ρ s = r
  intro h
  cases r with
  | no => exact h
  | exc c x s' => exact h
  | ok ws s1 =>
    have h : RunE X.K cl (rrW X.K cl) Wx H0 H m σ Q ((f ws s1).bind kProm) := h
    intro vs H1 H1' m1 g st rr
    exact call_run st rr (call_prom st (h.shift g))
theorem call_ret {K : PySem.W.Frag} {H0 H : Hp} {m ow : List Addr} {s : S} {σ : L2.St} {ρ : Rho} {E : Ends} {ws : List W} (cx : Ctx K cl H0 H m ow s σ ρ) (h : RunS K cl Wx H0 H m ow E (kRetC f ws ρ s)) : RunE K cl (rrV K cl) (wxE (WE Wx σ)) H0 H m [] E.rt (f ws s) := by
  unfold kRetC at h
  cases e : f ws s with
  | no => rw [e] at h; exact h.elim
  | exc c x s' =>
    rw [e] at h
    exact fun cv dd H0' H' m' g st' ex => h cv dd σ H0' H' m' ow g.lift (cx.go g st') ex
  | ok rv s' =>
    rw [e] at h
    intro v H0' H' m' g st' r
    refine h v H0' H' m' ow g.lift st' ?_
    cases rv with
    | w x => exact r
    | own l =>
      obtain ⟨p, vs, h1, h2, h3⟩ := r
      have h2 : H p = none := by rcases h2 with z | z <;> first | (cases z; done) | exact z
      exact ⟨p, vs, h1, .inr h2, h3⟩
    | ownD l =>
      obtain ⟨p, vs, h1, h2, h3⟩ := r
      have h2 : H p = none := by rcases h2 with z | z <;> first | (cases z; done) | exact z
      exact ⟨p, vs, h1, .inr h2, h3⟩
theorem js_retC (ok : XOk X Wx) (hr : Room k X.A) (F : FnAt X.prog X.w X.K X.mg X.base cl k x ps f) (ha : JA cl Wx X (e :: es) el) {pos' : Pos} (hg : Gl X x := by rfl)
    (h1 : (x == Str.ofString "__debug__") = false := by decide) (h2 : starEach (e :: es) X.env = (false, eval e X.env) :: starEach es X.env := by rfl) (h3 : ((backTo pos (starEach es X.env)).any fun x => x.fst) = false := by rfl) :
    JS cl Wx X (.Return (some (.Call (.Name x p) (e :: es) [] pos)) pos') (sRetC f el) := by
  obtain ⟨a, fd, q1, q2, q3, q4⟩ := F.ex
  refine PS.weaken (ps_ret (pe_callS q4 hr hg q1 q2 q3 (fun σ => passAt ok.tk σ) ha h1 h2 h3)) fun E σ H ⟨H0, m, ow, s, ρ, cx, h⟩ => ⟨H0, m, ow, s, ρ, cx, RunS.ofE cx h fun ws s1 vs H1 H1' m1 g c rr h2 => ?_⟩
  exact call_run c.st rr (call_ret c h2)
end
end TG

set_option Elab.async false
set_option linter.all false
set_option maxRecDepth 100000
set_option maxHeartbeats 4000000
/-! zip(a, b, strict=True) of two tuples of one length -/
namespace PySem
open Sem (wp)
abbrev IsZipS (h : Heap) (z TI TO : Addr) (f0 : Value) : Prop :=
  h.get? z = some { cls := .type "zip", dict := none, data := .fields #[f0, .bool false, .bool true, .ref TI, .ref TO], slots := #[] }
section
variable {prog : Program} {w : World} {A : Around} {E : Value → Shared → Prop} {s : Shared}
theorem noe_item {it l : Addr} {i : Nat} {items} {x : Value} {Q : Option Value → Shared → Prop} (hit : s.heap.IsTupleIter it l i) (hl : s.heap.IsTuple l items) (hx : items[i]? = some x)
    (hQ : ∀ h', h'.IsTupleIter it l (i + 1) → Heap.SameBut it s.heap h' → Q (some x) { s with heap := h' }) : wpAny (model prog w) A (Builtin.SmallTypes.nextOrEnd (.ref it)) Q E s := by
  unfold Builtin.SmallTypes.nextOrEnd
  exact wpAny_bind (wpAny_attempt (RZ.nextOf_tuple_item hit hl hx fun h' a b => wpAny_pure (hQ h' a b)))
theorem noe_end {it l : Addr} {i : Nat} {items} {Q : Option Value → Shared → Prop} (hh : A.handled = none) (hit : s.heap.IsTupleIter it l i) (hl : s.heap.IsTuple l items) (hx : items[i]? = none)
    (hQ : ∀ h', Heap.ExtBut it s.heap h' → Q none { s with heap := h' }) : wpAny (model prog w) A (Builtin.SmallTypes.nextOrEnd (.ref it)) Q E s := by
  unfold Builtin.SmallTypes.nextOrEnd
  refine wpAny_bind (wpAny_attempt (RZ.nextOf_tuple_end hh hit hl hx fun h' e hk he => ?_))
  obtain ⟨o, ho, hc⟩ := he
  refine wpAny_bind (wpAny_isInstance (T := "StopIteration") (b := true) ⟨o, ho, hc⟩ isSubtype_stop ?_)
  exact wpAny_pure (hQ h' hk)
theorem stop_now {α : Type} {Q : α → Shared → Prop} (hh : A.in1.handled = none) (hE : ∀ h' e, (∀ c o, s.heap.get? c = some o → h'.get? c = some o) → (∃ o, h'.get? e = some o ∧ o.cls = .type "StopIteration") → E (.ref e) { s with heap := h' }) :
    wpAny (model prog w) A (Builtin.SmallTypes.stopIteration : Sem α) Q E s := by
  unfold Builtin.SmallTypes.stopIteration
  refine wpAny_bind ?_
  simp only [newExc, newTuple]
  refine wpAny_bind (wpAny_newObj_type ?_ (by size_fits))
  refine wpAny_bind (m := firstArgMember _ _) (wpAny_of_eq (a := Value.none) (by first | rfl | (simp only [firstArgMember]; rfl)) ?_)
  refine wpAny_newObj_type ?_ (by size_fits)
  simp only [raiseNew]
  refine wpAny_bind (wpAny_handled ?_)
  rw [show A.handled = none from hh]
  refine wpAny_bind (wpAny_pure (wpAny_throw ?_))
  exact hE _ _ (fun c o e => Heap.get?_push_of_some _ (Heap.get?_push_of_some _ e)) ⟨_, Heap.get?_push_size _ rfl, rfl⟩
theorem zipS_item {z TI TO i1 i2 l1 l2 : Addr} {k1 k2 : Nat} {xs ys : Array Value} {x y a b : Value} {Q : Value → Shared → Prop} (D : ZipApart z TI TO i1 i2 l1 l2)
    (hz : IsZipS s.heap z TI TO .none) (hTI : IsPair s.heap TI (.ref i1) (.ref i2)) (hTO : IsPair s.heap TO a b) (h1 : s.heap.IsTupleIter i1 l1 k1) (h2 : s.heap.IsTupleIter i2 l2 k2) (hl1 : s.heap.IsTuple l1 xs) (hl2 : s.heap.IsTuple l2 ys) (hx : xs[k1]? = some x) (hy : ys[k2]? = some y)
    (hQ : ∀ h', IsZipS h' z TI TO (rawInt s.heap.objs.size) → IsPair h' TO x y → h'.IsTupleIter i1 l1 (k1 + 1) → h'.IsTupleIter i2 l2 (k2 + 1) → IsPair h' s.heap.objs.size x y → h'.objs.size = s.heap.objs.size + 1 →
      (∀ c o, c ≠ z → c ≠ TO → c ≠ i1 → c ≠ i2 → s.heap.get? c = some o → h'.get? c = some o) → Q (.ref s.heap.objs.size) { s with heap := h' }) :
    wpAny (model prog w) A (Builtin.«zip.__next__» ⟨[.ref z], []⟩) (fun fin s' => ∃ v, fin = .done (.ret v) ∧ Q v s') E s := by
  show wpAny _ _ (field (.ref z) 2 >>= _) _ _ _
  refine wpAny_bind (wpAny_field hz rfl (x := .bool true) rfl ?_)
  show wpAny _ _ (field (.ref z) 3 >>= _) _ _ _
  refine wpAny_bind (wpAny_field hz rfl (x := .ref TI) rfl (wpAny_bind (wpAny_seqItems hTI rfl ?_)))
  show wpAny _ _ (Builtin.SmallTypes.ownedTupleIsFree (.ref z) >>= _) _ _ _
  refine wpAny_bind ?_
  unfold Builtin.SmallTypes.ownedTupleIsFree
  refine wpAny_bind (wpAny_field hz rfl (x := .none) rfl (wpAny_pure ?_))
  simp only [if_true]
  refine wpAny_bind (wpAny_rule (wpAny_bind (wpAny_field hz rfl (x := .ref TO) rfl (wpAny_bind (wpAny_setField_rec hz (by simp) fun h₁ hz₁ hs₁ => ?_)))))
  replace hz₁ : IsZipS h₁ z TI TO .ellipsis := hz₁
  refine wpAny_bind ?_
  simp only [List.zipIdx_cons, List.zipIdx_nil, List.forIn_cons, List.forIn_nil]
  refine wpAny_bind (wpAny_bind (wpAny_onRaise ?_))
  show wpAny _ _ (Builtin.SmallTypes.nextOrEnd (.ref i1)) _ _ _
  refine noe_item (h1.extBut hs₁.extBut D.i1z) (hl1.extBut hs₁.extBut D.l1z) hx fun h₂ h1₂ hs₂ => ?_
  have hTO₂ : IsPair h₂ TO a b := hs₂.extBut _ _ D.TOi1 (hs₁.extBut _ _ D.TOz hTO)
  refine wpAny_bind (wpAny_seqItems hTO₂ rfl (wpAny_bind (wpAny_updateSeq_pair hTO₂ fun h₃ hTO₃ hs₃ => ?_)))
  replace hTO₃ : IsPair h₃ TO x b := hTO₃
  refine wpAny_bind (wpAny_letGo (wpAny_pure ?_))
  refine wpAny_bind (wpAny_bind (wpAny_onRaise ?_))
  show wpAny _ _ (Builtin.SmallTypes.nextOrEnd (.ref i2)) _ _ _
  refine noe_item (((h2.extBut hs₁.extBut D.i2z).extBut hs₂.extBut D.i12.symm).extBut hs₃.extBut D.TOi2.symm) (((hl2.extBut hs₁.extBut D.l2z).extBut hs₂.extBut D.l2i1).extBut hs₃.extBut D.l2TO) hy fun h₄ h2₄ hs₄ => ?_
  have hTO₄ : IsPair h₄ TO x b := hs₄.extBut _ _ D.TOi2 hTO₃
  refine wpAny_bind (wpAny_seqItems hTO₄ rfl (wpAny_bind (wpAny_updateSeq_pair hTO₄ fun h₅ hTO₅ hs₅ => ?_)))
  replace hTO₅ : IsPair h₅ TO x y := hTO₅
  refine wpAny_bind (wpAny_letGo (wpAny_pure (wpAny_pure ?_)))
  refine wpAny_bind (wpAny_seqItems hTO₅ rfl (wpAny_bind (wpAny_newTuple ?_)))
  have hsz : h₅.objs.size = s.heap.objs.size := by rw [hs₅.1, hs₄.1, hs₃.1, hs₂.1, hs₁.1]
  have hz₅ : IsZipS h₅ z TI TO .ellipsis := hs₅.extBut _ _ D.TOz.symm (hs₄.extBut _ _ D.i2z.symm (hs₃.extBut _ _ D.TOz.symm (hs₂.extBut _ _ D.i1z.symm hz₁)))
  have hk₅ : ∀ c o, c ≠ z → c ≠ TO → c ≠ i1 → c ≠ i2 → s.heap.get? c = some o → h₅.get? c = some o := fun c o c1 c2 c3 c4 e =>
    hs₅.extBut _ _ c2 (hs₄.extBut _ _ c4 (hs₃.extBut _ _ c2 (hs₂.extBut _ _ c3 (hs₁.extBut _ _ c1 e))))
  have h1₅ : h₅.IsTupleIter i1 l1 (k1 + 1) := ((h1₂.extBut hs₃.extBut D.TOi1.symm).extBut hs₄.extBut D.i12).extBut hs₅.extBut D.TOi1.symm
  have h2₅ : h₅.IsTupleIter i2 l2 (k2 + 1) := h2₄.extBut hs₅.extBut D.TOi2.symm
  have hzlt : z < h₅.objs.size := Heap.lt_size hz₅
  show wpAny _ _ (Builtin.SmallTypes.ownedTupleHandOut (.ref z) (.ref h₅.objs.size) >>= _) _ _ _
  refine wpAny_bind ?_
  unfold Builtin.SmallTypes.ownedTupleHandOut
  have hz₆ : IsZipS (h₅.push { cls := .type "tuple", data := .seq #[x, y] }) z TI TO .ellipsis := Heap.get?_push_of_some _ hz₅
  refine wpAny_bind (wpAny_setField_rec hz₆ (by simp) fun h₇ hz₇ hs₇ => ?_)
  replace hz₇ : IsZipS h₇ z TI TO (rawInt h₅.objs.size) := hz₇
  refine wpAny_setField_rec hz₇ (by simp) fun h₈ hz₈ hs₈ => ?_
  replace hz₈ : IsZipS h₈ z TI TO (rawInt h₅.objs.size) := hz₈
  have up : ∀ c o, c ≠ z → h₅.get? c = some o → h₈.get? c = some o := fun c o c1 e => hs₈.extBut _ _ c1 (hs₇.extBut _ _ c1 (Heap.get?_push_of_some _ e))
  have hT₈ : IsPair h₈ h₅.objs.size x y := hs₈.extBut _ _ (Nat.ne_of_gt hzlt) (hs₇.extBut _ _ (Nat.ne_of_gt hzlt) (Heap.get?_push_size _ rfl))
  have hz8 : h₈.objs.size = h₅.objs.size + 1 := by rw [hs₈.1, hs₇.1, Heap.size_push]
  rw [hsz] at hz₈ hT₈ hz8
  refine wpAny_pure ⟨_, rfl, ?_⟩
  show Q (.ref h₅.objs.size) _
  rw [hsz]
  exact hQ h₈ hz₈ (up _ _ D.TOz hTO₅) (h1₅.at fun o e => up _ o D.i1z e) (h2₅.at fun o e => up _ o D.i2z e) hT₈ hz8 fun c o c1 c2 c3 c4 e => up c o c1 (hk₅ c o c1 c2 c3 c4 e)
theorem zipS_end {z TI TO i1 i2 l1 l2 : Addr} {k1 k2 : Nat} {xs ys : Array Value} {a b : Value} {Q : Fin → Shared → Prop} (hh : A.handled = none) (D : ZipApart z TI TO i1 i2 l1 l2)
    (hz : IsZipS s.heap z TI TO .none) (hTI : IsPair s.heap TI (.ref i1) (.ref i2)) (h1 : s.heap.IsTupleIter i1 l1 k1) (h2 : s.heap.IsTupleIter i2 l2 k2) (hl1 : s.heap.IsTuple l1 xs) (hl2 : s.heap.IsTuple l2 ys) (e1 : xs[k1]? = none) (e2 : ys[k2]? = none)
    (hTO : IsPair s.heap TO a b)
    (hE : ∀ h' e, (∀ c o, c ≠ z → c ≠ TO → c ≠ i1 → c ≠ i2 → s.heap.get? c = some o → h'.get? c = some o) → (∃ o, h'.get? e = some o ∧ o.cls = .type "StopIteration") → E (.ref e) { s with heap := h' }) :
    wpAny (model prog w) A (Builtin.«zip.__next__» ⟨[.ref z], []⟩) Q E s := by
  show wpAny _ _ (field (.ref z) 2 >>= _) _ _ _
  refine wpAny_bind (wpAny_field hz rfl (x := .bool true) rfl ?_)
  show wpAny _ _ (field (.ref z) 3 >>= _) _ _ _
  refine wpAny_bind (wpAny_field hz rfl (x := .ref TI) rfl (wpAny_bind (wpAny_seqItems hTI rfl ?_)))
  show wpAny _ _ (Builtin.SmallTypes.ownedTupleIsFree (.ref z) >>= _) _ _ _
  refine wpAny_bind ?_
  unfold Builtin.SmallTypes.ownedTupleIsFree
  refine wpAny_bind (wpAny_field hz rfl (x := .none) rfl (wpAny_pure ?_))
  simp only [if_true]
  refine wpAny_bind (wpAny_rule (wpAny_bind (wpAny_field hz rfl (x := .ref TO) rfl (wpAny_bind (wpAny_setField_rec hz (by simp) fun h₁ hz₁ hs₁ => ?_)))))
  replace hz₁ : IsZipS h₁ z TI TO .ellipsis := hz₁
  refine wpAny_bind ?_
  simp only [List.zipIdx_cons, List.zipIdx_nil, List.forIn_cons, List.forIn_nil]
  refine wpAny_bind (wpAny_bind (wpAny_onRaise ?_))
  show wpAny _ _ (Builtin.SmallTypes.nextOrEnd (.ref i1)) _ _ _
  refine noe_end hh (h1.extBut hs₁.extBut D.i1z) (hl1.extBut hs₁.extBut D.l1z) e1 fun h₂ hs₂ => ?_
  have hz₂ : IsZipS h₂ z TI TO .ellipsis := hs₂ _ _ D.i1z.symm hz₁
  refine wpAny_bind (wpAny_setField_rec hz₂ (by simp) fun h₃ hz₃ hs₃ => ?_)
  have it2 : h₃.IsTupleIter i2 l2 k2 := ((h2.extBut hs₁.extBut D.i2z).extBut hs₂ D.i12.symm).extBut hs₃.extBut D.i2z
  have ht2 : h₃.IsTuple l2 ys := ((hl2.extBut hs₁.extBut D.l2z).extBut hs₂ D.l2i1).extBut hs₃.extBut D.l2z
  have kk : ∀ c o, c ≠ z → c ≠ i1 → s.heap.get? c = some o → h₃.get? c = some o := fun c o c1 c3 e => hs₃.extBut _ _ c1 (hs₂ _ _ c3 (hs₁.extBut _ _ c1 e))
  refine wpAny_bind ?_
  show wpAny _ _ (forIn [((Value.ref i2, 1) : Value × Nat)] PUnit.unit _ >>= _) _ _ _
  simp only [List.forIn_cons, List.forIn_nil]
  refine wpAny_bind (wpAny_bind ?_)
  show wpAny _ _ (Builtin.SmallTypes.nextOrEnd (.ref i2) >>= _) _ _ _
  refine wpAny_bind (noe_end hh it2 ht2 e2 fun h₄ hs₄ => ?_)
  rw [if_neg (by simp)]
  refine wpAny_pure (wpAny_pure ?_)
  refine wpAny_bind (wpAny_rule (stop_now hh fun h₅ e hk he => ?_))
  exact hE h₅ e (fun c o c1 c2 c3 c4 q => hk _ _ (hs₄ _ _ c4 (kk c o c1 c3 q))) he
theorem pyNext_zipS_item {z TI TO i1 i2 l1 l2 : Addr} {k1 k2 : Nat} {xs ys : Array Value} {x y a b : Value} {Q : Option Value → Shared → Prop} (D : ZipApart z TI TO i1 i2 l1 l2)
    (hz : IsZipS s.heap z TI TO .none) (hTI : IsPair s.heap TI (.ref i1) (.ref i2)) (hTO : IsPair s.heap TO a b) (h1 : s.heap.IsTupleIter i1 l1 k1) (h2 : s.heap.IsTupleIter i2 l2 k2) (hl1 : s.heap.IsTuple l1 xs) (hl2 : s.heap.IsTuple l2 ys) (hx : xs[k1]? = some x) (hy : ys[k2]? = some y)
    (hQ : ∀ h', IsZipS h' z TI TO (rawInt s.heap.objs.size) → IsPair h' TO x y → h'.IsTupleIter i1 l1 (k1 + 1) → h'.IsTupleIter i2 l2 (k2 + 1) → IsPair h' s.heap.objs.size x y → h'.objs.size = s.heap.objs.size + 1 →
      (∀ c o, c ≠ z → c ≠ TO → c ≠ i1 → c ≠ i2 → s.heap.get? c = some o → h'.get? c = some o) → Q (some (.ref s.heap.objs.size)) { s with heap := h' }) : wpAny (model prog w) A (pyNext (.ref z)) Q E s := by
  have hT : s.TypeIs (.ref z) "zip" := ⟨_, hz, rfl⟩
  unfold pyNext
  exact wpAny_bind (wpAny_attempt (wpAny_callSpecial?_slot (name := Str.ofString "__next__") hT F.slot_zip_next (wpAny_call_entry F.slot_zip_next hT F.entry_zip_next
    (zipS_item D hz hTI hTO h1 h2 hl1 hl2 hx hy fun h' a1 a2 a3 a4 a5 a6 a7 => wpAny_pure (hQ h' a1 a2 a3 a4 a5 a6 a7)) (F.args_zip_next_1 _))))
theorem pyNext_zipS_end {z TI TO i1 i2 l1 l2 : Addr} {k1 k2 : Nat} {xs ys : Array Value} {a b : Value} {Q : Option Value → Shared → Prop} (hh : A.handled = none) (D : ZipApart z TI TO i1 i2 l1 l2)
    (hz : IsZipS s.heap z TI TO .none) (hTI : IsPair s.heap TI (.ref i1) (.ref i2)) (hTO : IsPair s.heap TO a b) (h1 : s.heap.IsTupleIter i1 l1 k1) (h2 : s.heap.IsTupleIter i2 l2 k2) (hl1 : s.heap.IsTuple l1 xs) (hl2 : s.heap.IsTuple l2 ys) (e1 : xs[k1]? = none) (e2 : ys[k2]? = none)
    (hQ : ∀ h', (∀ c o, c ≠ z → c ≠ TO → c ≠ i1 → c ≠ i2 → s.heap.get? c = some o → h'.get? c = some o) → Q none { s with heap := h' }) : wpAny (model prog w) A (pyNext (.ref z)) Q E s := by
  have hT : s.TypeIs (.ref z) "zip" := ⟨_, hz, rfl⟩
  unfold pyNext
  refine wpAny_bind (wpAny_attempt (wpAny_callSpecial?_slot (name := Str.ofString "__next__") hT F.slot_zip_next
    (wpAny_call_entry F.slot_zip_next hT F.entry_zip_next (zipS_end hh D hz hTI h1 h2 hl1 hl2 e1 e2 hTO fun h' e hk he => ?_) (F.args_zip_next_1 _))))
  obtain ⟨o, ho, hc⟩ := he
  exact wpAny_bind (wpAny_isInstance (T := "StopIteration") (b := true) ⟨o, ho, hc⟩ isSubtype_stop (wpAny_pure (hQ _ hk)))
theorem iter_zipS {z TI TO : Addr} {v : Value} {Q : Value → Shared → Prop} (hz : IsZipS s.heap z TI TO v) (h : Q (.ref z) s) : wpAny (model prog w) A (pyIter (.ref z)) Q E s := by
  have hT : s.TypeIs (.ref z) "zip" := ⟨_, hz, rfl⟩
  refine wpAny_pyIter_slot hT F.slot_zip_iter (wpAny_call_entry F.slot_zip_iter hT F.entry_zip_iter ?_ (F.args_zip_iter_1 _))
  show wpAny _ _ (ret (.ref z)) _ _ s
  exact wpAny_pure ⟨_, rfl, "zip", _, hT, F.slot_zip_next.lookup, h⟩
theorem owned_zipS {elts : List Expr} {x1} {pos : Pos} {z TI TO T : Addr} {Q : Unit → Shared → Prop} (hz : IsZipS s.heap z TI TO (rawInt T))
    (hQ : ∀ h', IsZipS h' z TI TO .none → Heap.SameBut z s.heap h' → Q () { s with heap := h' }) : wpAny (model prog w) A (letOwnedTupleGo (.Tuple elts x1 pos) (.ref z) (.ref T)) Q E s := by
  unfold letOwnedTupleGo
  refine wpAny_bind (wpAny_load hz ?_)
  show wpAny _ _ (if (_ && (#[rawInt T, .bool false, .bool true, .ref TI, .ref TO] : Array Value)[0]? == some (rawInt T)) = true then _ else _) Q E s
  rw [if_pos (by simp)]
  refine wpAny_bind (wpAny_rule ?_)
  show wpAny _ _ (setField (.ref z) 0 .none) Q E s
  exact wpAny_setField_rec hz (by simp) fun h' hz' hs' => hQ h' hz' hs'
end
namespace F
theorem typeCall_zip_strict (a b v : Value) : checkTypeCall "zip" ⟨[a, b], [(Str.ofString "strict", v)]⟩ = pure () := by kernel_rfl
theorem newCall_zip_strict (a b v : Value) : checkBuiltinCall "zip.__new__" ⟨[.type "zip", a, b], [(Str.ofString "strict", v)]⟩ = pure () := by kernel_rfl
theorem args_init_strict (obj a b v : Value) : argsOk "object.__init__" ⟨[obj, a, b], [(Str.ofString "strict", v)]⟩ := by unfold argsOk; kernel_rfl
end F
abbrev zpS1 (h : Heap) (l1 : Addr) : Heap := h.push { cls := .type "tuple_iterator", data := .fields #[.ref l1, .int 0 0] }
abbrev zpS2 (h : Heap) (l1 l2 : Addr) : Heap := (zpS1 h l1).push { cls := .type "tuple_iterator", data := .fields #[.ref l2, .int 0 0] }
abbrev zpS3 (h : Heap) (l1 l2 : Addr) : Heap := (zpS2 h l1 l2).push { cls := .type "tuple", data := .seq #[.ref h.objs.size, .ref (zpS1 h l1).objs.size] }
abbrev zpS4 (h : Heap) (l1 l2 : Addr) : Heap := (zpS3 h l1 l2).push { cls := .type "tuple", data := .seq #[.none, .none] }
abbrev zpS5 (h : Heap) (l1 l2 : Addr) : Heap := (zpS4 h l1 l2).push { cls := .type "zip", data := .fields #[.none, .bool false, .bool true, .ref (zpS2 h l1 l2).objs.size, .ref (zpS3 h l1 l2).objs.size] }
theorem meets_zipS_new (l1 l2 : Addr) (xs ys : Array Value) :
    Meets (Builtin.«zip.__new__» ⟨[.type "zip", .ref l1, .ref l2], [(Str.ofString "strict", .bool true)]⟩) (fun _ R s => s.heap.IsTuple l1 xs ∧ s.heap.IsTuple l2 ys ∧
      R (.ok (.ret (.ref (zpS4 s.heap l1 l2).objs.size))) { s with heap := zpS5 s.heap l1 l2 }) :=
  .of_wp fun prog w A R s h => by
    obtain ⟨hp, g, d, tk, os⟩ := s; obtain ⟨hl1, hl2, h⟩ := h
    have hsub := sub_zip
    have hL1 : Heap.IsTuple (Shared.heap ⟨hp, g, d, tk, os⟩) l1 xs := hl1
    have hL2 : Heap.IsTuple (Shared.heap ⟨hp.push { cls := .type "tuple_iterator", data := .fields #[.ref l1, .int 0 0] }, g, d, tk, os⟩) l2 ys := Heap.IsTuple.push hl2 _
    have e2 : (Str.ofString "strict" != ("strict" : Str)) = false := by decide +kernel
    wp_walk using wpAny_pyIter_tuple hL1, wpAny_pyIter_tuple hL2
    exact ⟨_, rfl, h⟩
section
variable {prog : Program} {w : World} {A : Around} {E : Value → Shared → Prop} {s : Shared}
theorem call_zipS {l1 l2 : Addr} {xs ys : Array Value} {Q : Value → Shared → Prop} (hl1 : s.heap.IsTuple l1 xs) (hl2 : s.heap.IsTuple l2 ys)
    (h : ∀ h', IsZipS h' (s.heap.objs.size + 4) (s.heap.objs.size + 2) (s.heap.objs.size + 3) .none → IsPair h' (s.heap.objs.size + 2) (.ref s.heap.objs.size) (.ref (s.heap.objs.size + 1)) →
      IsPair h' (s.heap.objs.size + 3) .none .none → h'.IsTupleIter s.heap.objs.size l1 0 → h'.IsTupleIter (s.heap.objs.size + 1) l2 0 → (∀ c o, s.heap.get? c = some o → h'.get? c = some o) → Q (.ref (s.heap.objs.size + 4)) { s with heap := h' }) :
    wpAny (model prog w) A (call (.type "zip") [.ref l1, .ref l2] [(Str.ofString "strict", .bool true)]) Q E s := by
  refine callType_newKw F.called_zip (by decide) (F.typeCall_zip_strict _ _ _) (F.newCall_zip_strict _ _ _) (fun obj => F.args_init_strict obj _ _ _) F.entry_zip_new (meets_zipS_new l1 l2 xs ys) ⟨hl1, hl2, ?_⟩
  have z1 : (zpS1 s.heap l1).objs.size = s.heap.objs.size + 1 := Heap.size_push ..
  have z2 : (zpS2 s.heap l1 l2).objs.size = s.heap.objs.size + 2 := by rw [Heap.size_push, z1]
  have z3 : (zpS3 s.heap l1 l2).objs.size = s.heap.objs.size + 3 := by rw [Heap.size_push, z2]
  have z4 : (zpS4 s.heap l1 l2).objs.size = s.heap.objs.size + 4 := by rw [Heap.size_push, z3]
  have g5 : (zpS5 s.heap l1 l2).get? (zpS4 s.heap l1 l2).objs.size = some _ := Heap.get?_push_size _ rfl
  have g4 : (zpS5 s.heap l1 l2).get? (zpS3 s.heap l1 l2).objs.size = some _ := Heap.get?_push_of_some _ (Heap.get?_push_size _ rfl)
  have g3 : (zpS5 s.heap l1 l2).get? (zpS2 s.heap l1 l2).objs.size = some _ := Heap.get?_push_of_some _ (Heap.get?_push_of_some _ (Heap.get?_push_size _ rfl))
  have g2 : (zpS5 s.heap l1 l2).get? (zpS1 s.heap l1).objs.size = some _ := Heap.get?_push_of_some _ (Heap.get?_push_of_some _ (Heap.get?_push_of_some _ (Heap.get?_push_size _ rfl)))
  have g1 : (zpS5 s.heap l1 l2).get? s.heap.objs.size = some _ := Heap.get?_push_of_some _ (Heap.get?_push_of_some _ (Heap.get?_push_of_some _ (Heap.get?_push_of_some _ (Heap.get?_push_size _ rfl))))
  show _ ∧ _
  rw [z2, z3, z4] at g5
  rw [z1, z2] at g3
  rw [z3] at g4
  rw [z1] at g2
  rw [z4]
  exact ⟨⟨_, g5, rfl⟩, h _ g5 g3 g4 ⟨_, g1, rfl, rfl⟩ ⟨_, g2, rfl, rfl⟩ fun c o e => Heap.get?_push_of_some _ (Heap.get?_push_of_some _ (Heap.get?_push_of_some _ (Heap.get?_push_of_some _ (Heap.get?_push_of_some _ e))))⟩
end
end PySem

namespace PyProof.Rows
open PySem
section
variable {M : Model} {A : Around} {E : Value → Shared → Prop} {s : Shared} {env : Env}
theorem tg_callWith_typeKw {pos : Pos} {T : String} {e : Expr} {rest : List Expr} {kws : List Keyword} {Q : Value → Shared → Prop}
    (h : wpAny M A (spliced (backTo pos (starEach (e :: rest) env))) (fun vs s₁ => wpAny M A (evalAll ((backToKw pos (keywordEach kws env)).map (·.2)))
      (fun kvs s₂ => wpAny M A (call (.type T) vs (((backToKw pos (keywordEach kws env)).filterMap (·.1)).zip kvs)) Q E s₂) E s₁) E s)
    (he : backTo pos (starEach (e :: rest) env) = (false, eval e env) :: backTo pos (starEach rest env) := by rfl) (hp : (backTo pos (starEach (e :: rest) env)).any (·.1) = false := by rfl)
    (hall : (backToKw pos (keywordEach kws env)).all (·.1.isSome) = true := by rfl) (hkw : (backToKw pos (keywordEach kws env)).any (·.1.isNone) = false := by rfl) :
    wpAny M A (callWith pos (.type T) [] (backTo pos (starEach (e :: rest) env)) (backToKw pos (keywordEach kws env))) Q E s := by
  have g : wpAny M A (evalArgs (.type T) true (backTo pos (starEach (e :: rest) env)) (backToKw pos (keywordEach kws env))) (fun a s₁ => wpAny M A (call (.type T) ([] ++ a.pos) a.kw) Q E s₁) E s := by
    rw [he] at h ⊢
    exact evalArgs_kwB hall h
  unfold callWith
  refine wpAny_bind (wpAny_holding (wpAny_mono g (fun a s₁ h₁ => wpAny_bind (wpAny_standAt ?_)) fun _ _ x => x))
  simp only [hp, hkw, Bool.or_false]
  exact wpAny_bind (wpAny_pure (wpAny_bind (wpAny_mono h₁ (fun r s₂ hr => wpAny_bind (wpAny_holding (wpAny_point (wpAny_pure hr)))) fun _ _ x => x)))
end
end PyProof.Rows
namespace TG
open PySem L2 PyProof.Rows
def ItzS (K : PySem.W.Frag) (a b : Addr) : It :=
  { go := fun i H => ∃ (xs ys : List V) (x y : V), SqT K H a xs ∧ SqT K H b ys ∧ xs[i]? = some x ∧ ys[i]? = some y
    yld := fun i H v H' => ∃ T x y, v = .ref T ∧ H T = none ∧ H' = upd H T (.tup [x, y]) ∧ (∀ xs, SqT K H a xs → xs[i]? = some x) ∧ ∀ ys, SqT K H b ys → ys[i]? = some y
    stop := fun i H => ∃ xs ys : List V, SqT K H a xs ∧ SqT K H b ys ∧ xs.length ≤ i ∧ ys.length ≤ i }
theorem turn_zipS {P : Program} {w : World} {K : PySem.W.Frag} {elts : List Expr} {kk : Nat} {tpos : Pos} {a b z TI TO i1 i2 : Addr} (D : ZipApart z TI TO i1 i2 a b) :
    Turn P w K (.Tuple elts kk tpos) (ItzS K a b) [z, TI, TO, i1, i2] z (fun i h => IsZipS h z TI TO .none ∧ IsPair h TI (.ref i1) (.ref i2) ∧ (∃ x y, IsPair h TO x y) ∧ h.IsTupleIter i1 a i ∧ h.IsTupleIter i2 b i) where
  mem := by simp
  obj := fun i h st c hc => by
    obtain ⟨hz, hTI, ⟨x, y, hTO⟩, ⟨o1, e1, _, d1⟩, ⟨o2, e2, _, d2⟩⟩ := st
    rcases (by simpa using hc : c = z ∨ c = TI ∨ c = TO ∨ c = i1 ∨ c = i2) with rfl | rfl | rfl | rfl | rfl
    · exact ⟨_, hz, fun v q => nomatch q⟩
    · exact ⟨_, hTI, fun v q => nomatch q⟩
    · exact ⟨_, hTO, fun v q => nomatch q⟩
    · exact ⟨o1, e1, fun v q => by rw [d1] at q; cases q⟩
    · exact ⟨o2, e2, fun v q => by rw [d2] at q; cases q⟩
  keep := fun i h h' st k => by
    obtain ⟨hz, hTI, ⟨x, y, hTO⟩, h1, h2⟩ := st
    exact ⟨k z (by simp) _ hz, k TI (by simp) _ hTI, ⟨x, y, k TO (by simp) _ hTO⟩, h1.at fun o q => k i1 (by simp) o q, h2.at fun o q => k i2 (by simp) o q⟩
  item := by
    intro X hP hw hK hc i pins s σ H E I hf st hg
    subst hP hw hK
    obtain ⟨hz, hTI, ⟨x0, y0, hTO⟩, h1, h2⟩ := st
    obtain ⟨xs, ys, x, y, hqx, hqy, hx, hy⟩ := hg
    obtain ⟨its, rv, p, _⟩ := I.tuple hqx
    obtain ⟨its2, rv2, p2, _⟩ := I.tuple hqy
    obtain ⟨u, hu, ru⟩ := rv.get hx
    obtain ⟨u2, hu2, ru2⟩ := rv2.get hy
    have hzl : z < s.heap.objs.size := Heap.lt_size hz
    refine pyNext_zipS_item D hz hTI hTO h1 h2 p p2 (x := u) (y := u2) (by simpa using hu) (by simpa using hu2) fun h' z' TO' h1' h2' hT hsz hk => ?_
    refine ⟨_, rfl, owned_zipS (s := { s with heap := h' }) z' fun h'' z'' sb => ?_⟩
    have hT2 : h''.get? s.heap.objs.size = some { cls := .type "tuple", data := .seq #[u, u2] } := (sb.2 _ (Nat.ne_of_gt hzl)).trans hT
    have new : ObjOk X.prog X.w (upd H s.heap.objs.size (.tup [x, y])) h'' s.heap.objs.size (.tup [x, y]) := ⟨by show 2 ≤ sizeLine; decide, [u, u2], .cons ru (.cons ru2 .nil), ⟨_, hT2, rfl, _, rfl⟩⟩
    have I1 : Inv X pins σ (upd H s.heap.objs.size (.tup [x, y])) { s with heap := h'' } :=
      I.turnedNew (t' := s.toks) (ch := [z, TI, TO, i1, i2]) (fun c o hb q => (sb.2 c (fun q' => hb (by simp [q']))).trans (hk c o (fun q' => hb (by simp [q'])) (fun q' => hb (by simp [q'])) (fun q' => hb (by simp [q'])) (fun q' => hb (by simp [q'])) q)) hf (Nat.le_refl _) new
    refine ⟨.ref s.heap.objs.size, _, I1, rfl, ⟨_, x, y, rfl, I.hok.fresh (Nat.le_refl _), rfl, fun l hl => by rw [I.tuple_inj hl hqx]; exact hx, fun l hl => by rw [I.tuple_inj hl hqy]; exact hy⟩, ⟨z'', ?_, ⟨u, u2, ?_⟩, ?_, ?_⟩, fun c hcm => ?_⟩
    · exact (sb.2 _ D.TIz).trans (hk _ _ D.TIz D.TITO D.TIi1 D.TIi2 hTI)
    · exact (sb.2 _ D.TOz).trans TO'
    · exact h1'.at fun o q => (sb.2 _ D.i1z).trans q
    · exact h2'.at fun o q => (sb.2 _ D.i2z).trans q
    · have hlt : c < s.heap.objs.size := by
        rcases (by simpa using hcm : c = z ∨ c = TI ∨ c = TO ∨ c = i1 ∨ c = i2) with q | q | q | q | q
        · rw [q]; exact hzl
        · rw [q]; exact Heap.lt_size hTI
        · rw [q]; exact Heap.lt_size hTO
        · rw [q]; obtain ⟨_, e1, _⟩ := h1; exact Heap.lt_size e1
        · rw [q]; obtain ⟨_, e2, _⟩ := h2; exact Heap.lt_size e2
      rw [upd_ne (Nat.ne_of_lt hlt)]
      exact (hf c hcm).1
  done := by
    intro X hP hw hK hc i pins s σ H E I hf st hg
    subst hP hw hK
    obtain ⟨hz, hTI, ⟨x0, y0, hTO⟩, h1, h2⟩ := st
    obtain ⟨xs, ys, hqx, hqy, q1, q2⟩ := hg
    obtain ⟨its, rv, p, _⟩ := I.tuple hqx
    obtain ⟨its2, rv2, p2, _⟩ := I.tuple hqy
    have l1 := rv.length
    have l2 := rv2.length
    exact pyNext_zipS_end (I.ok.hd hc) D hz hTI hTO h1 h2 p p2 (by simp; omega) (by simp; omega) fun h' hk => ⟨rfl, I.turnedL (t' := s.toks) (ch := [z, TI, TO, i1, i2]) (fun c o hb q =>
      hk c o (fun q' => hb (by simp [q'])) (fun q' => hb (by simp [q'])) (fun q' => hb (by simp [q'])) (fun q' => hb (by simp [q'])) q) hf⟩
  self := fun A i s Q E st h => iter_zipS st.1 h
def iZipSt (K : PySem.W.Frag) (ta : TA) : TI := fun σ H R => ta σ H fun vs H1 => ∃ a b xs ys, vs = [.ref a, .ref b] ∧ SqT K H1 a xs ∧ SqT K H1 b ys ∧ R (ItzS K a b) H1
theorem pi_zipS {X : Cx} {e e2 : Expr} {ta : TA} {p pos tpos kp cp : Pos} {elts : List Expr} {kk j : Nat} (hg : Gl X "zip") (hm : X.mg "zip" = none) (ha : PA X [e, e2] ta)
    (hs : backTo pos (starEach [e, e2] X.env) = (false, eval e X.env) :: backTo pos (starEach [e2] X.env) := by rfl) (hpl : (backTo pos (starEach [e, e2] X.env)).any (·.1) = false := by rfl) :
    PI X (.Tuple elts kk tpos) (.Call (.Name "zip" p) [e, e2] [⟨some "strict", .Constant (.bool true) j cp, kp⟩] pos) (iZipSt X.K ta) := by
  refine ⟨fun pins s σ H R I h => ?_⟩
  refine wpAny_Call_Name_kw (ld_blt I hg hm PyProof.Rows.boot_zip (PyProof.Rows.tg_callWith_typeKw (thn (ha.run pos pins s σ H _ I h) fun us s1 ⟨vs, H1, I1, r1, q1⟩ => ?_) hs hpl))
  have hk : PK X [⟨some "strict", .Constant (.bool true) j cp, kp⟩] (tCons (tC (.bl true)) tNil) := pk_cons pe_bl pk_nil
  refine thn (hk.run pos pins s1 σ H1 (fun zs H2 => zs = [V.bl true] ∧ H2 = H1) I1 ⟨rfl, rfl⟩) fun ws s2 ⟨zs, H2, I2, r2, q2⟩ => ?_
  obtain ⟨rfl, rfl⟩ := q2
  obtain ⟨a, b, xs, ys, ex, hqx, hqy, q⟩ := q1
  subst ex
  cases r2 with
  | cons rb rn =>
    cases rn
    cases rb
    cases r1 with
    | cons r rr =>
      cases rr with
      | cons r' rr =>
        cases rr
        cases r
        cases r'
        obtain ⟨its, rv, p1, _⟩ := I2.tuple hqx
        obtain ⟨its2, rv2, p2, _⟩ := I2.tuple hqy
        obtain ⟨o1, ho1, _⟩ := id p1
        obtain ⟨o2, ho2, _⟩ := id p2
        refine call_zipS (show s2.heap.IsTuple a its.toArray from p1) (show s2.heap.IsTuple b its2.toArray from p2) fun h' hz hTI hTO h1 h2 hk => iter_zipS hz ?_
        have I3 : Inv X pins σ H2 { s2 with heap := h' } := I2.kept (t' := s2.toks) hk
        refine ⟨s2.heap.objs.size + 4, [s2.heap.objs.size + 4, s2.heap.objs.size + 2, s2.heap.objs.size + 3, s2.heap.objs.size, s2.heap.objs.size + 1], _, _, H2, rfl, I3, turn_zipS (PySem.W.ktu_apart s2.heap.objs.size a b (Heap.lt_size ho1) (Heap.lt_size ho2)), ⟨hz, hTI, ⟨_, _, hTO⟩, h1, h2⟩, fun c hcm => ?_, q⟩
        have hle : s2.heap.objs.size ≤ c := by
          rcases (by simpa using hcm : c = s2.heap.objs.size + 4 ∨ c = s2.heap.objs.size + 2 ∨ c = s2.heap.objs.size + 3 ∨ c = s2.heap.objs.size ∨ c = s2.heap.objs.size + 1) with z | z | z | z | z
          · rw [z]; exact Nat.le_add_right _ _
          · rw [z]; exact Nat.le_add_right _ _
          · rw [z]; exact Nat.le_add_right _ _
          · rw [z]; exact Nat.le_refl _
          · rw [z]; exact Nat.le_add_right _ _
        exact I2.fpOk hle (I2.hok.fresh hle)
def zipD (l r : List D) : List W := (l.zip r).map fun p => W.d (.tup [p.1, p.2])
def kZipS : List W → S → Res (List W) := fun ws s => match ws with
  | [.d (.tup l), .d (.tup r)] => if l.length = r.length then .ok (zipD l r) s else .no
  | _ => .no
def eZipS (a : Cmp (List W)) : Cmp (List W) := fun ρ s => (a ρ s).bind kZipS
section
variable {X : Cx} {cl : Str → Option Addr} {Wx : WX} {e e2 : Expr} {elts : List Expr} {kk j : Nat} {tpos pos p kp cp : Pos} {el : Cmp (List W)}
theorem ji_zipS (hg : Gl X "zip") (hm : X.mg "zip" = none) (h : JA cl Wx X [e, e2] el) (hs : backTo pos (starEach [e, e2] X.env) = (false, eval e X.env) :: backTo pos (starEach [e2] X.env) := by rfl) (hpl : (backTo pos (starEach [e, e2] X.env)).any (·.1) = false := by rfl) :
    JI cl Wx X (.Tuple elts kk tpos) (.Call (.Name "zip" p) [e, e2] [⟨some "strict", .Constant (.bool true) j cp, kp⟩] pos) (eZipS el) :=
  PI.weaken (pi_zipS hg hm h hs hpl) fun σ H R ⟨H0, m, ow, s, ρ, cx, q⟩ => ⟨H0, m, ow, s, ρ, cx, RunE.bind q fun ws s1 vs H1 H1' m1 g st rr q1 => by
    have q1 : RunE X.K cl (rrI X.K cl) Wx H1 H1' m1 σ R (kZipS ws s1) := q1
    unfold kZipS at q1
    split at q1
    · rename_i l r _
      split at q1
      · rename_i hl
        cases rr with
        | cons r1 r2 =>
          cases r2 with
          | cons r2 r3 =>
            cases r3
            cases r1 with
            | tup a1 a2 =>
              cases r2 with
              | tup b1 b2 =>
                rename_i vs1 pa us pb
                refine ⟨_, _, _, _, rfl, sqT_of (st.sub _ _ a1), sqT_of (st.sub _ _ b1), q1 _ H1 H1' m1 Go.refl st ?_⟩
                have l1 := a2.length
                have l2 := b2.length
                have lz : (zipD l r).length = l.length := by simp [zipD, hl]
                refine ⟨fun i H2 H3 m2 s2 e' _ st' hi => ?_, fun i H2 H3 m2 s2 e' _ st' hi => ?_, fun i H2 H3 m2 s2 v H4 e' _ st' hi y => ?_⟩
                · exact ⟨_, _, sqT_of (st'.sub _ _ (e' _ _ a1)), sqT_of (st'.sub _ _ (e' _ _ b1)), by omega, by omega⟩
                · rw [lz] at hi
                  exact ⟨_, _, _, _, sqT_of (st'.sub _ _ (e' _ _ a1)), sqT_of (st'.sub _ _ (e' _ _ b1)), List.getElem?_eq_getElem (by omega), List.getElem?_eq_getElem (by omega)⟩
                · obtain ⟨T, x, z, rfl, hT, rfl, hx, hz⟩ := y
                  rw [lz] at hi
                  have hi2 : i < r.length := by omega
                  have hzp : (l.zip r)[i]? = some (l[i], r[i]) := by rw [List.getElem?_eq_getElem (by rw [List.length_zip]; omega), List.getElem_zip]
                  have hx := hx _ (sqT_of (st'.sub _ _ (e' _ _ a1)))
                  have hz := hz _ (sqT_of (st'.sub _ _ (e' _ _ b1)))
                  obtain ⟨u, e1, e2⟩ := ((a2.mono e').ws (m := m2)).get (i := i) (x := W.d l[i]) (by simp [wD, hi])
                  obtain ⟨u', e3, e4⟩ := ((b2.mono e').ws (m := m2)).get (i := i) (x := W.d r[i]) (by simp [wD, hi2])
                  rw [hx] at e1
                  rw [hz] at e3
                  cases e1
                  cases e3
                  refine ⟨upd H2 T (.tup [x, z]), Go.alloc st' hT, st'.alloc hT, W.d (.tup [l[i], r[i]]), by simp [zipD, hzp], Rep.tup upd_same (.cons (Rep.mono (same_upd (st'.h0 hT)) e2) (.cons (Rep.mono (same_upd (st'.h0 hT)) e4) .nil))⟩
      · exact q1.elim
    · exact q1.elim⟩
end
end TG

set_option Elab.async false
set_option linter.all false
set_option maxRecDepth 100000
set_option maxHeartbeats 4000000
/-! lists with instances in them, compared by !=: what is the same data is not unlike -/
namespace GQ
open PySem PySem.SeqAt
open AutoSeq1 (wpAny_loadPart')
open MeetsSeq MeetsSeq2 MeetsSeq3 SeqRoads2
section
variable {prog : Program} {w : World} {A : Around} {R : Result → Shared → Prop}
theorem tg_ne_loop (l b : Addr) (N : Nat) (I : Nat → Shared → Prop) (hl : ListI prog w A (fun e s' => R (.error e) s') l b N I) (fin : ∀ s, I N s → R (.ok (.ret (.bool false))) s) (k : Nat) :
    ∀ i : Nat, N - i = k → i ≤ N → ∀ s, I i s → wpAny (model prog w) A.in1 (Builtin.«list.__eq__.loop» ⟨[.ref l, .ref b, rawInt i, rawInt 3], []⟩) (FinOf prog w A R) (fun e s' => R (.error e) s') s := by
  induction k with
  | zero =>
    intro i hk hi s h
    obtain ⟨items, items2, n, n2, hl1, hb1, hs1, hs2, _⟩ := hl _ _ h
    have hi' : i = N := by omega
    have hR : R (.ok (.ret (.bool false))) s := fin s (hi' ▸ h)
    obtain ⟨hp, g, d, tk, os⟩ := s
    wp_walk using wpAny_loadPart' hl1, wpAny_loadPart' hb1
    have hi1 : items[((i : Nat) : Int).toNat]? = none := by simp; omega
    have hi2 : items2[((i : Nat) : Int).toNat]? = none := by simp; omega
    rw [hi1, hi2]
    wp_walk using wpAny_loadPart' hl1, wpAny_loadPart' hb1
    show R (.ok (.ret (.bool (items.size != items2.size)))) _
    rw [hs1, hs2]
    simpa using hR
  | succ k ih =>
    intro i hk hi s h
    obtain ⟨items, items2, n, n2, hl1, hb1, hs1, hs2, turn⟩ := hl _ _ h
    have hlt : i < items.size := by omega
    have hlt2 : i < items2.size := by omega
    have ht := turn hlt hlt2
    obtain ⟨hp, g, d, tk, os⟩ := s
    wp_walk using wpAny_loadPart' hl1, wpAny_loadPart' hb1
    have hi1 : items[((i : Nat) : Int).toNat]? = some items[i] := by simp [hlt]
    have hi2 : items2[((i : Nat) : Int).toNat]? = some items2[i] := by simp [hlt2]
    have hc : ((i : Int) + 1) = ((i + 1 : Nat) : Int) := by omega
    rw [hi1, hi2]
    refine wpAny_bind (wpAny_mono ht (fun r s2 h2 => ?_) fun _ _ x => x)
    obtain ⟨hr, h2⟩ := h2
    subst hr
    have hrec := ih (i + 1) (by omega) (by omega) s2 h2
    obtain ⟨hp2, g2, d2, tk2, os2⟩ := s2
    wp_walk
    rw [hc]
    exact ⟨plainId_quiet plain_eq_loop _, codeAny_builtin entry_eq_loop (by
      rw [Around.under_plainId plain_eq_loop _]
      exact hrec)⟩
theorem tg_list_ne (l b : Addr) (N : Nat) (I : Nat → Shared → Prop) (hl : ListI prog w A (fun e s' => R (.error e) s') l b N I) (fin : ∀ s, I N s → R (.ok (.ret (.bool false))) s) {s : Shared} (h : I 0 s) :
    wpAny (model prog w) A.in1 (Builtin.«list.__ne__» ⟨[.ref l, .ref b], []⟩) (FinOf prog w A R) (fun e s' => R (.error e) s') s := by
  obtain ⟨items, items2, n, n2, hl1, hb1, hs1, hs2, _⟩ := hl _ _ h
  have hrec := tg_ne_loop (A := A) (R := R) l b N I hl fin _ 0 rfl (Nat.zero_le _) s h
  obtain ⟨hp, g, d, tk, os⟩ := s
  have f3 := AutoSeq1.sub_list_list
  have hne : ¬ (items.size != items2.size) = true := by simp [hs1, hs2]
  wp_walk using wpAny_loadPart' hl1, wpAny_loadPart' hb1
  exact ⟨plainId_quiet plain_eq_loop _, codeAny_builtin entry_eq_loop (by
    rw [Around.under_plainId plain_eq_loop _]
    exact hrec)⟩
end
section
variable {prog : Program} {w : World} {A : Around} {E : Value → Shared → Prop} {s : Shared}
theorem tg_rc_list_ne {l b : Addr} {N : Nat} {Q : Value → Shared → Prop} (hu : A.units < cLine) (I : Nat → Shared → Prop) (hl : ListI prog w A E l b N I)
    (fin : ∀ s, I N s → Q (.bool false) s) (h : I 0 s) : wpAny (model prog w) A (richCompare .NotEq (.ref l) (.ref b)) Q E s := by
  obtain ⟨items, items2, n, n2, hl1, hb1, _, _, _⟩ := hl _ _ h
  refine wpAny_richCompare_same_room (op := .NotEq) ⟨_, hl1, rfl⟩ ⟨_, hb1, rfl⟩ F.slot_list_ne (call_here F.slot_list_ne ⟨_, hl1, rfl⟩ F.entry_list_ne (F.args_list_ne_2 _ _) ?_) hu
  exact tg_list_ne (R := wants (fun v s' => v ≠ .notImplemented ∧ Q v s') E) l b N I hl (fun s' q => ⟨(fun x => nomatch x), fin s' q⟩) h
end
end GQ
namespace TG
open PySem L2 PyProof.Rows
/-- data whose == is by their parts -/
def isFootD : D → Bool
  | .ins c [(f, .tup l), (g, .int _)] => decide (c = "Foot") && decide (f = "drops") && decide (g = "middle") && l.all fun x => match x with | .int _ => true | _ => false
  | _ => false
mutual
def D.eqk : D → Bool
  | .int _ => true | .non => true | .bl _ => true
  | .tup l => D.eqks l | .lst l => D.eqks l
  | .ins c l => isFootD (.ins c l)
  | _ => false
def D.eqks : List D → Bool
  | [] => true
  | x :: r => D.eqk x && D.eqks r
end
mutual
def D.lay : D → Nat
  | .tup l => D.lays l + 1 | .lst l => D.lays l + 1
  | _ => 0
def D.lays : List D → Nat
  | [] => 0
  | x :: r => max (D.lay x) (D.lays r)
end
theorem eqks_mem : ∀ {l : List D}, D.eqks l = true → ∀ d ∈ l, d.eqk = true
  | a :: r, h, d, hd => by
    rw [D.eqks, Bool.and_eq_true] at h
    rcases List.mem_cons.mp hd with e | e
    · exact e ▸ h.1
    · exact eqks_mem h.2 d e
theorem lays_mem : ∀ {l : List D} {d : D}, d ∈ l → d.lay ≤ D.lays l
  | a :: r, d, h => by
    rw [D.lays]
    rcases List.mem_cons.mp h with e | e
    · exact e ▸ Nat.le_max_left _ _
    · exact Nat.le_trans (lays_mem e) (Nat.le_max_right _ _)
/-- the same data twice -/
def Two (K : PySem.W.Frag) (cl : Str → Option Addr) (d : D) : Eqv := fun x y H => ∃ H0, Same H0 H ∧ Rep K cl H0 x d ∧ Rep K cl H0 y d
theorem Two.mon {K : PySem.W.Frag} {cl : Str → Option Addr} {d : D} : Mon (Two K cl d) := fun x y H H' e ⟨H0, s, a, b⟩ => ⟨H0, s.trans e, a, b⟩
def TwoOf (K : PySem.W.Frag) (cl : Str → Option Addr) (l : List D) : Eqv := fun x y H => ∃ d ∈ l, Two K cl d x y H
theorem TwoOf.mon {K : PySem.W.Frag} {cl : Str → Option Addr} {l : List D} : Mon (TwoOf K cl l) := fun x y H H' e ⟨d, hd, t⟩ => ⟨d, hd, Two.mon x y H H' e t⟩
theorem prs_two {K : PySem.W.Frag} {cl : Str → Option Addr} {H0 H : Hp} (s : Same H0 H) {vs us : List V} {l : List D} (a : Reps K cl H0 vs l) (b : Reps K cl H0 us l) : Prs (TwoOf K cl l) vs us H := by
  refine ⟨by rw [a.length, b.length], fun i x y h1 h2 => ?_⟩
  have hi : i < l.length := by rw [← a.length]; exact (List.getElem?_eq_some_iff.mp h1).1
  obtain ⟨u, e1, e2⟩ := (a.ws (m := [])).get (i := i) (x := W.d l[i]) (by simp [wD, hi])
  obtain ⟨u', e3, e4⟩ := (b.ws (m := [])).get (i := i) (x := W.d l[i]) (by simp [wD, hi])
  rw [h1] at e1
  rw [h2] at e3
  cases e1
  cases e3
  exact ⟨l[i], List.getElem_mem hi, H0, s, e2, e4⟩
/-- a class Foot with its == -/
structure EqFoot (P : Program) (w : World) (K : PySem.W.Frag) (mg : Str → Option Value) (base : Heap) (cl : Str → Option Addr) (k : Nat) (ps : List Str) (f : Sem1) : Prop where
  ex : ∃ (C a : Addr) (fd : FuncData), cl "Foot" = some C ∧ PySem.W.findIn K (.ref C) "__eq__" = some (some (.ref a)) ∧ PySem.W.isFn K (.ref a) = true ∧ Binds K fd ps [] ∧ FnOk P w K mg base (L2.CX P w) k a fd ps (spOf K cl f)
  self : ∀ d, isFootD d = true → f [.d d, .d d] [] = .ok (.w (.d (.bl true))) []
section
variable {X : Cx} {cl : Str → Option Addr} {k : Nat} {ps : List Str} {f : Sem1}
def RFoot (K : PySem.W.Frag) (cl : Str → Option Addr) : Addr → Addr → Hp → Prop := fun a b H => ∃ d, isFootD d = true ∧ Two K cl d (.ref a) (.ref b) H
theorem noPass : Passes (L2.CX X.prog X.w) X E0 := fun _ _ _ _ _ _ _ ⟨_, _, _, _, _, _, _, _, _, _, _, _, z⟩ => z.elim
theorem eqG_foot (F : EqFoot X.prog X.w X.K X.mg X.base cl k ps f) {d : D} (hd : isFootD d = true) : EqG X k (Two X.K cl d) := by
  obtain ⟨C, a, fd, h1, h2, h3, h4, h5⟩ := F.ex
  have G : FnOk X.prog X.w X.K X.mg X.base (L2.CX X.prog X.w) k a fd ps (spEq (RFoot X.K cl)) := h5.imp fun vs H Q E ⟨x, y, e, ⟨d, hf, H0, s, r1, r2⟩, q⟩ => by
    subst e
    refine ⟨H0, [], [], [.d d, .d d], ⟨s, rfl, List.nodup_nil, fun n a c h => by simp at h⟩, .cons r1 (.cons r2 .nil), ?_⟩
    rw [F.self d hf]
    intro v H0' H' m' g st rr
    have e : v = .bl true := by
      have rr : RepW X.K cl H0' m' v (.d (.bl true)) := rr
      cases rr
      rfl
    subst e
    exact q H' fun a o h => g.fr a o h (by simp) (by simp)
  refine (eqG_ins G h2 h3 h4 noPass).imp fun x y H ⟨H0, s, r1, r2⟩ => ?_
  cases d with
  | ins c l =>
    cases r1 with
    | ins a1 a2 a3 =>
      cases r2 with
      | ins b1 b2 b3 =>
        have hc : c = "Foot" := by
          unfold isFootD at hd
          split at hd
          · rename_i e
            injection e with e1 e2
            simp only [Bool.and_eq_true, decide_eq_true_eq] at hd
            rw [e1]
            exact hd.1.1.1
          · cases hd
        subst hc
        rw [h1] at a2 b2
        cases a2
        cases b2
        exact ⟨_, _, _, _, _, _, rfl, rfl, s _ _ a1, s _ _ b1, .ins "Foot" l, hd, H0, s, .ins a1 h1 a3, .ins b1 h1 b3⟩
  | _ => cases hd
theorem eqG_two (F : EqFoot X.prog X.w X.K X.mg X.base cl k ps f) : ∀ (n : Nat) (d : D), d.eqk = true → d.lay ≤ n → EqG X (k + n) (Two X.K cl d)
  | n, .int i, _, _ => (eqG_flat.mono (Nat.zero_le _)).imp fun x y H ⟨H0, s, r1, r2⟩ => by cases r1; cases r2; exact ⟨rfl, rfl, by simp [eqV]⟩
  | n, .non, _, _ => (eqG_flat.mono (Nat.zero_le _)).imp fun x y H ⟨H0, s, r1, r2⟩ => by cases r1; cases r2; exact ⟨rfl, rfl, by simp [eqV]⟩
  | n, .bl b, _, _ => (eqG_flat.mono (Nat.zero_le _)).imp fun x y H ⟨H0, s, r1, r2⟩ => by cases r1; cases r2; exact ⟨rfl, rfl, by simp [eqV]⟩
  | n, .str _, h, _ => by simp [D.eqk] at h
  | n, .dic _, h, _ => by simp [D.eqk] at h
  | n, .scr _, h, _ => by simp [D.eqk] at h
  | n, .ins c l, h, _ => (eqG_foot F (by rw [D.eqk] at h; exact h)).mono (Nat.le_add_right _ _)
  | 0, .tup l, _, h => by rw [D.lay] at h; omega
  | 0, .lst l, _, h => by rw [D.lay] at h; omega
  | n + 1, .tup l, h, hn => by
    have ih : EqG X (k + n) (TwoOf X.K cl l) := fun A pins s σ H x y u v sb I rx ry ⟨d, hd, t⟩ =>
      eqG_two F n d (eqks_mem (by rw [D.eqk] at h; exact h) d hd) (by have := lays_mem hd; rw [D.lay] at hn; omega) A pins s σ H x y u v sb I rx ry t
    refine (eqG_tup TwoOf.mon ih).imp fun x y H ⟨H0, s, r1, r2⟩ => ?_
    cases r1 with
    | tup a1 a2 =>
      cases r2 with
      | tup b1 b2 => exact ⟨_, _, _, _, rfl, rfl, sqT_of (s _ _ a1), sqT_of (s _ _ b1), prs_two s a2 b2⟩
  | n + 1, .lst l, h, hn => by
    have ih : EqG X (k + n) (TwoOf X.K cl l) := fun A pins s σ H x y u v sb I rx ry ⟨d, hd, t⟩ =>
      eqG_two F n d (eqks_mem (by rw [D.eqk] at h; exact h) d hd) (by have := lays_mem hd; rw [D.lay] at hn; omega) A pins s σ H x y u v sb I rx ry t
    refine (eqG_list TwoOf.mon ih).imp fun x y H ⟨H0, s, r1, r2⟩ => ?_
    cases r1 with
    | lst a1 a2 =>
      cases r2 with
      | lst b1 b2 => exact ⟨_, _, _, _, rfl, rfl, s _ _ a1, s _ _ b1, prs_two s a2 b2⟩
/-- != of two lists of the same data -/
def rNeF (K : PySem.W.Frag) (cl : Str → Option Addr) : R2 := fun x y H Q => (∃ l : List D, D.eqks l = true ∧ D.lays l ≤ 4 ∧ Two K cl (.lst l) x y H) ∧ ∀ H', Ext H H' → Q (.bl false) H'
theorem op_neF (F : EqFoot X.prog X.w X.K X.mg X.base cl k ps f) (hr : Room (k + 5) X.A) : OpR X (compareOp .NotEq) (rNeF X.K cl) := by
  intro pins s σ H x y v u Q I rx ry hq
  obtain ⟨⟨l, h1, h2, H0, sm, r1, r2⟩, q⟩ := hq
  show wpAny (model X.prog X.w) X.A (richCompare .NotEq v u) (EP X pins σ Q) X.xe s
  have ih : EqG X (k + 4) (TwoOf X.K cl l) := fun A pins s σ H x y u v sb I rx ry ⟨d, hd, t⟩ =>
    eqG_two F 4 d (eqks_mem h1 d hd) (Nat.le_trans (lays_mem hd) h2) A pins s σ H x y u v sb I rx ry t
  cases r1 with
  | lst a1 a2 =>
    cases r2 with
    | lst b1 b2 =>
      rename_i pa vs pb us
      cases rx
      cases ry
      have p := prs_two sm a2 b2
      have sb : Sub X (k + 4 + 1) X.A := ⟨hr, rfl⟩
      refine GQ.tg_rc_list_ne (N := vs.length) sb.room.units0 (fun _ s' => LoopI X pins σ H s') (fun i s' qq => ?_) (fun s' ⟨H', I', e⟩ => ⟨.bl false, H', I', rfl, q H' e⟩) ⟨H, I, Ext.rfl'⟩
      obtain ⟨H1, I1, e1⟩ := id qq
      obtain ⟨z, its, kk, r, e⟩ := I1.hok pa _ (e1 _ _ (sm _ _ a1))
      obtain ⟨z2, its2, k2, r2, e2⟩ := I1.hok pb _ (e1 _ _ (sm _ _ b1))
      refine ⟨its.toArray, its2.toArray, kk, k2, e, e2, by rw [List.size_toArray, ← r.length], by rw [List.size_toArray, ← r2.length, ← p.1], fun h1 h2 => ?_⟩
      exact turnG TwoOf.mon ih sb p r r2 i h1 h2 s' qq
open Classical in
noncomputable def fNeF : W → W → S → Res W := fun x y s => match x, y with
  | .d (.lst l), .d (.lst r) => if l = r ∧ D.eqks l = true ∧ D.lays l ≤ 4 then .ok (.d (.bl false)) s else .no
  | _, _ => .no
theorem ops_neF {K : PySem.W.Frag} : OpS K cl (rNeF K cl) fNeF := fun Wx σ H0 H m s x y wx wy Q st rx ry h => by
  unfold fNeF at h
  split at h
  · rename_i l r
    split at h
    · rename_i hh
      obtain ⟨rfl, h1, h2⟩ := hh
      refine ⟨⟨l, h1, h2, H0, st.sub, rx, ry⟩, fun H' e => ?_⟩
      exact h (.bl false) H0 H' m ⟨Same.refl _, List.prefix_rfl, fun a o h _ _ => e a o h, fun a h => by
        cases q : H a with
        | none => exact absurd q h
        | some o => rw [e a o q]; simp, fun _ _ _ _ h => h, fun _ h => .inl h, fun _ h => .inl h⟩ ⟨st.sub.trans e, st.len, st.nd, fun n a c q1 q2 => by
          obtain ⟨z1, z2⟩ := st.cell n a c q1 q2
          exact ⟨z1, z2.mono (Same.refl _) List.prefix_rfl fun o q => e a o q⟩⟩ .bl
    · exact h.elim
  · exact h.elim
end
/-! isinstance of an own class, where it is one -/
def fIsO (c : Str) : W → S → Res W := fun x s => match x with
  | .d (.ins c2 _) => if c2 = c then .ok (.d (.bl true)) s else .no
  | _ => .no
structure IsC (K : PySem.W.Frag) (mg : Str → Option Value) (cl : Str → Option Addr) (c : Str) : Prop where
  ex : ∃ C, cl c = some C ∧ mg c = some (.ref C) ∧ C8.InsC K C
section
variable {X : Cx} {cl : Str → Option Addr} {Wx : WX} {e : Expr} {pos p q : Pos} {ea : Cmp W} {x y : Str}
theorem je_isO (c : Str) (hg : Gl X x) (hm : X.mg x = none) (hv : bootBuiltins x = some (.builtin "isinstance")) (hg2 : Gl X c) (F : IsC X.K X.mg cl c) (ha : JE cl Wx X e ea)
    (n1 : x ≠ "__name__" := by decide) (n2 : (x == ("__debug__" : Str)) = false := by decide) (n4 : (c == ("__debug__" : Str)) = false := by decide)
    (hs : starEach [e, .Name c q] X.env = (false, eval e X.env) :: starEach [.Name c q] X.env := by rfl) (hs2 : starEach [.Name c q] X.env = (false, eval (.Name c q) X.env) :: starEach [] X.env := by rfl) (h4 : ((backTo pos (starEach [.Name c q] X.env)).any fun x => x.fst) = false := by rfl) :
    JE cl Wx X (.Call (.Name x p) [e, .Name c q] [] pos) (eUn (fIsO c) ea) := by
  obtain ⟨C, hC, hm2, hc⟩ := F.ex
  exact PE.weaken (pe_callB (C8.call_isC hc) hg hm hv (pa_cons ha (pa_cons (pe_glob hg2 hm2 (v := .ref C) rfl n4) pa_nil hs2) hs) n1 n2 hs h4) fun σ H Q ⟨H0, m, ow, s, ρ, cx, h⟩ => ⟨H0, m, ow, s, ρ, cx, RunE.bind h fun a s1 v H1 H1' m1 g st rr h2 => by
    cases a with
    | r n => exact h2.elim
    | d z =>
      cases z with
      | ins c2 l =>
        by_cases hcc : c2 = c
        · have h2 : RunE X.K cl (rrW X.K cl) Wx H1 H1' m1 σ Q (if c2 = c then .ok (.d (.bl true)) s1 else .no) := h2
          rw [if_pos hcc] at h2
          have h3 : RunE X.K cl (rrW X.K cl) Wx H1 H1' m1 σ Q (.ok (.d (.bl true)) s1) := h2
          clear h2
          subst hcc
          cases rr with
          | ins a1 a2 a3 =>
            rw [hC] at a2
            cases a2
            exact ⟨_, _, _, rfl, st.sub _ _ a1, RunE.done (RR := rrW X.K cl) h3 st (Rep.bl : Rep X.K cl H1 (.bl true) (.bl true))⟩
        · have h2 : RunE X.K cl (rrW X.K cl) Wx H1 H1' m1 σ Q (if c2 = c then .ok (.d (.bl true)) s1 else .no) := h2
          rw [if_neg hcc] at h2
          exact h2.elim
      | _ => exact h2.elim⟩
end
end TG

set_option Elab.async false
set_option linter.all false
set_option maxRecDepth 100000
set_option maxHeartbeats 4000000
/-! lists repeated -/
namespace TG
open PySem L2 PyProof.Rows
def fMulL : W → W → S → Res W := fun x y s => match x, y with
  | .d (.lst l), .d (.int k) => if 2 ≤ k ∧ k ≤ 1000 ∧ l.length ≤ 1000 then .ok (.d (.lst (List.replicate k.toNat l).flatten)) s else .no
  | _, _ => .no
section
variable {K : PySem.W.Frag} {cl : Str → Option Addr}
theorem ops_mulL : OpS K cl rRep fMulL := fun Wx σ H0 H m s x y wx wy Q st rx ry h => by
  unfold fMulL at h
  split at h
  · rename_i l k
    split at h
    · rename_i hc
      obtain ⟨h1, h2, h3⟩ := hc
      cases ry
      cases rx with
      | lst a1 a2 =>
        rename_i p vs
        refine ⟨p, k, vs, rfl, rfl, st.sub _ _ a1, by omega, by omega, ?_, fun t ht => ?_⟩
        · rw [a2.length]
          have := Nat.mul_le_mul h3 (show k.toNat ≤ 1000 by omega)
          exact Nat.le_trans this (by decide)
        · exact h _ _ _ _ (Go.alloc st ht) (st.alloc ht) (Rep.lst upd_same ((a2.rep _).mono (same_upd (st.h0 ht))))
    · exact h.elim
  · exact h.elim
end
end TG

set_option Elab.async false
set_option linter.all false
set_option maxRecDepth 100000
set_option maxHeartbeats 4000000
/-! found.append(left.pop(i)), both own lists -/
namespace TG
open PySem L2 PyProof.Rows
theorem RepWs.erase {K : PySem.W.Frag} {cl : Str → Option Addr} {H0 : Hp} {m : List Addr} : ∀ {n : Nat} {vs : List V} {l : List W}, RepWs K cl H0 m vs l → RepWs K cl H0 m (vs.eraseIdx n) (l.eraseIdx n)
  | _, _, _, .nil => by simp only [List.eraseIdx_nil]; exact .nil
  | 0, _, _, .cons _ b => b
  | n + 1, _, _, .cons a b => .cons a (b.erase (n := n))
def kPop (j i : Nat) (f l : List W) : W → Stm := fun y ρ s => match asInt y with
  | some k => (match ixN l.length k with
    | some n => (match l[n]? with
      | some w => if f.length < 16777216 ∧ l.length ≤ 16777216 then .nx ((ρ.set i (.own (l.eraseIdx n))).set j (.own (f ++ [w]))) s else .no
      | none => .no)
    | none => .no)
  | none => .no
def sAppPop (j i : Nat) (e : Cmp W) : Stm := fun ρ s => match (ρ[j]? : Option EV) with
  | some (.own f) => (match (ρ[i]? : Option EV) with | some (.own l) => if i ≠ j then ebS (e ρ s) ρ (kPop j i f l) else .no | _ => .no)
  | _ => .no
section
variable {X : Cx} {cl : Str → Option Addr} {Wx : WX} {e : Expr} {pos p1 p2 p3 p4 p5 p6 : Pos} {ea : Cmp W} {x y : Str}
theorem js_appPop (j i : Nat) (h : JE cl Wx X e ea) (hNy : X.N[j]? = some y := by rfl) (hNx : X.N[i]? = some x := by rfl)
    (hvy : Vis X.env.scope y := by first | exact Or.inl rfl | exact Or.inr (Or.inl rfl) | exact Or.inr (Or.inr rfl)) (hvx : Vis X.env.scope x := by first | exact Or.inl rfl | exact Or.inr (Or.inl rfl) | exact Or.inr (Or.inr rfl))
    (hdy : (y == ("__debug__" : Str)) = false := by decide) (hdx : (x == ("__debug__" : Str)) = false := by decide)
    (hcy : (y == ("__classdict__" : Str)) = false := by decide) (hcx : (x == ("__classdict__" : Str)) = false := by decide)
    (q1 : attributeBase (.Name y p1) "append" X.env (eval (.Name y p1) X.env) = eval (.Name y p1) X.env := by rfl)
    (q2 : ((((backTo p3 (starEach ((.Call (.Attribute (.Name x p4) "pop" p5) [e] [] p6) :: []) X.env)).all fun x => !x.fst) && (backToKw p3 (keywordEach [] X.env)).all fun x => x.fst.isSome) && decide (([Expr.Call (.Attribute (.Name x p4) "pop" p5) [e] [] p6].length + ([] : List Keyword).length + if ([] : List Keyword).isEmpty = true then 0 else 1) < 30)) = true := by rfl)
    (q3 : (p2.endLine == p3.line) = true := by rfl) (q4 : starEach ((.Call (.Attribute (.Name x p4) "pop" p5) [e] [] p6) :: []) X.env = (false, eval (.Call (.Attribute (.Name x p4) "pop" p5) [e] [] p6) X.env) :: starEach [] X.env := by rfl) (q5 : ((backTo p3 (starEach [] X.env)).any fun x => x.fst) = false := by rfl)
    (r1 : attributeBase (.Name x p4) "pop" X.env (eval (.Name x p4) X.env) = eval (.Name x p4) X.env := by rfl)
    (r2 : ((((backTo p6 (starEach (e :: []) X.env)).all fun x => !x.fst) && (backToKw p6 (keywordEach [] X.env)).all fun x => x.fst.isSome) && decide (((e :: []).length + ([] : List Keyword).length + if ([] : List Keyword).isEmpty = true then 0 else 1) < 30)) = true := by rfl)
    (r3 : (p5.endLine == p6.line) = true := by rfl) (r4 : starEach (e :: []) X.env = (false, eval e X.env) :: starEach [] X.env := by rfl) (r5 : ((backTo p6 (starEach [] X.env)).any fun x => x.fst) = false := by rfl)
    (hs : swapsWith (.Call (.Attribute (.Name y p1) "append" p2) [.Call (.Attribute (.Name x p4) "pop" p5) [e] [] p6] [] p3) none pos.line X.env = pure false := by rfl) :
    JS cl Wx X (.Expr (.Call (.Attribute (.Name y p1) "append" p2) [.Call (.Attribute (.Name x p4) "pop" p5) [e] [] p6] [] p3) pos) (sAppPop j i ea) :=
  PS.weaken (ps_expr (pe_bm PySem.F.plainAttrs_list PySem.F.slot_list_append PySem.F.type_list_append mt_append (pe_var hNy hvy hdy hcy)
    (pa_cons (pe_bm PySem.F.plainAttrs_list PySem.F.slot_list_pop PySem.F.type_list_pop mt_popAt (pe_var hNx hvx hdx hcx) (pa_cons h pa_nil r4) r1 r2 r3 r4 r5) pa_nil q4) q1 q2 q3 q4 q5) hs) fun E σ H ⟨H0, m, ow, s, ρ, cx, h⟩ => by
    unfold sAppPop at h
    split at h
    · rename_i f ef
      split at h
      · rename_i l el
        split at h
        · rename_i hij
          obtain ⟨p, vs, h1, h2, h3, h4⟩ := cx.en.slot j _ ef
          obtain ⟨p', vs', k1, k2, k3, k4⟩ := cx.en.slot i _ el
          refine ⟨.ref p, h1, .inl ⟨rfl, vs, .inl (.inl h3)⟩, .ref p', k1, .inl ⟨rfl, vs', .inl (.inl k3)⟩, H0, m, ow, s, ρ, cx, RunS.ofE cx h fun z s1 v H1 H1' m1 g c rr h5 => ?_⟩
          obtain ⟨pa, us, a1, a2, a3, a4⟩ := c.en.slot j _ ef
          obtain ⟨pb, us', b1, b2, b3, b4⟩ := c.en.slot i _ el
          rw [h1] at a1
          cases a1
          rw [k1] at b1
          cases b1
          have h5 : RunS X.K cl Wx H1 H1' m1 ow E (kPop j i f l z ρ s1) := h5
          unfold kPop at h5
          split at h5
          · rename_i k ek
            split at h5
            · rename_i n en
              split at h5
              · rename_i w ew
                split at h5
                · rename_i hlen
                  obtain ⟨hl1, hl2⟩ := hlen
                  have hl3 := b4.length
                  rw [← hl3] at en
                  obtain ⟨z1, z2, z3, z4⟩ := ixN_seq en
                  obtain ⟨u, w1, w2⟩ := b4.get ew
                  have c2 := c.updOwn el rfl k1 b2 (x := .own (l.eraseIdx n)) rfl ⟨p', _, rfl, b2, upd_same, b4.erase (n := n)⟩
                  have ef2 : (ρ.set i (.own (l.eraseIdx n)) : Rho)[j]? = some (.own f) := by rw [List.getElem?_set_ne hij]; exact ef
                  obtain ⟨pc, ts, d1, d2, d3, d4⟩ := c2.en.slot j _ ef2
                  rw [h1] at d1
                  cases d1
                  refine ⟨p', us', k, n, u, rfl, by rw [asInt_ok rr ek], b3, by omega, by omega, z1, w1, ?_⟩
                  refine ⟨p, ts, u, rfl, rfl, d3, size_lt (by rw [d4.length]; exact hl1), ?_⟩
                  exact h5 _ _ _ _ _ ((Go.updOwn b2).trans (Go.updOwn d2)) (c2.updOwn ef2 rfl h1 d2 rfl ⟨p, _, rfl, d2, upd_same, d4.append (.cons w2 .nil)⟩)
                · exact h5.elim
              · exact h5.elim
            · exact h5.elim
          · exact h5.elim
        · exact h.elim
      · exact h.elim
    · exact h.elim
end
end TG

set_option Elab.async false
set_option linter.all false
set_option maxRecDepth 100000
set_option maxHeartbeats 4000000
/-! sorted(set(a longer list of ints)), few of them distinct -/
namespace TG
open PySem L2 PyProof.Rows
theorem sortD_nodup (l : List Int) : (sortD l).Nodup := (sortD_lt l).imp fun h => by omega
end TG
namespace L2
open PySem PySem.Spec PyProof.Rows
theorem setR_card {w : World} {h : Heap} {a : Addr} {ns : List Int} {n : Nat} (R : SetR w h a (fun j => decide (j ∈ ns)) n) : n = (TG.sortD ns).length := by
  obtain ⟨o, es, ep, t, h1, h2, h3, h4, h5, h6, h7, h8, h9, _⟩ := R
  have hp := (List.perm_ext_iff_of_nodup h5 (TG.sortD_nodup ns)).mpr fun x => by
    rw [← h6 x, decide_eq_true_eq, TG.sortD_mem]
  have := hp.length_eq
  rw [List.length_map, Array.length_toList] at this
  omega
def rTgSetW (K : PySem.W.Frag) (w : World) : List V → Hp → VK → Prop := fun xs H Q => ∃ (a : Addr) (ns : List Int), xs = [.ref a] ∧ SqL K H a (ns.map V.int) ∧ ns.length ≤ 4000 ∧
  ∀ p c, H p = none → c = (TG.sortD ns).length → Q (.ref p) (upd H p (SetO w p (fun j => decide (j ∈ ns)) c))
theorem cr_tgSetW {X : Cx} (hc : X.calm = true) : CallR X (.type "set") (rTgSetW X.K X.w) := by
  intro pins s σ H vs us Q I r h
  obtain ⟨a, ns, rfl, hq, hl, q⟩ := h
  rw [Vals.ref1 r]
  obtain ⟨its, rv, ⟨⟨cls, dd, data, sl⟩, n, ho, hcl, hdn, hd⟩, hlen⟩ := I.list hq
  simp only at hcl hd
  subst hcl hd
  have hi : IntsAre its.toArray.toList ns := ints_of_vals rv
  refine tg_call_set ns (I.ok.hd hc) (items := its.toArray) ⟨_, ho, rfl, n, rfl⟩ hi (by unfold scanBound; omega) fun s2 ⟨h', tk, c, e, R, hc', k⟩ => ?_
  subst e
  exact ⟨.ref _, upd H s.heap.objs.size (SetO X.w s.heap.objs.size (fun j => decide (j ∈ ns)) c), I.laid (t' := tk) k (Nat.le_refl _) (setO_new R), rfl, q _ _ (I.hok.fresh (Nat.le_refl _)) (setR_card R)⟩
end L2
namespace TG
open PySem L2 PyProof.Rows
def kSortSetW : List W → S → Res (List W) := fun ws s1 => match ws with
  | [x] => (match asIntsL x s1 with | some l => if (sortD l).length < 64 ∧ l.length ≤ 4000 then .ok (wD ((sortD l).map D.int)) s1 else .no | none => .no)
  | _ => .no
def eSortSetW (a : Cmp (List W)) : Cmp (List W) := fun ρ s => (a ρ s).bind kSortSetW
section
variable {X : Cx} {cl : Str → Option Addr} {Wx : WX} {e : Expr} {el : Cmp (List W)} {p p2 pos pos2 : Pos}
theorem jl_sortsetW (hc : X.calm = true) (hg : Gl X "sorted") (hm : X.mg "sorted" = none) (hg2 : Gl X "set") (hm2 : X.mg "set" = none) (ha : JA cl Wx X [e] el)
    (h1 : starEach [.Call (.Name "set" p2) [e] [] pos2] X.env = (false, eval (.Call (.Name "set" p2) [e] [] pos2) X.env) :: starEach [] X.env := by rfl) (h2 : ((backTo pos (starEach [] X.env)).any fun x => x.fst) = false := by rfl)
    (h3 : starEach [e] X.env = (false, eval e X.env) :: starEach [] X.env := by rfl) (h4 : ((backTo pos2 (starEach [] X.env)).any fun x => x.fst) = false := by rfl) :
    JL cl Wx X (.Call (.Name "sorted" p) [.Call (.Name "set" p2) [e] [] pos2] [] pos) (eSortSetW el) := by
  have P1 := pe_callTy (p := p2) (pos := pos2) (cr_tgSetW hc) hg2 hm2 (by decide +kernel) ha (by decide) (by decide) h3 h4
  have P2 := pe_callB (p := p) (pos := pos) (cr_sortedSet hc) hg hm (by decide +kernel) (pa_cons P1 pa_nil) (by decide) (by decide) h1 h2
  refine PE.weaken P2 fun σ H Q ⟨H0, m, ow, s, ρ, cx, h⟩ => ?_
  refine ⟨H0, m, ow, s, ρ, cx, RunE.bind h fun ws s1 v H1 H1' m1 g st rr h2 => ?_⟩
  have h2 : RunE X.K cl (rrL X.K cl) Wx H1 H1' m1 σ Q (kSortSetW ws s1) := h2
  cases rr with
  | nil => exact h2.elim
  | @cons v w vs ws r1 r2 =>
    cases r2 with
    | cons _ _ => exact h2.elim
    | nil =>
      unfold kSortSetW at h2
      simp only at h2
      cases e1 : asIntsL w s1 with
      | none => rw [e1] at h2; exact h2.elim
      | some l =>
        rw [e1] at h2
        simp only at h2
        split at h2
        · rename_i hl
          obtain ⟨a, ea, eb⟩ := asIntsL_ok st r1 e1
          refine ⟨a, l, by rw [ea], sqL_of eb, hl.2, fun p1 c hp1 hcl => ?_⟩
          refine ⟨p1, _, c, rfl, upd_same, by rw [hcl]; exact hl.1, fun ns p2 q1 q2 q3 q4 => ?_⟩
          have es : ns = sortD l := lt_ext q1 (sortD_lt l) fun x => by rw [q2, sortD_mem, decide_eq_true_eq]
          subst es
          have hp2 : H1' p2 = none := by
            by_cases z : p2 = p1
            · subst z; rw [upd_same] at q4; cases q4
            · rw [upd_ne z] at q4; exact q4
          exact h2 _ _ _ _ ((Go.fresh hp1).trans (Go.fresh q4)) ((st.fresh hp1).fresh q4) ⟨p2, _, rfl, hp2, upd_same, st.h0 hp2, st.notM hp2, ints_ws _⟩
        · exact h2.elim
end
end TG

set_option Elab.async false
set_option linter.all false
set_option maxRecDepth 100000
set_option maxHeartbeats 4000000
/-! a class made with its last default; list(range(n)) -/
namespace TG
open PySem L2 PyProof.Rows
noncomputable def eMakeD (c : Str) (f : Sem1) (a : Cmp (List W)) (d : Int) : Cmp W := fun ρ s => (a ρ s).bind fun ws s1 => madeD c s1 (f (.r s1.length :: (ws ++ [.d (.int d)])) (s1 ++ [.ins c []]))
structure ClsAtD (P : Program) (w : World) (K : PySem.W.Frag) (mg : Str → Option Value) (base : Heap) (cl : Str → Option Addr) (k : Nat) (c : Str) (ps : List Str) (f : Sem1) (d : Int) : Prop where
  ex : ∃ (C a : Addr) (fd : FuncData) (t : Tok), cl c = some C ∧ mg c = some (.ref C) ∧ Mk K C a ∧ Binds K fd ps [.int d t] ∧ FnOk P w K mg base (L2.CX P w) k a fd ps (spOf K cl f)
theorem ClsAtD.mono {P : Program} {w : World} {K : PySem.W.Frag} {mg : Str → Option Value} {base : Heap} {cl : Str → Option Addr} {j k : Nat} {c : Str} {ps : List Str} {f : Sem1} {d : Int} (F : ClsAtD P w K mg base cl j c ps f d) (h : j ≤ k) : ClsAtD P w K mg base cl k c ps f d := by
  obtain ⟨C, a, fd, t, h0, h1, h2, h3, h4⟩ := F.ex
  exact ⟨C, a, fd, t, h0, h1, h2, h3, h4.mono h⟩
theorem binds_of_d {K : PySem.W.Frag} {fd : FuncData} {ps : List Str} {d : Int} (h : ∃ ds, Vals [V.int d] ds ∧ Binds K fd ps ds) : ∃ t, Binds K fd ps [.int d t] := by
  obtain ⟨ds, r, b⟩ := h
  cases r with
  | cons a b' =>
    cases b'
    obtain ⟨t, rfl⟩ := a
    exact ⟨t, b⟩
def kLstRg : W → S → Res (List W) := fun x s1 => match asInt x with
  | some n => if 0 ≤ n ∧ n ≤ 16777216 then .ok (wD (((List.range n.toNat).map fun i : Nat => (i : Int)).map D.int)) s1 else .no
  | none => .no
def eLstRg (a : Cmp W) : Cmp (List W) := fun ρ s => (a ρ s).bind kLstRg
section
variable {X : Cx} {cl : Str → Option Addr} {E : XK} {e : Expr} {es : List Expr} {pos p p2 pos2 : Pos} {el : Cmp (List W)} {ea : Cmp W} {k : Nat} {c : Str} {ps : List Str} {f : Sem1} {Wx : WX}
theorem je_makeD {dz : Int} (ok : XOk X (wxE E)) (hr : Room (k + 1) X.A) (F : ClsAtD X.prog X.w X.K X.mg X.base cl k c ps f dz) (ha : JA cl (wxE E) X (e :: es) el) (hg : Gl X c := by rfl)
    (h1 : (c == Str.ofString "__debug__") = false := by decide) (h2 : starEach (e :: es) X.env = (false, eval e X.env) :: starEach es X.env := by rfl) (h3 : ((backTo pos (starEach es X.env)).any fun x => x.fst) = false := by rfl) :
    JE cl (wxE E) X (.Call (.Name c p) (e :: es) [] pos) (eMakeD c f el dz) := by
  obtain ⟨C, a, fd, tz, q0, q1, q2, q3, q4⟩ := F.ex
  refine PE.weaken (pe_make q2 q4 hr hg q1 q3 (show Vals [V.int dz] [Value.int dz tz] from .cons ⟨tz, rfl⟩ .nil) (passE ok) ha h1 h2 h3) fun σ H Q ⟨H0, m, ow, s, ρ, cx, h⟩ => ⟨H0, m, ow, s, ρ, cx, RunE.bind h fun ws s1 vs H1 H1' m1 g st rr h4 x dx hx hdx hn => ?_⟩
  obtain ⟨st1, g1⟩ := made_start (c := c) st q0 hx hdx hn
  refine ⟨H1, m1 ++ [x], _, .r s1.length :: (ws ++ [.d (.int dz)]), st1, ?_, ?_⟩
  · exact .cons ⟨x, by rw [← st.len]; simp, rfl⟩ ((RepWs.append rr (.cons (show RepW X.K cl H1 m1 (.int dz) (.d (.int dz)) from Rep.int) .nil)).mono (Same.refl _) (List.prefix_append _ _))
  · cases e1 : f (.r s1.length :: (ws ++ [.d (.int dz)])) (s1 ++ [.ins c []]) with
    | no => rw [e1] at h4; exact h4
    | exc d z s2 =>
      rw [e1] at h4
      unfold madeD at h4
      dsimp only at h4
      split at h4
      · rename_i hs
        exact fun cv dd H0' H' m' g' st' r' => h4 cv dd H0' H' m1 (g1.trans g').trunc (st.trunc (g1.trans g') st' hs) r'
      · exact h4.elim
    | ok rv s2 =>
      rw [e1] at h4
      unfold madeD at h4
      intro v H0' H' m' g' st' r'
      split at h4
      · rename_i s3 e2
        cases e2
        have hv : v = .non := by cases r'; rfl
        subst hv
        refine ⟨rfl, ?_⟩
        split at h4
        · rename_i c' l e3
          split at h4
          · rename_i hc
            obtain ⟨rfl, ht⟩ := hc
            split at h4
            · rename_i ds e4
              have gg := g1.trans g'
              have hm' : m'[s1.length]? = some x := by
                obtain ⟨t, rfl⟩ := g'.pre
                rw [List.append_assoc, ← st.len, List.getElem?_append_right (Nat.le_refl _)]
                simp
              obtain ⟨z1, C', dx', fs, z2, z3, z4⟩ := st'.cell _ x _ hm' e3
              have stT := st.trunc gg st' ht
              have rF := z4.dataF e4
              refine h4 _ (upd H0' x (.ins C' dx' fs)) H' m1 (gg.trunc.freeze st hx) (stT.freeze z1 z2 (st.notM hx)) (Rep.ins upd_same z3 (rF.mono (same_upd z1)))
            · exact h4.elim
          · exact h4.elim
        · exact h4.elim
      · exact h4.elim
      · rename_i e2; cases e2
      · rename_i e2; cases e2

theorem jl_lstRg (hc : X.calm = true) (hg : Gl X "list") (hm : X.mg "list" = none) (hg2 : Gl X "range") (hm2 : X.mg "range" = none) (ha : JE cl Wx X e ea)
    (h1 : starEach [.Call (.Name "range" p2) [e] [] pos2] X.env = (false, eval (.Call (.Name "range" p2) [e] [] pos2) X.env) :: starEach [] X.env := by rfl)
    (h3 : starEach [e] X.env = (false, eval e X.env) :: starEach [] X.env := by rfl) :
    JL cl Wx X (.Call (.Name "list" p) [.Call (.Name "range" p2) [e] [] pos2] [] pos) (eLstRg ea) :=
  PE.weaken (pe_listRg (p := p) (pos := pos) hc hg hm (prg_1 (p := p2) (pos := pos2) hg2 hm2 ha h3) h1) fun σ H Q ⟨H0, m, ow, s, ρ, cx, h⟩ => ⟨H0, m, ow, s, ρ, cx, RunE.bind h fun x s1 v H1 H1' m1 g st rr h2 => by
    have h2 : RunE X.K cl (rrL X.K cl) Wx H1 H1' m1 σ Q (kLstRg x s1) := h2
    unfold kLstRg at h2
    split at h2
    · rename_i n e1
      split at h2
      · rename_i hn
        refine ⟨n, asInt_ok rr e1, RgOk.of_le (by omega) hn.2 (by omega) hn.1, fun q hq => ?_⟩
        have e2 : rgV 0 n = ((List.range n.toNat).map fun i : Nat => (i : Int)).map V.int := by simp [rgV]
        rw [e2]
        exact h2 _ _ _ _ (Go.fresh hq) (st.fresh hq) ⟨q, _, rfl, hq, upd_same, st.h0 hq, st.notM hq, ints_ws _⟩
      · exact h2.elim
    · exact h2.elim⟩
end
end TG

set_option Elab.async false
set_option linter.all false
set_option maxRecDepth 100000
set_option maxHeartbeats 4000000
/-! min and max of a tuple of ints -/
namespace L2
open PySem PySem.Spec PyProof.Rows
theorem depth_ints : ∀ ns : List Int, PyData.depthAll (ns.map .int) = 0
  | [] => rfl
  | n :: ns => by simp [PyData.depthAll, PyData.depth, depth_ints ns]
theorem alike_ints (ns : List Int) : PySem.W.AlikeAll (ns.map .int) := by
  constructor
  · intro x hx y hy
    obtain ⟨a, _, rfl⟩ := List.mem_map.mp hx
    obtain ⟨b, _, rfl⟩ := List.mem_map.mp hy
    rfl
  · intro x hx
    obtain ⟨a, _, rfl⟩ := List.mem_map.mp hx
    intro h
    cases h
def rMinT (K : PySem.W.Frag) : List V → Hp → VK → Prop := fun vs H Q => ∃ (a : Addr) (n : Int) (ns : List Int), vs = [V.ref a] ∧ SqT K H a ((n :: ns).map V.int) ∧ Q (.int (ns.foldl min n)) H
theorem cr_minT {X : Cx} (hc : X.calm = true) (hu : X.A.units + 1 < cLine) : CallR X (.builtin "min") (rMinT X.K) := by
  intro pins s σ H vs us Q I r h
  obtain ⟨a, n, ns, rfl, hs, q⟩ := h
  obtain ⟨its, rv, hl, _⟩ := I.tuple hs
  rw [Vals.ref1 r]
  have hi : IntsAre its (n :: ns) := ints_of_vals rv
  refine PySem.W.min_tuple_data (I.ok.hd hc) hl (x := .int n) (xs := ns.map .int) (IntsAre.reads _ (by simpa using hi)) (alike_ints (n :: ns)) (by rw [show (PyData.int n :: ns.map PyData.int) = (n :: ns).map PyData.int from rfl, depth_ints]; omega) fun i v h' tk bs _ hr hk => ?_
  rw [PySem.W.minD_ints] at hr
  cases hr
  exact ⟨.int _, H, I.kept hk, ⟨_, rfl⟩, q⟩
end L2
namespace TG
open PySem L2 PyProof.Rows
def fMinT : W → S → Res W := fun x s => match asTup x with
  | some l => (match allInts (wD l) with | some (n :: ns) => .ok (.d (.int (ns.foldl min n))) s | _ => .no)
  | none => .no
theorem calls_minT {K : PySem.W.Frag} {cl : Str → Option Addr} : CallS K cl (rMinT K) (c1 fMinT) := calls1 fun Wx σ H0 H m s x wx Q st rx h => by
  unfold fMinT at h
  split at h
  · rename_i l e1
    split at h
    · rename_i n ns e2
      obtain ⟨p, vs, q1, q2, q3⟩ := asTup_ok rx e1
      have := (q3.ws (m := m)).ints e2
      subst this
      exact ⟨p, n, ns, by rw [q1], sqT_of (st.sub _ _ q2), RunE.done (RR := rrW K cl) h st .int⟩
    · exact h.elim
  · exact h.elim
end TG

set_option Elab.async false
set_option linter.all false
set_option maxRecDepth 100000
set_option maxHeartbeats 4000000
/-! max(a list of ints, default=None) -/
namespace L2
open PySem PySem.Spec PyProof.Rows
def tMaxD (K : PySem.W.Frag) (ta : TA) : TE := fun σ H Q => ta σ H fun vs H1 => ∃ (a : Addr) (ns : List Int), vs = [V.ref a] ∧ SqL K H1 a (ns.map V.int) ∧ (ns = [] → Q .non H1) ∧ ∀ n ms, ns = n :: ms → Q (.int (ms.foldl max n)) H1
theorem pe_maxD {X : Cx} {e : Expr} {ta : TA} {p pos kp cp : Pos} {j : Nat} (hc : X.calm = true) (hu : X.A.units + 1 < cLine) (hg : Gl X "max") (hm : X.mg "max" = none) (ha : PA X [e] ta)
    (hs : backTo pos (starEach [e] X.env) = (false, eval e X.env) :: backTo pos (starEach [] X.env) := by rfl) (hpl : (backTo pos (starEach [e] X.env)).any (·.1) = false := by rfl) :
    PE X (.Call (.Name "max" p) [e] [⟨some "default", .Constant .none j cp, kp⟩] pos) (tMaxD X.K ta) := by
  refine ⟨fun pins s σ H Q I h => ?_⟩
  refine wpAny_Call_Name_kw (ld_blt I hg hm PyProof.Rows.boot_max (PyProof.Rows.callWith_kw (thn (ha.run pos pins s σ H _ I h) fun us s1 ⟨vs, H1, I1, r1, q1⟩ => ?_) hs hpl))
  have hk : PK X [⟨some "default", .Constant .none j cp, kp⟩] (tCons (tC .non) tNil) := pk_cons pe_non pk_nil
  refine thn (hk.run pos pins s1 σ H1 (fun zs H2 => zs = [V.non] ∧ H2 = H1) I1 ⟨rfl, rfl⟩) fun ws s2 ⟨zs, H2, I2, r2, q2⟩ => ?_
  obtain ⟨rfl, rfl⟩ := q2
  obtain ⟨a, ns, ex, hq, q0, q⟩ := q1
  subst ex
  cases r2 with
  | cons rb rn =>
    cases rn
    cases rb
    rw [Vals.ref1 r1]
    obtain ⟨its, rv, hl, _⟩ := I2.list hq
    have hi : IntsAre its ns := ints_of_vals rv
    refine PySem.W.max_list_default (I2.ok.hd hc) hl.isList (IntsAre.reads _ (by simpa using hi)) (alike_ints ns) (by rw [depth_ints]; omega) (fun e h' tk hk => ?_) fun y ys i v h' tk bs e hv hr hk => ?_
    · exact ⟨.non, H2, I2.kept hk, rfl, q0 (List.map_eq_nil_iff.mp e)⟩
    · cases ns with
      | nil => cases e
      | cons n ms =>
        cases e
        rw [PySem.W.maxD_ints] at hr
        cases hr
        exact ⟨.int _, H2, I2.kept hk, ⟨_, rfl⟩, q n ms rfl⟩
end L2
namespace TG
open PySem L2 PyProof.Rows
def kMaxD : List W → S → Res W := fun ws s => match ws with
  | [x] => (match asIntsL x s with
    | some [] => .ok (.d .non) s
    | some (n :: ms) => .ok (.d (.int (ms.foldl max n))) s
    | none => .no)
  | _ => .no
def eMaxD (el : Cmp (List W)) : Cmp W := fun ρ s => (el ρ s).bind kMaxD
section
variable {X : Cx} {cl : Str → Option Addr} {Wx : WX} {e : Expr} {el : Cmp (List W)} {p pos kp cp : Pos} {j : Nat}
theorem je_maxD (hc : X.calm = true) (hu : X.A.units + 1 < cLine) (hg : Gl X "max") (hm : X.mg "max" = none) (ha : JA cl Wx X [e] el)
    (hs : backTo pos (starEach [e] X.env) = (false, eval e X.env) :: backTo pos (starEach [] X.env) := by rfl) (hpl : (backTo pos (starEach [e] X.env)).any (·.1) = false := by rfl) :
    JE cl Wx X (.Call (.Name "max" p) [e] [⟨some "default", .Constant .none j cp, kp⟩] pos) (eMaxD el) :=
  PE.weaken (pe_maxD hc hu hg hm ha hs hpl) fun σ H Q ⟨H0, m, ow, s, ρ, cx, q⟩ => ⟨H0, m, ow, s, ρ, cx, RunE.bind q fun ws s1 vs H1 H1' m1 g st rr q1 => by
    have q1 : RunE X.K cl (rrW X.K cl) Wx H1 H1' m1 σ Q (kMaxD ws s1) := q1
    cases rr with
    | nil => exact q1.elim
    | @cons v w vs ws r1 r2 =>
      cases r2 with
      | cons _ _ => exact q1.elim
      | nil =>
        unfold kMaxD at q1
        simp only at q1
        cases e1 : asIntsL w s1 with
        | none => rw [e1] at q1; exact q1.elim
        | some l =>
          rw [e1] at q1
          obtain ⟨a, ea, eb⟩ := asIntsL_ok st r1 e1
          refine ⟨a, l, by rw [ea], sqL_of eb, fun h => ?_, fun n ms h => ?_⟩
          · subst h
            exact RunE.done (RR := rrW X.K cl) q1 st Rep.non
          · subst h
            exact RunE.done (RR := rrW X.K cl) q1 st Rep.int⟩
end
end TG

set_option Elab.async false
set_option linter.all false
set_option maxRecDepth 100000
set_option maxHeartbeats 4000000
/-! a, b, c = x, y, z -/
namespace TG
open PySem L2 PyProof.Rows
def kPar3 (i j l : Nat) : List W → Stm := fun ws ρ s => match ws with | [x, y, z] => .nx (((ρ.set i (.w x)).set j (.w y)).set l (.w z)) s | _ => .no
def sPar3 (i j l : Nat) (a : Cmp (List W)) : Stm := fun ρ s => ebS (a ρ s) ρ (kPar3 i j l)
section
variable {X : Cx} {cl : Str → Option Addr} {Wx : WX} {el : Cmp (List W)} {pos : Pos}
theorem js_par3 (k l m : Nat) {x y z : Str} {ex ey ez : Expr} {px py pz pt pt2 : Pos} {kt k2 : Nat} (hc : X.calm = true) (nd : X.N.Nodup) (h : JA cl Wx X [ex, ey, ez] el) (hi : X.N[k]? = some x := by rfl) (hj : X.N[l]? = some y := by rfl) (hl : X.N[m]? = some z := by rfl) (hn : k ≠ l := by decide) (hn2 : k ≠ m := by decide) (hn3 : l ≠ m := by decide)
    (l1 : List.lookup x X.env.scope.names = some NameKind.local := by rfl) (l2 : List.lookup y X.env.scope.names = some NameKind.local := by rfl) (l3 : List.lookup z X.env.scope.names = some NameKind.local := by rfl)
    (q1 : swappedStores [.Tuple [.Name x px, .Name y py, .Name z pz] kt pt] (.Tuple [ex, ey, ez] k2 pt2) X.env = pure (some [x, y, z]) := by rfl) (q2 : swapsWithSole [.Tuple [.Name x px, .Name y py, .Name z pz] kt pt] (.Tuple [ex, ey, ez] k2 pt2) pos.line X.env = pure false := by rfl) :
    JS cl Wx X (.Assign [.Tuple [.Name x px, .Name y py, .Name z pz] kt pt] (.Tuple [ex, ey, ez] k2 pt2) pos) (sPar3 k l m el) :=
  PS.weaken (ps_par3 hc nd hi hj hl hn hn2 hn3 l1 l2 l3 h q1 q2) fun E σ H ⟨H0, m', ow, s, ρ, cx, h⟩ => ⟨H0, m', ow, s, ρ, cx, RunS.ofE cx h fun ws s1 vs H1 H1' m1 g c rr q => by
    have q : RunS X.K cl Wx H1 H1' m1 ow E (kPar3 k l m ws ρ s1) := q
    cases rr with
    | nil => exact q.elim
    | cons r1 r2 =>
      cases r2 with
      | nil => exact q.elim
      | cons r2 r3 =>
        cases r3 with
        | nil => exact q.elim
        | cons r3 r4 =>
          cases r4 with
          | cons _ _ => exact q.elim
          | nil => exact ⟨_, _, _, rfl, RunS.nxt q (((c.setW r1 k).setW r2 l).setW r3 m)⟩⟩
end
end TG

set_option Elab.async false
set_option linter.all false
set_option maxRecDepth 100000
set_option maxHeartbeats 2000000
/-! len of an instance whose class says how long it is -/
namespace TG
open PySem L2 PyProof.Rows
structure LenAt (P : Program) (w : World) (K : PySem.W.Frag) (mg : Str → Option Value) (base : Heap) (cl : Str → Option Addr) (k : Nat) (c : Str) (ps : List Str) (f : Sem1) : Prop where
  ex : ∃ (C a : Addr) (fd : FuncData), cl c = some C ∧ PySem.W.findIn K (.ref C) "__len__" = some (some (.ref a)) ∧ PySem.W.isFn K (.ref a) = true ∧ Binds K fd ps [] ∧ FnOk P w K mg base (L2.CX P w) k a fd ps (spOf K cl f)
theorem LenAt.mono {P : Program} {w : World} {K : PySem.W.Frag} {mg : Str → Option Value} {base : Heap} {cl : Str → Option Addr} {j k : Nat} {c : Str} {ps : List Str} {f : Sem1} (F : LenAt P w K mg base cl j c ps f) (h : j ≤ k) : LenAt P w K mg base cl k c ps f := by
  obtain ⟨C, a, fd, h1, h2, h3, h4, h5⟩ := F.ex
  exact ⟨C, a, fd, h1, h2, h3, h4, h5.mono h⟩
def rLenI (K : PySem.W.Frag) (cl : Str → Option Addr) (c : Str) (f : Sem1) : List V → Hp → VK → Prop := fun xs H Q =>
  ∃ (v : V) (l : List (Str × D)) (n : Int) (H0 : Hp), xs = [v] ∧ Same H0 H ∧ Rep K cl H0 v (.ins c l) ∧ f [.d (.ins c l)] [] = .ok (.w (.d (.int n))) [] ∧ 0 ≤ n ∧ n < 1000 ∧ ∀ H', Ext H H' → Q (.int n) H'
section
variable {X : Cx} {cl : Str → Option Addr} {k : Nat} {ps : List Str} {f : Sem1} {c : Str}
theorem call_lenI (F : LenAt X.prog X.w X.K X.mg X.base cl k c ps f) (hr : Room (k + 2) X.A) : CallR X (.builtin "len") (rLenI X.K cl c f) := by
  intro pins s σ H xs us Q I r h
  obtain ⟨v, l, n, H0, rfl, sm, rp, hf, n0, n1, q⟩ := h
  obtain ⟨C, a, fd, h1, h2, h3, h4, h5⟩ := F.ex
  obtain ⟨u, rfl, ru⟩ := vals1 r
  have rp0 := rp
  cases rp with
  | ins a1 a2 a3 =>
    rw [h1] at a2
    cases a2
    rename_i p dx fs
    obtain rfl : u = Value.ref p := ru
    obtain ⟨mA, J, _⟩ := ins_get I.hok (sm _ _ a1)
    obtain ⟨od, J, _⟩ := J.look
    have hsp : spOf X.K cl f [.ref p] H (fun v H' => v = .int n ∧ Ext H H') E0 := by
      refine ⟨H0, [], [], [.d (.ins c l)], ⟨sm, rfl, List.nodup_nil, fun n a c h => by simp at h⟩, .cons rp0 .nil, ?_⟩
      rw [hf]
      intro v H0' H' m' g st rr
      have rr : RepW X.K cl H0' m' v (.d (.int n)) := rr
      cases rr
      exact ⟨rfl, fun a o h => g.fr a o h (by simp) (by simp)⟩
    have hl := h5.len _ _ _ _ hsp
    have r2 : Vals [V.ref p] [Value.ref p] := .cons rfl .nil
    refine Calls.call_function_entry kind_len plain_len entry_len (args_len1 (Value.ref p)) ?_
    unfold Builtin.«len»
    refine wpAny_bind (m := oneArg "len" _) (wpAny_pure (wpAny_bind (m := callSpecial? (.ref p) (PySem.Str.ofString "__len__")) (PySem.W.special_fn I.kIn J h2 (beq_iff_eq.mp h3) ?_)))
    have e0 : Env0 X.prog X.w X.K X.mg X.base X.A.in1 X.stack s H := by
      have e := I.env0
      exact ⟨e.frames, e.mod, e.bs, e.bsz, e.funs, e.frf, e.hok, e.bare⟩
    refine wpAny_call (codeAny_mono (h5.run X.A.in1 X.stack s H ⟨[.ref p], []⟩ [.ref p] [.ref p] _ E0 ((hr.mono (by omega) : Room (k + 1) X.A).in1) e0 (by
      have := h4 s [.ref p] I.kIn (by simpa using hl)
      simpa using this) r2 hsp) fun r s' hq => ?_)
    cases r with
    | error e => exact noPass pins σ H s e s' I hq
    | ok fl =>
      cases fl with
      | ret w =>
        obtain ⟨z, H', I', rz, ez, ex⟩ := I.after hq
        subst ez
        obtain ⟨t, rfl⟩ := (show ∃ t, w = Value.int n t from rz)
        refine wpAny_bind (wpAny_holding (wpAny_pure (wpAny_bind (wpAny_letGo ?_))))
        show wpAny _ _ (if (n : Int) < 0 then _ else _) _ _ _
        rw [if_neg (show ¬ n < 0 by omega)]
        show wpAny _ _ (if (n : Int) ≥ 2 ^ 63 then _ else _) _ _ _
        rw [if_neg (show ¬ n ≥ 2 ^ 63 by omega)]
        exact wpAny_bind (wpAny_mkInt (wpAny_pure ⟨_, rfl, .int n, H', I'.tok _, ⟨_, rfl⟩, q H' ex⟩))
      | next => exact False.elim hq
      | brk => exact False.elim hq
      | cont => exact False.elim hq
def lenOf : Res RV → S → Res W
  | .ok (.w (.d (.int n))) [] => fun s => if 0 ≤ n ∧ n < 1000 then .ok (.d (.int n)) s else .no
  | _ => fun _ => .no
def lenW (c : Str) (f : Sem1) : W → S → Res W
  | .d (.ins c' l) => fun s => if c' = c then lenOf (f [.d (.ins c l)] []) s else .no
  | _ => fun _ => .no
def eLenI (c : Str) (f : Sem1) (a : Cmp W) : Cmp W := fun ρ s => (a ρ s).bind (lenW c f)
variable {Wx : WX} {e : Expr} {pos p : Pos} {ea : Cmp W} {x : Str}
theorem je_lenI (F : LenAt X.prog X.w X.K X.mg X.base cl k c ps f) (hr : Room (k + 2) X.A) (hg : Gl X x) (hm : X.mg x = none) (hv : bootBuiltins x = some (.builtin "len")) (ha : JE cl Wx X e ea)
    (n1 : x ≠ "__name__" := by decide) (n2 : (x == ("__debug__" : Str)) = false := by decide)
    (hs : starEach [e] X.env = (false, eval e X.env) :: starEach [] X.env := by rfl) (h4 : ((backTo pos (starEach [] X.env)).any fun x => x.fst) = false := by rfl) :
    JE cl Wx X (.Call (.Name x p) [e] [] pos) (eLenI c f ea) := by
  refine PE.weaken (pe_callB (call_lenI F hr) hg hm hv (pa_cons ha pa_nil hs) n1 n2 hs h4) fun σ H Q ⟨H0, m, ow, s, ρ, cx, h⟩ => ⟨H0, m, ow, s, ρ, cx, RunE.bind h fun a s1 v H1 H1' m1 g st rr h2 => ?_⟩
  cases a with
  | r n => exact h2.elim
  | d z =>
    cases z with
    | ins c2 l =>
      by_cases hcc : c2 = c
      · subst hcc
        have h2 : RunE X.K cl (rrW X.K cl) Wx H1 H1' m1 σ Q (if c2 = c2 then lenOf (f [.d (.ins c2 l)] []) s1 else .no) := h2
        rw [if_pos rfl] at h2
        generalize ef : f [.d (.ins c2 l)] [] = fr at h2
        unfold lenOf at h2
        split at h2
        · rename_i n
          by_cases hn : 0 ≤ n ∧ n < 1000
          · have h3 : RunE X.K cl (rrW X.K cl) Wx H1 H1' m1 σ Q (if 0 ≤ n ∧ n < 1000 then .ok (.d (.int n)) s1 else .no) := h2
            rw [if_pos hn] at h3
            refine ⟨v, l, n, H1, rfl, st.sub, rr, ef, hn.1, hn.2, fun H' e => ?_⟩
            have h4 : RunE X.K cl (rrW X.K cl) Wx H1 H1' m1 σ Q (.ok (.d (.int n)) s1) := h3
            exact h4 (.int n) H1 H' m1 ⟨Same.refl _, List.prefix_rfl, fun a o h _ _ => e a o h, fun a h => by
              cases q : H1' a with
              | none => exact absurd q h
              | some o => rw [e a o q]; simp, fun _ _ _ _ h => h, fun _ h => .inl h, fun _ h => .inl h⟩ ⟨st.sub.trans e, st.len, st.nd, fun n a c q1 q2 => by
              obtain ⟨z1, z2⟩ := st.cell n a c q1 q2
              exact ⟨z1, z2.mono (Same.refl _) List.prefix_rfl fun o q => e a o q⟩⟩ .int
          · have h3 : RunE X.K cl (rrW X.K cl) Wx H1 H1' m1 σ Q (if 0 ≤ n ∧ n < 1000 then .ok (.d (.int n)) s1 else .no) := h2
            rw [if_neg hn] at h3
            exact h3.elim
        · exact h2.elim
      · have h2 : RunE X.K cl (rrW X.K cl) Wx H1 H1' m1 σ Q (if c2 = c then lenOf (f [.d (.ins c l)] []) s1 else .no) := h2
        rw [if_neg hcc] at h2
        exact h2.elim
    | _ => exact h2.elim
end
end TG

set_option Elab.async false
set_option linter.all false
set_option maxRecDepth 100000
set_option maxHeartbeats 4000000
/-! exceptions of own classes over any built-in one, with a field of their own -/
namespace PySem
namespace XFld
open PySem.W PySem.Calls PyProof.Rows PySem.HandSPX
open Builtin Builtin.ObjectAttr
/-- own classes, then what a built-in one is made of -/
def rowsX (z : List Value) : List Value → Bool
  | .ref _ :: r => rowsX z r
  | l => l == z
theorem rowsX_cases (z : List Value) : ∀ l : List Value, rowsX z l = true → (∃ c r, l = .ref c :: r ∧ rowsX z r = true) ∨ l = z
  | [], e => .inr (beq_iff_eq.mp e)
  | .ref c :: r, e => .inl ⟨c, r, rfl, e⟩
  | .none :: _, e => .inr (beq_iff_eq.mp e) | .ellipsis :: _, e => .inr (beq_iff_eq.mp e) | .notImplemented :: _, e => .inr (beq_iff_eq.mp e) | .bool _ :: _, e => .inr (beq_iff_eq.mp e)
  | .int _ _ :: _, e => .inr (beq_iff_eq.mp e) | .float _ _ :: _, e => .inr (beq_iff_eq.mp e) | .str _ _ :: _, e => .inr (beq_iff_eq.mp e) | .bytes _ _ :: _, e => .inr (beq_iff_eq.mp e)
  | .type _ :: _, e => .inr (beq_iff_eq.mp e) | .builtin _ :: _, e => .inr (beq_iff_eq.mp e)
theorem rowsX_ind {z : List Value} {p : List Value → Prop} (hz : p z) (hs : ∀ c r, p r → p (.ref c :: r)) : ∀ l : List Value, rowsX z l = true → p l := by
  intro l
  induction l with
  | nil =>
    intro e
    rcases rowsX_cases z [] e with ⟨c, r, q, _⟩ | q
    · cases q
    · rw [q]; exact hz
  | cons a r ih =>
    intro e
    rcases rowsX_cases z (a :: r) e with ⟨c, r', q, h⟩ | q
    · obtain ⟨rfl, rfl⟩ := List.cons.inj q
      exact hs _ _ (ih h)
    · rw [q]; exact hz
section
variable {prog : Program} {w : World} {A : Around} {E : Value → Shared → Prop} {R : Result → Shared → Prop} {hp : Heap} {g : Array GenState} {d : Drawn} {t : Nat} {os : OsState}
/-- the first field of an exception that has no dict as yet -/
theorem osaX {K : W.Frag} {name : Str} {tk : Tok} {v : Value} {x C : Addr} {fv : Array Value} {cd : ClassData}
    (X : K.In hp) (gx : hp.get? x = some { cls := .ref C, data := .fields fv }) (gC : W.clsIn K C = some cd) (ps : refuseLoop (.ref x) "__setattr__" cd.mro = pure ()) (ob : cd.mro.contains (.type "object") = true) (ne : cd.mro.isEmpty = false)
    (hh : cd.hasDict = true) (ha : W.findIn K (.ref C) name = some none)
    (hq : ∀ h' tk' dx, (∀ b o, b ≠ x → hp.get? b = some o → h'.get? b = some o) → hp.objs.size ≤ dx → dx ≠ x → h'.get? x = some { cls := .ref C, dict := some dx, data := .fields fv } →
      h'.Ns1 dx (fun y => if y = name then some v else none) → R (.ok (.ret .none)) ⟨h', g, d, tk', os⟩) :
    codeAny (model prog w) A (.call (.builtin "object.__setattr__") ⟨[.ref x, .str name tk, v], []⟩) R ⟨hp, g, d, t, os⟩ := by
  have I1 : W.InstAt hp x { cls := .ref C, data := .fields fv } C none := ⟨gx, rfl, rfl, trivial⟩
  have S1 := F.store_object
  have xs : x ≠ hp.objs.size := Nat.ne_of_lt (Heap.lt_size gx)
  have is1 : W.Looks (model prog w) hp (isInstance (.ref x) (.type "object")) true := I1.type.andThen (W.looks_mroIn X (by unfold W.mroIn; rw [gC, Option.bind_some, if_neg (by rw [ne]; decide), ob]))
  refine codeAny_call_builtin S1.slot.plain S1.entry (@W.check_slot (model prog w) _ _ ⟨hp, g, d, t, os⟩ "object.__setattr__" "object" "__setattr__" (.ref x) [.str name tk, v] [] _ S1.kind S1.split is1 (S1.args (.ref x) (.str name tk) v) ?_)
  have mr : W.Looks (model prog w) hp (mroOf (.ref C)) cd.mro := (W.looks_clsIn X gC).andThen .now
  have st : W.Looks (model prog w) hp (storeTaker? none) none := .now
  have cl : W.Looks (model prog w) hp (classData C) cd := W.looks_clsIn X gC
  rw [W.osa_eq, refuse_eq]
  refine wpAny_bind (wpAny_bind (I1.type.at (wpAny_bind (mr.at ?_))))
  rw [ps]
  refine wpAny_pure (wpAny_bind (I1.type.at (wpAny_bind ((W.looks_findIn X ha).at (wpAny_bind (st.at ?_))))))
  show wpAny (model prog w) _ (storeInOwnDict (.ref x) (.ref C) (.str name tk) name v false) _ _ _
  obtain ⟨nm, bs, mro, ns, qn, hd, sn, sb, ab, col, del⟩ := cd
  dsimp only at hh
  subst hh
  unfold storeInOwnDict ownDictForStores
  repeat (first | with_reducible refine store_in_new ?_ ?_ | with_reducible refine wpAny_loadPart_at gx ?_ | with_reducible refine cl.at ?_ | wp_step)
  · exact ⟨_, #[], _, (Heap.get?_update_ne _ _ _ _ xs.symm).trans (Heap.get?_push_at rfl rfl), rfl, fun e he => absurd he (by simp), fun _ => rfl⟩
  · intro h' tk' hn' hs
    have gx2 : (hp.push { cls := .type "dict", data := .dict #[] }).get? x = some { cls := .ref C, data := .fields fv } := Heap.get?_push_of_some _ gx
    refine hq h' tk' hp.objs.size (fun b o hb ho => ?_) (Nat.le_refl _) xs.symm ?_ hn'
    · exact (hs.2 b (Nat.ne_of_lt (Heap.lt_size ho))).trans ((Heap.get?_update_ne _ _ _ _ hb).trans (Heap.get?_push_of_some _ ho))
    · exact (hs.2 x xs).trans (Heap.get?_update_self _ gx2 rfl)
end
/-- what a built-in exception class is to its own ones -/
structure BaseX (B newId initId : String) (z : List Value) : Prop where
  fb : ExcBaseFacts B newId initId z
  ps : ∀ self, refuseLoop self "__setattr__" z = pure ()
  ob : z.contains (.type "object") = true
  ne : z.isEmpty = false
theorem base_VE : BaseX "ValueError" "ValueError.__new__" "ValueError.__init__" [.type "ValueError", .type "Exception", .type "BaseException", .type "object"] := ⟨F.excBase_ValueError, F.store_ValueError.passes, by decide +kernel, rfl⟩
theorem base_LE : BaseX "LookupError" "LookupError.__new__" "LookupError.__init__" [.type "LookupError", .type "Exception", .type "BaseException", .type "object"] := ⟨F.excBase_LookupError, F.store_LookupError.passes, by decide +kernel, rfl⟩
theorem rows_has {z : List Value} (X : String) (l : List Value) (h : rowsX z l = true) : l.contains (.type X) = z.contains (.type X) :=
  rowsX_ind (p := fun l => l.contains (.type X) = z.contains (.type X)) rfl (fun c r e => by rw [List.contains_cons, e]; rfl) l h
theorem rows_pass {z : List Value} (self : Value) (hz : refuseLoop self "__setattr__" z = pure ()) (l : List Value) (h : rowsX z l = true) : refuseLoop self "__setattr__" l = pure () :=
  rowsX_ind (p := fun l => refuseLoop self "__setattr__" l = pure ()) hz (fun c r e => by rw [refuseLoop_ref]; exact e) l h
theorem rows_ne {z : List Value} (hz : z.isEmpty = false) (l : List Value) (h : rowsX z l = true) : l.isEmpty = false := rowsX_ind (p := fun l => l.isEmpty = false) hz (fun c r e => rfl) l h
/-- what the written part says of a class of exceptions at C, made by the def at fI, that keeps what it is made of as f -/
structure ClsX (K : Frag) (mg : Str → Option Value) (x f : Str) (C fI : Addr) : Prop where
  gC : mg x = some (.ref C)
  cls : ∃ B newId initId z nm q N bs bm sn sub ab col dd k0 k1 k2 k3 k5, BaseX B newId initId z ∧ K.lookup C = some (excClassObj nm q C N bs bm true sn sub ab col dd k0 k1 k2 k3 k5 newId) ∧ rowsX z bm = true
  sa : findIn K (.ref C) "__setattr__" = some (some (.builtin "object.__setattr__"))
  ga : findIn K (.ref C) "__getattribute__" = some (some (.builtin "BaseException.__getattribute__"))
  gg : findIn K (.ref C) "__getattr__" = some none
  noN : findIn K (.ref C) f = some none
  iC : findIn K (.ref C) "__init__" = some (some (.ref fI))
  tC : typeIn K (.ref fI) = some (.type "function")
  kC : keepIn K (.ref C) = true
  exC : subIn K (.ref C) (.type "BaseException") = some true
  tyC : typeIn K (.ref C) = some (.type "type")
  hdC : hasDictIn K C = true
/-- what __init__ leaves of a fresh exception at x -/
structure DoneX (h h' : Heap) (f : Str) (x C dx t1 : Addr) (v : Value) : Prop where
  keep : ∀ b o, b ≠ x → h.get? b = some o → h'.get? b = some o
  obj : h'.get? x = some { cls := .ref C, dict := some dx, data := .fields #[.ref t1, .none, .none, .none, .bool false, .none] }
  dbig : h.objs.size ≤ dx
  dne : dx ≠ x
  ns : h'.Ns1 dx (fun y => if y = f then some v else none)
/-- what __init__ does of it -/
def InitX (prog : Program) (w : World) (K : Frag) (f : Str) (C fI : Addr) : Prop := ∀ (A : Around) (R : Result → Shared → Prop) (s : Shared) (x t0 : Addr) (v : Value), K.In s.heap → s.heap.NoLimit → s.heap.get? x = some (excO C t0) → K.lookup x = none → A.depth < recursionLimit →
  (∀ h' tk dx, DoneX s.heap h' f x C dx t0 v → R (.ok (.ret .none)) { s with heap := h', toks := tk }) → codeAny (model prog w) A (.call (.ref fI) ⟨[.ref x, v], []⟩) R s
structure MadeX (h h' : Heap) (f : Str) (e C d : Addr) (v : Value) : Prop where
  keep : ∀ b o, h.get? b = some o → h'.get? b = some o
  new : h.objs.size ≤ e
  obj : ∃ oe vs, h'.get? e = some oe ∧ oe.cls = .ref C ∧ oe.dict = some d ∧ oe.data = .fields vs ∧ vs[1]? = some .none
  dbig : h.objs.size ≤ d
  dne : d ≠ e
  ns : h'.Ns1 d (fun y => if y = f then some v else none)
theorem len_one (v : Value) : [v].length ≤ sizeLine := by rw [sizeLine_eq]; exact (by decide : 1 ≤ 16777216)
section
variable {prog : Program} {w : World} {A : Around} {R : Result → Shared → Prop} {s : Shared} {K : Frag} {mg : Str → Option Value} {x f : Str} {C fI : Addr}
theorem madeX (T : ClsX K mg x f C fI) (J : InitX prog w K f C fI) {v : Value} (X : K.In s.heap) (hlim : s.heap.NoLimit) (hroom : A.depth + 1 < recursionLimit)
    (hq : ∀ h' tk e d, MadeX s.heap h' f e C d v → R (.ok (.ret (.ref e))) { s with heap := h', toks := tk }) : codeAny (model prog w) A (.call (.ref C) ⟨[v], []⟩) R s := by
  obtain ⟨B, newId, initId, z, nm, q, N, bs, bm, sn, sub, ab, col, dd, k0, k1, k2, k3, k5, BX, hC, hbm⟩ := T.cls
  obtain ⟨hp, g, dr, tk, os⟩ := s
  have kk : ∀ b o, hp.get? b = some o → ((hp.push (kdv_tup [v])).push (excO C hp.objs.size)).get? b = some o := fun b o e => Heap.get?_push_of_some _ (Heap.get?_push_of_some _ e)
  have got : ((hp.push (kdv_tup [v])).push (excO C hp.objs.size)).get? (hp.objs.size + 1) = some (excO C hp.objs.size) := by heap_get
  have nx : K.lookup (hp.objs.size + 1) = none := by
    cases e : K.lookup (hp.objs.size + 1) with
    | none => rfl
    | some o => exact absurd (Nat.lt_of_succ_lt (Heap.lt_size (show hp.get? (hp.objs.size + 1) = some o from X _ _ e))) (Nat.lt_irrefl _)
  refine call_own BX.fb (fun Y => rows_has Y bm hbm) (X _ _ hC) (looks_findIn X T.iC) (fun self => bind_fn X self T.tC) (len_one v) (J _ _ ⟨(hp.push (kdv_tup [v])).push (excO C hp.objs.size), g, dr, tk, os⟩ _ _ v (X.keeps kk) (hlim.keeps kk) got nx hroom fun h' tk' dx M => ?_)
  have old : ∀ b o, hp.get? b = some o → h'.get? b = some o := fun b o e => M.keep b o (Nat.ne_of_lt (Nat.lt_succ_of_lt (Heap.lt_size e))) (kk b o e)
  have zz : hp.objs.size + 1 + 1 ≤ dx := by
    have y := M.dbig
    simpa only [Heap.size_push] using y
  exact ⟨rfl, hq h' tk' (hp.objs.size + 1) dx ⟨old, Nat.le_succ _, ⟨_, _, M.obj, rfl, rfl, rfl, rfl⟩, Nat.le_trans (Nat.le_trans (Nat.le_succ _) (Nat.le_succ _)) zz, M.dne, M.ns⟩⟩
end
end XFld
end PySem
namespace TG
open PySem PySem.Spec PyProof.Rows L2 PySem.XFld
theorem relO_one {v : V} {v' : Value} (r : RelV v v') (f g : Str) : RelO (List.lookup g [(f, v)]) (if g = f then some v' else none) := by
  by_cases hw : g = f
  · subst hw
    rw [if_pos rfl, show List.lookup g [(g, v)] = some v by simp [List.lookup]]
    exact r
  · rw [if_neg hw, show List.lookup g [(f, v)] = none by
      have qw : (g == f) = false := by simpa using hw
      simp [List.lookup, qw]]
    trivial
section
variable {X : Cx} {C fI : Addr} {x f : Str}
/-- C(e) -/
def tMkX (C : Addr) (f : Str) (ta : TA) : L2.St → Hp → XK → Prop := fun σ H Q => ta σ H fun vs H1 => ∃ v, vs = [v] ∧ ∀ d, H1 d = none → Q (.ref C) (some d) (upd H1 d (.xd [(f, v)]))
theorem pmk_X {a : Expr} {ta : TA} {p pos : Pos} {k : Nat} (T : ClsX X.K X.mg x f C fI) (J : InitX X.prog X.w X.K f C fI) (hr : Room (k + 2) X.A) (ha : PA X [a] ta) (hg : Gl X x := by rfl) (nd : (x == ("__debug__" : Str)) = false := by decide)
    (he : starEach (a :: []) X.env = (false, eval a X.env) :: starEach [] X.env := by rfl) (hpl : (backTo pos (starEach [] X.env)).any (·.1) = false := by rfl) :
    PMk X (.Call (.Name x p) [a] [] pos) (tMkX C f ta) := by
  intro pins s σ H Q I h
  refine wpAny_Call_Name_kw (ld_glob I hg T.gC (PySem.W.callWith_K (h₀ := X.base) I.ok.mod.kin T.kC (thn (ha.run pos pins s σ H _ I h) fun us s1 hh => ?_) he hpl) nd)
  obtain ⟨vs, H1, I1, r1, v, ev, q1⟩ := hh
  subst ev
  refine ⟨I1.kIn, ?_⟩
  obtain ⟨u, rfl, rv⟩ := vals1 r1
  show wpAny _ _ (call (.ref C) [u]) _ _ _
  have hlim := I1.nolimit
  obtain ⟨hp, g, dr, tk, os⟩ := s1
  refine wpAny_call (madeX T J I1.kIn hlim (by have := hr.dp; omega) fun h' tk' e d M => ?_)
  show MkP X pins σ Q (.ref e) ⟨h', g, dr, tk', os⟩
  obtain ⟨oe, fv, hoe, hc, hd, hdat, h1⟩ := M.obj
  have hns := M.ns
  obtain ⟨G', g1, g2⟩ := restrict h' fun b => decide (b ≠ e)
  have gk : ∀ b, b ≠ e → G'.get? b = h'.get? b := fun b hb => g1 b (decide_eq_true hb)
  have ge : G'.get? e = none := g2 e (by simp)
  have old : ∀ b o, hp.get? b = some o → G'.get? b = some o := fun b o q => (gk b (Nat.ne_of_lt (Nat.lt_of_lt_of_le (Heap.lt_size q) M.new))).trans (M.keep b o q)
  have ob : ObjOk X.prog X.w (upd H1 d (.xd [(f, v)])) G' d (.xd [(f, v)]) := ⟨_, hns.at (fun o q => (gk d M.dne).trans q), fun y => relO_one rv f y⟩
  have J2 : L2.Inv X pins σ (upd H1 d (.xd [(f, v)])) ⟨G', g, dr, tk', os⟩ := I1.laid (t' := tk') old M.dbig ob
  refine ⟨e, oe, fv, ⟨G', g, dr, tk', os⟩, _, .ref C, some d, rfl, J2, fun b o q => ?_, ge, hoe, ⟨hc, hd⟩, hdat, h1, ?_, rfl, I1.bare, raises_own T.exC T.tyC, q1 d (I1.hok.fresh M.dbig)⟩
  · by_cases hb : b = e
    · have q' : G'.get? b = some o := q
      rw [hb, ge] at q'; cases q'
    · exact (gk b hb).symm.trans q
  · rw [upd_ne (Ne.symm M.dne)]
    exact I1.hok.fresh M.new
/-- e.f, e the exception that the suite holds -/
def tByX (C : Addr) (f : Str) (a : Addr) (cls : Value) (d : Option Addr) (te : TE) : TE := fun σ H Q => te σ H fun x H1 => x = .ref a ∧ cls = .ref C ∧ ∃ (dd : Addr) (v : V), d = some dd ∧ H1 dd = some (.xd [(f, v)]) ∧ Q v H1
theorem pe_byX {a : Addr} {oe : Obj} {cls : Value} {d : Option Addr} {pn : List (Addr × Obj)} {e : Expr} {te : TE} {pos : Pos} (T : ClsX X.K X.mg x f C fI) (hz : Zc cls d oe) (hf : ∃ vs, oe.data = .fields vs) (he : PE (X.suite a ((a, oe) :: pn)) e te)
    (hb : attributeBase e f X.env (eval e X.env) = eval e X.env := by rfl) : PE (X.suite a ((a, oe) :: pn)) (.Attribute e f pos) (tByX C f a cls d te) := by
  refine ⟨fun pins s σ H Q I h => attr_of hb (thn (he.run pins s σ H _ I h) fun u s1 hh => ?_)⟩
  obtain ⟨y, H1, I1, rx, ex, rfl, dd, v, rfl, ea, q⟩ := hh
  subst ex
  obtain rfl : u = Value.ref a := rx
  obtain ⟨ha, _⟩ := I1.pin (a, oe) (List.mem_append_left _ List.mem_cons_self)
  obtain ⟨vs, hd⟩ := hf
  have ox : ObjOk X.prog X.w H1 s1.heap dd (.xd [(f, v)]) := I1.hok dd _ ea
  obtain ⟨mA, hns, hr⟩ := ox
  obtain ⟨od, ho, hl⟩ := lookIn_ns hns
  obtain ⟨u, hu, ru⟩ := RelO.some_of (v := v) (o := mA f) (by
    have := hr f
    rw [show List.lookup f [(f, v)] = some v by simp [List.lookup]] at this
    exact this)
  have J : PySem.W.InstAt s1.heap a oe C (some od) := ⟨ha, hz.1, by unfold PySem.W.notCls; rw [hd] <;> rfl, by rw [hz.2]; exact ho⟩
  exact HandSPX.exc_get I1.kIn J T.ga T.gg T.exC (PySem.W.findObj_own T.hdC T.noN rfl (by rw [hl, hu])) (handed_of ru) ⟨v, H1, I1.tok _, ru, q⟩
end
end TG

set_option Elab.async false
set_option linter.all false
set_option maxRecDepth 100000
set_option maxHeartbeats 4000000
/-! try with several clauses, some of them with a name -/
namespace TG
open PySem PySem.Spec PyProof.Rows L2
abbrev WishF := Ends → Value → Option Addr → L2.St → Hp → Prop
def wMix (K : PySem.W.Frag) (Wout : WX) (D : Ends) : List (Value × WishF) → WX
  | [] => Wout
  | (c, ww) :: r => fun cls d σ H => ∃ b, PySem.W.exmOne K cls c = some b ∧ (b = true → ww D cls d σ H) ∧ (b = false → wMix K Wout D r cls d σ H)
/-- behind a clause with a name -/
def unset (i : Nat) (D : Ends) : Ends := { nx := fun σ H => D.nx (σ.set i none) H, rt := D.rt, bk := fun σ H => D.bk (σ.set i none) H, ct := fun σ H => D.ct (σ.set i none) H }
inductive HdsMix (X : Cx) : List ExceptHandler → List (Value × WishF) → Prop
  | nil : HdsMix X [] []
  | plain {x : Str} {c : Value} {ts : Addr → Value → Option Addr → TS} {b₀ : Stmt} {suite : List Stmt} {np pos' : Pos} {hds : List ExceptHandler} {l : List (Value × WishF)} (hc : Names X x c)
      (hsu : ∀ (a : Addr) (oe : Obj) (cls : Value) (d : Option Addr) (pn : List (Addr × Obj)), Zc cls d oe → (∃ vs, oe.data = .fields vs) → PSs (X.suite a ((a, oe) :: pn)) (b₀ :: suite) (ts a cls d)) (r : HdsMix X hds l) :
      HdsMix X (.ExceptHandler (some (.Name x np)) none (b₀ :: suite) pos' :: hds) ((c, fun D cls d σ H => ∀ a, H a = none → ts a cls d D σ H) :: l)
  | named {x n : Str} {i : Nat} {c : Value} {ts : Addr → Value → Option Addr → TS} {b₀ : Stmt} {suite : List Stmt} {np pos' : Pos} {hds : List ExceptHandler} {l : List (Value × WishF)} (hi : X.N[i]? = some n) (hln : X.env.kindOf n = some .local) (hc : Names X x c)
      (hsu : ∀ (a : Addr) (oe : Obj) (cls : Value) (d : Option Addr) (pn : List (Addr × Obj)), Zc cls d oe → (∃ vs, oe.data = .fields vs) → PSs (X.suite a ((a, oe) :: pn)) (b₀ :: suite) (ts a cls d)) (r : HdsMix X hds l) :
      HdsMix X (.ExceptHandler (some (.Name x np)) (some n) (b₀ :: suite) pos' :: hds) ((c, fun D cls d σ H => ∀ a, H a = none → ts a cls d (unset i D) (σ.set i (some (.ref a))) H) :: l)
theorem ends_mix {X : Cx} (ok : X.Ok) {pins : List (Addr × Obj)} {D : Ends} {a : Addr} {q : Addr × Obj} {f : Flow} {s : Shared} (h : SP (X.suite a (q :: (X.pn ++ pins))) [] D f s) : SP X pins D f s := by
  cases f with
  | ret u =>
    obtain ⟨v, σ6, H6, S6, r6, q6⟩ := h
    exact ⟨v, σ6, H6, S6.unsuite ok, r6, q6⟩
  | next => obtain ⟨σ6, H6, S6, q6⟩ := h; exact ⟨σ6, H6, S6.unsuite ok, q6⟩
  | brk => obtain ⟨σ6, H6, S6, q6⟩ := h; exact ⟨σ6, H6, S6.unsuite ok, q6⟩
  | cont => obtain ⟨σ6, H6, S6, q6⟩ := h; exact ⟨σ6, H6, S6.unsuite ok, q6⟩
section
variable {X : Cx} {body : List Stmt} {h₀ : ExceptHandler} {hds : List ExceptHandler} {l : List (Value × WishF)} {pos : Pos} {tb : WX → TS} {Wout : WX}
theorem ps_try_mix (hs : X.stack = X.env :: X.outer) (hf : X.env.frame = some X.env.locals) (hN : X.N.Nodup) (tk : Takes X Wout)
    (hb : ∀ (W : WX) (pn : List (Addr × Obj)) (xe : Value → Shared → Prop), Takes (X.tr pn xe) W → PassesOwn (model X.prog X.w) X.A X.env xe → PSs (X.tr pn xe) body (tb W))
    (hh : HdsMix X (h₀ :: hds) l) : PS X (.Try body (h₀ :: hds) [] [] pos) (fun D σ H => tb (wMix X.K Wout D l) D σ H) := by
  refine ⟨fun pins s σ H D I h => wpAny_Try_except ?_⟩
  have ok := I.ok
  have frs1 : X.A.frames = some (X.env :: X.outer) := by rw [ok.frames, hs]
  refine wpAny_mono ((hb (wMix X.K Wout D l) (X.pn ++ pins) (fun e s₁ => wpAny (model X.prog X.w) X.A (noteFrame e X.env) (fun _ s₂ => wpAny (model X.prog X.w) X.A (setFlight e none) (fun _ s₃ =>
    wpAny (model X.prog X.w) X.A (handleBy e X.env (h₀ :: hds)) (SP X pins D) X.xe s₃) X.xe s₂) X.xe s₁) (fun u s' xx => ?_) PassesOwn.looking).run [] s σ H D (I.toTry _) h) (fun f s1 hsp => ?_) (fun _ _ z => z)
  · obtain ⟨a, B, sI, pins', σ', H', cls, d, rfl, I', nb, up, sky, na, os, ag, w⟩ := xx
    have I2 : L2.Inv X pins σ' H' sI := I'.ofTry ok
    rw [hs] at sky
    show wpAny (model X.prog X.w) X.A (noteFrame (.ref a) X.env) _ _ _
    refine Sky.land Zc.steady frs1 hf sky fun g3 fly up3 => ?_
    have I3 : L2.Inv X pins σ' H' { s' with heap := g3 } := I2.landed nb fly.1 (up.trans up3) os ag
    obtain ⟨oe3, vs3, at3, zc3, dt3⟩ := fly.there
    have nofr : ∀ {g : Heap} {o : Obj} {vs : Array Value}, g.FunFrames B (X.env :: X.outer) → g.get? a = some o → o.data = .fields vs → a ∉ frs (X.env :: X.outer) := fun ff e dd hm => by
      obtain ⟨_, o', e', nf⟩ := ff.mem hm
      cases e.symm.trans e'
      exact nf _ dd
    have no3 := nofr fly.2.2.1 at3 dt3
    have nL : a ≠ X.env.locals := fun z => no3 (List.mem_filterMap.mpr ⟨X.env, List.mem_cons_self, by rw [hf, z]⟩)
    have nF : a ∉ X.fs := fun hm => by
      obtain ⟨e, he, q⟩ := List.mem_filterMap.mp hm
      exact no3 (List.mem_filterMap.mpr ⟨e, List.mem_cons_of_mem _ he, q⟩)
    have S3 := I3.suite at3 dt3 na nL nF
    have ty3 : PySem.W.Looks (model X.prog X.w) g3 (typeOf (.ref a)) cls := fun A Q E s k q => wpAny_typeOf_ref (k _ _ at3) (by rw [zc3.1]; exact q)
    have nm3 : ∀ {x : Str} {c : Value} {np : Pos} {Q : Value → Shared → Prop} {E : Value → Shared → Prop}, Names X x c → Q c { s' with heap := g3 } → wpAny (model X.prog X.w) (X.A.mark (some (.ref a))) (eval (.Name x np) X.env) Q E { s' with heap := g3 } := fun {x c np Q E} hc q => by
      obtain ⟨y1, y2, y3 | ⟨y3, y4, y5⟩⟩ := hc
      · exact ld_glob (X := X.suite a ((a, oe3) :: (X.pn ++ pins))) S3 y1 y3 q y2
      · exact ld_blt (X := X.suite a ((a, oe3) :: (X.pn ++ pins))) S3 y1 y3 y4 q y5 y2
    have go : ∀ {hds' : List ExceptHandler} {l' : List (Value × WishF)}, HdsMix X hds' l' → wMix X.K Wout D l' cls d σ' H' → wpAny (model X.prog X.w) X.A (handleBy (.ref a) X.env hds') (SP X pins D) X.xe { s' with heap := g3 } := by
      intro hds' l' hk
      induction hk with
      | nil =>
        intro w
        refine wpAny_handleBy_nil ?_
        obtain ⟨k1, k2, k3, oe, vs, T, oT, ts', he, hz, hd, h1, hr⟩ := id fly
        have fin : wpAny (model X.prog X.w) X.A (setFlight (.ref a) X.env.frame) (fun _ s4 => wpAny (model X.prog X.w) X.A (throw (.ref a) : Sem Flow) (SP X pins D) X.xe s4) X.xe { s' with heap := g3 } := by
          rw [hf]
          exact HandSPX.setFlight_upZ fly fun h4 held up4 => wpAny_throw (tk _ _ ⟨a, B, sI, pins, σ', H', cls, d, rfl, I2, nb, (up.trans up3).trans up4, .inr (.inr (by rw [hs]; exact held)), na, os, ag, w⟩)
        unfold PySem.passOn
        refine wpAny_bind (wpAny_field he hd h1 ?_)
        rw [if_neg (show ¬ ((Value.ref T == Value.none) = true) from by simp)]
        first
          | exact wpAny_bind (wpAny_pure (wpAny_bind fin))
          | exact wpAny_bind fin
      | @plain x c ts b₀ suite np pos' hds2 l2 hc hsu r ih =>
        intro w
        obtain ⟨b, hb1, yes, no⟩ := w
        refine wpAny_handleBy_cons (codeAny_handlers_test (nm3 hc ((PySem.W.exm_one (M := model X.prog X.w) I3.kIn ty3 hb1).here ?_))) (by intro q; cases q)
        cases b with
        | false => exact ih (no rfl)
        | true =>
          refine codeAny_handlers_suite (HandSPX.lands_againZ fly fun g4 fly4 up4 => ?_)
          have I4 : L2.Inv X pins σ' H' { s' with heap := g4 } := I2.landed nb fly4.1 ((up.trans up3).trans up4) os ag
          obtain ⟨oe4, vs4, at4, zc4, dt4⟩ := fly4.there
          exact wpAny_mono ((hsu a oe4 cls d (X.pn ++ pins) zc4 ⟨_, dt4⟩).run [] _ _ H' _ (I4.suite at4 dt4 na nL nF) (yes rfl a na)) (fun f s6 q => ends_mix ok q) (fun _ _ z => False.elim z)
      | @named x n i c ts b₀ suite np pos' hds2 l2 hi hln hc hsu r ih =>
        intro w
        obtain ⟨b, hb1, yes, no⟩ := w
        refine wpAny_handleBy_cons (codeAny_handlers_test (nm3 hc ((PySem.W.exm_one (M := model X.prog X.w) I3.kIn ty3 hb1).here ?_))) (by intro q; cases q)
        cases b with
        | false => exact ih (no rfl)
        | true =>
          refine codeAny_handlers_suite_as (HandSPX.lands_againZ fly fun g4 fly4 up4 => ?_)
          have I4 : L2.Inv X pins σ' H' { s' with heap := g4 } := I2.landed nb fly4.1 ((up.trans up3).trans up4) os ag
          obtain ⟨oe4, vs4, at4, zc4, dt4⟩ := fly4.there
          refine store_ok (X := X.suite a ((a, oe4) :: (X.pn ++ pins))) (v := .ref a) (I4.suite at4 dt4 na nL nF) hN hi (.inl hln) rfl (fun s5 S5 => ?_) (.inr hln)
          refine wpAny_mono ((hsu a oe4 cls d (X.pn ++ pins) zc4 ⟨_, dt4⟩).run [] s5 _ H' _ S5 (yes rfl a na)) (fun f s6 q => ?_) (fun _ _ z => False.elim z)
          have q := ends_mix ok q
          have goes : ∀ {σ6 : L2.St} {H6 : Hp} {Q : Shared → Prop}, L2.Inv X pins σ6 H6 s6 → (∀ s7, L2.Inv X pins (σ6.set i none) H6 s7 → Q s7) → wpAny (model X.prog X.w) X.A (do bindName X.env n .none; unbindBehindTheSuite X.env n pos') (fun _ s7 => Q s7) X.xe s6 := fun S6 hq => gone_ok S6 hN hi hln hq
          cases f with
          | ret u =>
            obtain ⟨v6, σ6, H6, S6, r6, q6⟩ := q
            exact goes S6 fun s7 J7 => ⟨_, _, _, J7, r6, q6⟩
          | next => obtain ⟨σ6, H6, S6, q6⟩ := q; exact goes S6 fun s7 J7 => ⟨_, _, J7, q6⟩
          | brk => obtain ⟨σ6, H6, S6, q6⟩ := q; exact goes S6 fun s7 J7 => ⟨_, _, J7, q6⟩
          | cont => obtain ⟨σ6, H6, S6, q6⟩ := q; exact goes S6 fun s7 J7 => ⟨_, _, J7, q6⟩
    exact go hh w
  · cases f with
    | ret u => obtain ⟨v, σ', H', I', r, q⟩ := hsp; exact ⟨v, σ', H', I'.ofTry ok, r, q⟩
    | next => obtain ⟨σ', H', I', q⟩ := hsp; exact wpAny_execs_nil ⟨σ', H', I'.ofTry ok, q⟩
    | brk => obtain ⟨σ', H', I', q⟩ := hsp; exact ⟨σ', H', I'.ofTry ok, q⟩
    | cont => obtain ⟨σ', H', I', q⟩ := hsp; exact ⟨σ', H', I'.ofTry ok, q⟩
end
end TG

set_option Elab.async false
set_option linter.all false
set_option maxRecDepth 100000
set_option maxHeartbeats 4000000
namespace PySem
namespace XFld
open PySem.W PySem.Calls PyProof.Rows PySem.HandSPX
/-! def __init__(self, number): self.number = number -/
def anumber (p1 p2 : Pos) : Arguments := { posonlyargs := [], args := [{ arg := "self", annotation := none, pos := p1 }, { arg := "number", annotation := none, pos := p2 }], vararg := none, kwonlyargs := [], kw_defaults := [], kwarg := none, defaults := [] }
def bnumber (q1 q2 q3 q4 : Pos) : List Stmt := [.Assign [.Attribute (.Name "self" q1) "number" q2] (.Name "number" q3) q4]
def snumber : Scope := { kind := .function, names := [(PySem.Str.ofString "self", .local), (PySem.Str.ofString "number", .local)], isGenerator := false, isCoroutine := false, more := [] }
theorem nmnumber {M : Model} {s : Shared} {name : Str} {L a : Addr} {cd : Value} {m : Str → Option Value} {x : Str} {pos : Pos} {v : Value} {Q : Value → Shared → Prop} {A : Around} {E : Value → Shared → Prop} (hn : s.heap.Ns L m) (hv : m x = some v) (h : Q v s)
    (hk : snumber.kind = .function := by rfl) (hl : (envOfC name snumber L a cd).kindOf x = some .local := by rfl) (hd : (x == ("__debug__" : Str)) = false := by decide) : wpAny M A (eval (.Name x pos) (envOfC name snumber L a cd)) Q E s := wpAny_Name (wpAny_loadName_local hk hl hn hv h) hd
theorem initnumber {prog : Program} {w : World} {K : Frag} {mg : Str → Option Value} {x : Str} {C fI : Addr} {args : Arguments} {body : List Stmt} {scope : Scope} {qn : Str} {oc kV doc pm cdv ct : Value} {od an : Option Addr} {osl : Array (Option Value)} (T : ClsX K mg x "number" C fI)
    (ho : K.lookup fI = some ⟨oc, od, .func (fnOf "__init__" qn args body scope .none kV doc pm an cdv ct), osl⟩) (hcd : codeIn K cdv qn = true) (hA : ∃ p1 p2, args = anumber p1 p2) (hB : ∃ q1 q2 q3 q4, body = bnumber q1 q2 q3 q4) (hS : scope = snumber) : InitX prog w K "number" C fI := by
  intro A R s y t0 v X hlim hx hnx hroom hq
  obtain ⟨p1, p2, rfl⟩ := hA
  obtain ⟨q1, q2, q3, q4, rfl⟩ := hB
  subst hS
  obtain ⟨B, newId, initId, z, nm, q, N, bs, bm, sn, sub, ab, col, dd, k0, k1, k2, k3, k5, BX, hC, hbm⟩ := T.cls
  have hcl : clsIn K C = some { name := nm, bases := bs, mro := .ref C :: bm, ns := N, qualname := q, hasDict := true, slotNames := sn, subclasses := sub, abstract := ab, collection := col, hasDel := false } := by unfold clsIn; rw [hC] <;> rfl
  have hbm2 : rowsX z (.ref C :: bm) = true := hbm
  refine Att.call_fn (binds := [("self", .ref y), ("number", v)]) X hlim ho hcd hroom (BindsTo.of_eq (by first | rfl | with_unfolding_all rfl)) (by first | rfl | decide | with_unfolding_all rfl) (fun s₁ IC => ?_) rfl rfl rfl
  obtain ⟨h₁, tk₁, rfl⟩ := IC.toInCall.same
  have k : ∀ b o, s.heap.get? b = some o → h₁.get? b = some o := IC.toInCall.keep
  have hn := IC.toInCall.ns
  show wpAny _ _ (execs _ _) _ _ _
  refine wpAny_execs_cons (plainObj_wpAny_Assign_Attribute ?_)
  refine nmnumber (v := v) hn (by first | rfl | with_unfolding_all rfl | kernel_rfl) (nmnumber (v := .ref y) hn (by first | rfl | with_unfolding_all rfl | kernel_rfl) ?_)
  refine set_plain (X.keeps k) (ox := excO C t0) (od := none) ⟨k _ _ hx, rfl, rfl, trivial⟩ T.sa ?_
  refine osaX (X.keeps k) (k _ _ hx) hcl (rows_pass _ (BX.ps _) _ hbm2) ((rows_has "object" _ hbm2).trans BX.ob) (rows_ne BX.ne _ hbm2) rfl T.noN (fun h₃ tk₃ dx k₃ dn dne hx₃ hn₃ => ?_)
  show wpAny _ _ (execs _ _) _ _ _
  have z : s.heap.objs.size < h₁.objs.size := hn.lt
  exact wpAny_execs_nil (hq h₃ tk₃ dx ⟨fun b o hb e => k₃ b o hb (k b o e), hx₃, Nat.le_of_lt (Nat.lt_of_lt_of_le z dn), dne, hn₃⟩)
end XFld
end PySem

set_option Elab.async false
set_option linter.all false
set_option maxRecDepth 100000
set_option maxHeartbeats 4000000
namespace PySem
namespace XFld
open PySem.W PySem.Calls PyProof.Rows PySem.HandSPX
/-! def __init__(self, wish): self.wish = wish -/
def awish (p1 p2 : Pos) : Arguments := { posonlyargs := [], args := [{ arg := "self", annotation := none, pos := p1 }, { arg := "wish", annotation := none, pos := p2 }], vararg := none, kwonlyargs := [], kw_defaults := [], kwarg := none, defaults := [] }
def bwish (q1 q2 q3 q4 : Pos) : List Stmt := [.Assign [.Attribute (.Name "self" q1) "wish" q2] (.Name "wish" q3) q4]
def swish : Scope := { kind := .function, names := [(PySem.Str.ofString "self", .local), (PySem.Str.ofString "wish", .local)], isGenerator := false, isCoroutine := false, more := [] }
theorem nmwish {M : Model} {s : Shared} {name : Str} {L a : Addr} {cd : Value} {m : Str → Option Value} {x : Str} {pos : Pos} {v : Value} {Q : Value → Shared → Prop} {A : Around} {E : Value → Shared → Prop} (hn : s.heap.Ns L m) (hv : m x = some v) (h : Q v s)
    (hk : swish.kind = .function := by rfl) (hl : (envOfC name swish L a cd).kindOf x = some .local := by rfl) (hd : (x == ("__debug__" : Str)) = false := by decide) : wpAny M A (eval (.Name x pos) (envOfC name swish L a cd)) Q E s := wpAny_Name (wpAny_loadName_local hk hl hn hv h) hd
theorem initwish {prog : Program} {w : World} {K : Frag} {mg : Str → Option Value} {x : Str} {C fI : Addr} {args : Arguments} {body : List Stmt} {scope : Scope} {qn : Str} {oc kV doc pm cdv ct : Value} {od an : Option Addr} {osl : Array (Option Value)} (T : ClsX K mg x "wish" C fI)
    (ho : K.lookup fI = some ⟨oc, od, .func (fnOf "__init__" qn args body scope .none kV doc pm an cdv ct), osl⟩) (hcd : codeIn K cdv qn = true) (hA : ∃ p1 p2, args = awish p1 p2) (hB : ∃ q1 q2 q3 q4, body = bwish q1 q2 q3 q4) (hS : scope = swish) : InitX prog w K "wish" C fI := by
  intro A R s y t0 v X hlim hx hnx hroom hq
  obtain ⟨p1, p2, rfl⟩ := hA
  obtain ⟨q1, q2, q3, q4, rfl⟩ := hB
  subst hS
  obtain ⟨B, newId, initId, z, nm, q, N, bs, bm, sn, sub, ab, col, dd, k0, k1, k2, k3, k5, BX, hC, hbm⟩ := T.cls
  have hcl : clsIn K C = some { name := nm, bases := bs, mro := .ref C :: bm, ns := N, qualname := q, hasDict := true, slotNames := sn, subclasses := sub, abstract := ab, collection := col, hasDel := false } := by unfold clsIn; rw [hC] <;> rfl
  have hbm2 : rowsX z (.ref C :: bm) = true := hbm
  refine Att.call_fn (binds := [("self", .ref y), ("wish", v)]) X hlim ho hcd hroom (BindsTo.of_eq (by first | rfl | with_unfolding_all rfl)) (by first | rfl | decide | with_unfolding_all rfl) (fun s₁ IC => ?_) rfl rfl rfl
  obtain ⟨h₁, tk₁, rfl⟩ := IC.toInCall.same
  have k : ∀ b o, s.heap.get? b = some o → h₁.get? b = some o := IC.toInCall.keep
  have hn := IC.toInCall.ns
  show wpAny _ _ (execs _ _) _ _ _
  refine wpAny_execs_cons (plainObj_wpAny_Assign_Attribute ?_)
  refine nmwish (v := v) hn (by first | rfl | with_unfolding_all rfl | kernel_rfl) (nmwish (v := .ref y) hn (by first | rfl | with_unfolding_all rfl | kernel_rfl) ?_)
  refine set_plain (X.keeps k) (ox := excO C t0) (od := none) ⟨k _ _ hx, rfl, rfl, trivial⟩ T.sa ?_
  refine osaX (X.keeps k) (k _ _ hx) hcl (rows_pass _ (BX.ps _) _ hbm2) ((rows_has "object" _ hbm2).trans BX.ob) (rows_ne BX.ne _ hbm2) rfl T.noN (fun h₃ tk₃ dx k₃ dn dne hx₃ hn₃ => ?_)
  show wpAny _ _ (execs _ _) _ _ _
  have z : s.heap.objs.size < h₁.objs.size := hn.lt
  exact wpAny_execs_nil (hq h₃ tk₃ dx ⟨fun b o hb e => k₃ b o hb (k b o e), hx₃, Nat.le_of_lt (Nat.lt_of_lt_of_le z dn), dne, hn₃⟩)
end XFld
end PySem

set_option Elab.async false
set_option linter.all false
set_option maxRecDepth 100000
set_option maxHeartbeats 4000000
/-! raise C(e); try with clauses that read what is kept -/
namespace TG
open PySem PySem.Spec PyProof.Rows L2 PySem.XFld
def sRaiseX (c : Str) (a : Cmp TG.W) : Stm := fun ρ s => ebS (a ρ s) ρ fun w ρ s => match w with | .d x => .exc c (some x) ρ s | .r _ => .no
structure ExcX (P : Program) (w : World) (K : PySem.W.Frag) (mg : Str → Option Value) (cl : Str → Option Addr) (c : Str) : Prop where
  ex : ∃ C fI, cl c = some C ∧ ClsX K mg c (excFld c) C fI ∧ InitX P w K (excFld c) C fI
/-- what clauses do: the class met, what it keeps -/
abbrev Clause := Str → Option D → Stm
def hdFX (sub : Str → Str → Option Bool) (c : Str) : List (Str × Clause) → Option (Option Clause)
  | [] => some none
  | (h, b) :: r => match sub c h with
    | some true => some (some b)
    | some false => hdFX sub c r
    | none => none
def sTryX (sub : Str → Str → Option Bool) (b : Stm) (hs : List (Str × Clause)) : Stm := fun ρ s => match b ρ s with
  | .exc c x ρ' s' => (match hdFX sub c hs with | some (some k) => noExc (k c x ρ' s') | some none => .exc c x ρ' s' | none => .no)
  | r => r
def kPlain (k : Stm) : Clause := fun _ _ => k
def retFld : Option D → S → RS
  | some d, s => .ret (.w (.d d)) s
  | none, _ => .no
def retFldL (w : Str) : Option D → S → RS
  | some d, s => .ret (.own [.d (.str w), .d d]) s
  | none, _ => .no
/-- return e.f -/
def kReadF (i : Nat) (x : Str) : Clause := fun c y ρ s => if c = x ∧ i < ρ.length then retFld y s else .no
/-- return [w, e.f] -/
def kReadL (i : Nat) (x w : Str) : Clause := fun c y ρ s => if c = x ∧ i < ρ.length then retFldL w y s else .no
section
variable {X : Cx} {cl : Str → Option Addr} {Wx : WX} {c : Str} {p p2 pos : Pos} {e : Expr} {ea : Cmp TG.W} {k : Nat} {body : List Stmt} {b : Stm}
theorem js_raiseX (ok : XOk X Wx) (hc : X.calm = true) (hr : Room (k + 2) X.A) (F : ExcX X.prog X.w X.K X.mg cl c) (ha : JE cl Wx X e ea) (hg : Gl X c := by rfl) (nd : (c == ("__debug__" : Str)) = false := by decide)
    (he : starEach (e :: []) X.env = (false, eval e X.env) :: starEach [] X.env := by rfl) (hpl : (backTo p2 (starEach [] X.env)).any (·.1) = false := by rfl) :
    JS cl Wx X (.Raise (some (.Call (.Name c p) [e] [] p2)) none pos) (sRaiseX c ea) := by
  obtain ⟨C, fI, h1, T, J⟩ := F.ex
  refine PS.weaken (ps_raise hc ok.tk (pmk_X T J hr (pa_cons ha pa_nil he) hg nd he hpl)) fun E σ H ⟨H0, m, ow, s, ρ, cx, h⟩ => ?_
  refine ⟨H0, m, ow, s, ρ, cx, RunS.ofE cx h fun w s1 v H1 H1' m1 g cx1 rr h2 => ⟨v, rfl, fun d hd => ?_⟩⟩
  cases w with
  | r n => exact h2.elim
  | d x =>
    have al : GoE H1 H1' m1 (upd H1 d (.xd [(excFld c, v)])) (upd H1' d (.xd [(excFld c, v)])) m1 := Go.alloc cx1.st hd
    exact h2 _ _ _ _ _ _ _ al.lift (cx1.go al (cx1.st.alloc hd)) ⟨C, d, v, h1, rfl, rfl, upd_same, Rep.mono (same_upd (cx1.st.h0 hd)) rr⟩
/-- the clauses -/
inductive HdJX (cl : Str → Option Addr) (X : Cx) : List ExceptHandler → List (Str × Clause) → Prop
  | nil : HdJX cl X [] []
  | plain {x : Str} {b₀ : Stmt} {suite : List Stmt} {np pos' : Pos} {hds : List ExceptHandler} {k : Stm} {l : List (Str × Clause)} (hx : ∃ C, cl x = some C ∧ X.mg x = some (.ref C)) (hg : Gl X x) (nd : (x == ("__debug__" : Str)) = false)
      (hs : ∀ (a : Addr) (oe : Obj) (pn : List (Addr × Obj)), XOk (X.suite a ((a, oe) :: pn)) W0 → JB cl W0 (X.suite a ((a, oe) :: pn)) (b₀ :: suite) k) (r : HdJX cl X hds l) :
      HdJX cl X (.ExceptHandler (some (.Name x np)) none (b₀ :: suite) pos' :: hds) ((x, kPlain k) :: l)
  | fld {x n f : Str} {i : Nat} {np pos' q1 q2 q3 : Pos} {hds : List ExceptHandler} {l : List (Str × Clause)} (F : ExcX X.prog X.w X.K X.mg cl x) (hf : excFld x = f) (hi : X.N[i]? = some n) (hln : X.env.kindOf n = some .local) (hv : Vis X.env.scope n) (hg : Gl X x) (nd : (x == ("__debug__" : Str)) = false) (nn : (n == ("__debug__" : Str)) = false) (nc : (n == ("__classdict__" : Str)) = false)
      (hb : attributeBase (.Name n q1) f X.env (eval (.Name n q1) X.env) = eval (.Name n q1) X.env) (r : HdJX cl X hds l) :
      HdJX cl X (.ExceptHandler (some (.Name x np)) (some n) [.Return (some (.Attribute (.Name n q1) f q2)) q3] pos' :: hds) ((x, kReadF i x) :: l)
  | fldL {x n f z : Str} {i : Nat} {j : Nat} {np pos' q1 q2 q3 q4 q5 : Pos} {hds : List ExceptHandler} {l : List (Str × Clause)} (F : ExcX X.prog X.w X.K X.mg cl x) (hf : excFld x = f) (hi : X.N[i]? = some n) (hln : X.env.kindOf n = some .local) (hv : Vis X.env.scope n) (hg : Gl X x) (nd : (x == ("__debug__" : Str)) = false) (nn : (n == ("__debug__" : Str)) = false) (nc : (n == ("__classdict__" : Str)) = false)
      (hb : attributeBase (.Name n q1) f X.env (eval (.Name n q1) X.env) = eval (.Name n q1) X.env)
      (hs1 : starEach [.Constant (.str z) j q4, .Attribute (.Name n q1) f q2] X.env = (false, eval (.Constant (.str z) j q4) X.env) :: starEach [.Attribute (.Name n q1) f q2] X.env) (hs2 : starEach [.Attribute (.Name n q1) f q2] X.env = (false, eval (.Attribute (.Name n q1) f q2) X.env) :: starEach [] X.env) (r : HdJX cl X hds l) :
      HdJX cl X (.ExceptHandler (some (.Name x np)) (some n) [.Return (some (.List [.Constant (.str z) j q4, .Attribute (.Name n q1) f q2] q5)) q3] pos' :: hds) ((x, kReadL i x z) :: l)
/-- what a clause wishes, when what it does is known -/
def okFor (K : PySem.W.Frag) (cl : Str → Option Addr) (ww : WishF) (k : Clause) : Prop := ∀ (D : Ends) (c : Str) (x : Option TG.D) (cv : Value) (dd : Option Addr) (σ : L2.St) (H0 H : Hp) (m ow : List Addr) (s : S) (ρ : Rho),
  Ctx K cl H0 H m ow s σ ρ → ExcR K cl H0 H cv dd c x → RunS K cl W0 H0 H m ow D (noExc (k c x ρ s)) → ww D cv dd σ H
inductive HdRX (K : PySem.W.Frag) (cl : Str → Option Addr) : List (Str × Clause) → List (Value × WishF) → Prop
  | nil : HdRX K cl [] []
  | cons {x : Str} {k : Clause} {C : Addr} {ww : WishF} {l r} (h : cl x = some C) (q : okFor K cl ww k) (z : HdRX K cl l r) : HdRX K cl ((x, k) :: l) ((.ref C, ww) :: r)
theorem set_at {σ : L2.St} {i : Nat} {v : Option V} (h : i < σ.length) : (σ.set i v)[i]? = some v := by simp [h]
theorem HdJX.ok (nd : X.N.Nodup) : ∀ {hds l}, HdJX cl X hds l → ∃ r, HdsMix X hds r ∧ HdRX X.K cl l r
  | _, _, .nil => ⟨[], .nil, .nil⟩
  | _, _, .plain (k := kk) hx hg n hs q => by
    obtain ⟨C, h1, h2⟩ := hx
    obtain ⟨r, h3, h4⟩ := q.ok nd
    refine ⟨_, .plain (ts := fun _ _ _ => Sof X.K cl W0 kk) ⟨hg, n, .inl h2⟩ (fun a oe cls d pn _ _ => hs a oe pn ⟨fun u s' ⟨a, B, sI, pins, σ, H, cls, d, e, I, nb, up, sky, na, os, ag, z⟩ => z.elim, PassesOwn.never, nd⟩) h3, .cons h1 (fun D c x cv dd σ H0 H m ow s ρ cx ex h a ha => ?_) h4⟩
    exact ⟨H0, m, ow, s, ρ, cx, RunS.noExc h⟩
  | _, _, .fld (i := i) (x := x) F hf hi hln hv hg n nn nc hb q => by
    subst hf
    obtain ⟨C, fI, h1, T, J⟩ := F.ex
    obtain ⟨r, h3, h4⟩ := q.ok nd
    refine ⟨_, .named (i := i) (ts := fun a cls d => tRet (tByX C (excFld x) a cls d (tVar i))) hi hln ⟨hg, n, .inl T.gC⟩ (fun a oe cls d pn hz hf => pss_one (ps_ret (pe_byX T hz hf (pe_var hi hv nn nc) hb))) h3, .cons h1 (fun D c y cv dd σ H0 H m ow s ρ cx ex h a ha => ?_) h4⟩
    have hh : RunS X.K cl W0 H0 H m ow D (noExc (if c = x ∧ i < ρ.length then retFld y s else .no)) := h
    clear h
    by_cases hc : c = x ∧ i < ρ.length
    · rw [if_pos hc] at hh
      obtain ⟨rfl, hi2⟩ := hc
      cases y with
      | none => exact hh.elim
      | some y =>
        obtain ⟨C', d, v, e1, e2, e3, e4, e5⟩ := ex
        cases h1.symm.trans e1
        subst e2 e3
        refine ⟨.ref a, set_at (by rw [cx.en.len]; exact hi2), rfl, rfl, d, v, rfl, cx.st.sub _ _ e4, ?_⟩
        exact hh v H0 H m ow Go.refl cx.st e5
    · rw [if_neg hc] at hh
      exact hh.elim
  | _, _, .fldL (i := i) (x := x) (z := z) F hf hi hln hv hg n nn nc hb hs1 hs2 q => by
    subst hf
    obtain ⟨C, fI, h1, T, J⟩ := F.ex
    obtain ⟨r, h3, h4⟩ := q.ok nd
    refine ⟨_, .named (i := i) (ts := fun a cls d => tRet (tLst (tCons (tC (.str z)) (tCons (tByX C (excFld x) a cls d (tVar i)) tNil)))) hi hln ⟨hg, n, .inl T.gC⟩ (fun a oe cls d pn hz hf => pss_one (ps_ret (pe_lst (pa_cons pe_str (pa_cons (pe_byX T hz hf (pe_var hi hv nn nc) hb) pa_nil hs2) hs1)))) h3, .cons h1 (fun D c y cv dd σ H0 H m ow s ρ cx ex h a ha => ?_) h4⟩
    have hh : RunS X.K cl W0 H0 H m ow D (noExc (if c = x ∧ i < ρ.length then retFldL z y s else .no)) := h
    clear h
    by_cases hc : c = x ∧ i < ρ.length
    · rw [if_pos hc] at hh
      obtain ⟨rfl, hi2⟩ := hc
      cases y with
      | none => exact hh.elim
      | some y =>
        obtain ⟨C', d, v, e1, e2, e3, e4, e5⟩ := ex
        cases h1.symm.trans e1
        subst e2 e3
        refine ⟨.ref a, set_at (by rw [cx.en.len]; exact hi2), rfl, rfl, d, v, rfl, cx.st.sub _ _ e4, (by show 2 ≤ sizeLine; decide), fun p hp => ?_⟩
        exact hh (.ref p) H0 (upd H p (.lst [.str z, v])) m ow (Go.fresh hp).lift (cx.st.fresh hp) ⟨p, _, rfl, .inr hp, upd_same, cx.st.h0 hp, cx.st.notM hp, .cons .str (.cons e5 .nil)⟩
    · rw [if_neg hc] at hh
      exact hh.elim
theorem mix_of {K : PySem.W.Frag} {sub : Str → Str → Option Bool} (hsub : SubOk K cl sub) {E : Ends} {c : Str} {x : Option TG.D} {ρ : Rho} {s : S} {cv : Value} {dd : Option Addr} {σ : L2.St} {H0 H : Hp} {m ow : List Addr} {C : Addr} (hC : cl c = some C) (hcv : cv = .ref C) (cx : Ctx K cl H0 H m ow s σ ρ) (ex : ExcR K cl H0 H cv dd c x) :
    ∀ {l r}, HdRX K cl l r → RunS K cl Wx H0 H m ow E (match hdFX sub c l with | some (some k) => TG.noExc (k c x ρ s) | some none => .exc c x ρ s | none => .no) → wMix K Wx E r cv dd σ H
  | _, _, .nil, h => h _ _ _ _ _ _ _ Go.refl cx ex
  | _, _, .cons (x := y) (k := k) (C := C') (l := l) hy qq z, h => by
    unfold hdFX at h
    cases e : sub c y with
    | none => rw [e] at h; exact h.elim
    | some b =>
      rw [e] at h
      refine ⟨b, by rw [hcv]; exact hsub c y b C C' e hC hy, fun hb => ?_, fun hb => ?_⟩
      · subst hb
        exact qq E c x cv dd σ H0 H m ow s ρ cx ex (by
          have h : RunS K cl Wx H0 H m ow E (noExc (k c x ρ s)) := h
          revert h
          generalize k c x ρ s = rr
          intro h
          cases rr <;> exact h)
      · subst hb
        exact mix_of hsub hC hcv cx ex z h
theorem js_tryX {h₀ : ExceptHandler} {hds : List ExceptHandler} {l : List (Str × Clause)} {sub : Str → Str → Option Bool} (ok : XOk X Wx) (hs : X.stack = X.env :: X.outer) (hf : X.env.frame = some X.env.locals) (hsub : SubOk X.K cl sub)
    (hb : ∀ (W : WX) (pn : List (Addr × Obj)) (xe : Value → Shared → Prop), XOk (X.tr pn xe) W → JB cl W (X.tr pn xe) body b) (hh : HdJX cl X (h₀ :: hds) l) : JS cl Wx X (.Try body (h₀ :: hds) [] [] pos) (sTryX sub b l) := by
  obtain ⟨r, h1, h2⟩ := hh.ok ok.nd
  refine PS.weaken (ps_try_mix hs hf ok.nd ok.tk (tb := fun W => Sof X.K cl W b) (fun W pn xe tk po => hb W pn xe ⟨tk, po, ok.nd⟩) h1) fun E σ H ⟨H0, m, ow, s, ρ, cx, h⟩ => ⟨H0, m, ow, s, ρ, cx, ?_⟩
  unfold sTryX at h
  cases e : b ρ s with
  | exc c x ρ' s' =>
    rw [e] at h
    intro cv dd σ' H0' H' m' ow' g cx' ex
    have h : RunS X.K cl Wx H0 H m ow E (match hdFX sub c l with | some (some k) => TG.noExc (k c x ρ' s') | some none => .exc c x ρ' s' | none => .no) := h
    have hC : ∃ C, cl c = some C ∧ cv = .ref C := by
      cases x with
      | none => exact ex
      | some y => obtain ⟨C, _, _, q1, q2, _⟩ := ex; exact ⟨C, q1, q2⟩
    obtain ⟨C, q1, q2⟩ := hC
    exact mix_of hsub q1 q2 cx' ex h2 (h.shift g)
  | nx ρ' s' => rw [e] at h; exact h
  | ret v s' => rw [e] at h; exact h
  | brk ρ' s' => rw [e] at h; exact h
  | cnt ρ' s' => rw [e] at h; exact h
  | no => rw [e] at h; exact h
end
end TG

set_option Elab.async false
set_option linter.all false
set_option maxRecDepth 100000
set_option maxHeartbeats 4000000
namespace PySem
namespace XFld
open PySem.W PySem.Calls PyProof.Rows PySem.HandSPX
/-! def __init__(self, row): self.row = row -/
def arow (p1 p2 : Pos) : Arguments := { posonlyargs := [], args := [{ arg := "self", annotation := none, pos := p1 }, { arg := "row", annotation := none, pos := p2 }], vararg := none, kwonlyargs := [], kw_defaults := [], kwarg := none, defaults := [] }
def brow (q1 q2 q3 q4 : Pos) : List Stmt := [.Assign [.Attribute (.Name "self" q1) "row" q2] (.Name "row" q3) q4]
def srow : Scope := { kind := .function, names := [(PySem.Str.ofString "self", .local), (PySem.Str.ofString "row", .local)], isGenerator := false, isCoroutine := false, more := [] }
theorem nmrow {M : Model} {s : Shared} {name : Str} {L a : Addr} {cd : Value} {m : Str → Option Value} {x : Str} {pos : Pos} {v : Value} {Q : Value → Shared → Prop} {A : Around} {E : Value → Shared → Prop} (hn : s.heap.Ns L m) (hv : m x = some v) (h : Q v s)
    (hk : srow.kind = .function := by rfl) (hl : (envOfC name srow L a cd).kindOf x = some .local := by rfl) (hd : (x == ("__debug__" : Str)) = false := by decide) : wpAny M A (eval (.Name x pos) (envOfC name srow L a cd)) Q E s := wpAny_Name (wpAny_loadName_local hk hl hn hv h) hd
theorem initrow {prog : Program} {w : World} {K : Frag} {mg : Str → Option Value} {x : Str} {C fI : Addr} {args : Arguments} {body : List Stmt} {scope : Scope} {qn : Str} {oc kV doc pm cdv ct : Value} {od an : Option Addr} {osl : Array (Option Value)} (T : ClsX K mg x "row" C fI)
    (ho : K.lookup fI = some ⟨oc, od, .func (fnOf "__init__" qn args body scope .none kV doc pm an cdv ct), osl⟩) (hcd : codeIn K cdv qn = true) (hA : ∃ p1 p2, args = arow p1 p2) (hB : ∃ q1 q2 q3 q4, body = brow q1 q2 q3 q4) (hS : scope = srow) : InitX prog w K "row" C fI := by
  intro A R s y t0 v X hlim hx hnx hroom hq
  obtain ⟨p1, p2, rfl⟩ := hA
  obtain ⟨q1, q2, q3, q4, rfl⟩ := hB
  subst hS
  obtain ⟨B, newId, initId, z, nm, q, N, bs, bm, sn, sub, ab, col, dd, k0, k1, k2, k3, k5, BX, hC, hbm⟩ := T.cls
  have hcl : clsIn K C = some { name := nm, bases := bs, mro := .ref C :: bm, ns := N, qualname := q, hasDict := true, slotNames := sn, subclasses := sub, abstract := ab, collection := col, hasDel := false } := by unfold clsIn; rw [hC] <;> rfl
  have hbm2 : rowsX z (.ref C :: bm) = true := hbm
  refine Att.call_fn (binds := [("self", .ref y), ("row", v)]) X hlim ho hcd hroom (BindsTo.of_eq (by first | rfl | with_unfolding_all rfl)) (by first | rfl | decide | with_unfolding_all rfl) (fun s₁ IC => ?_) rfl rfl rfl
  obtain ⟨h₁, tk₁, rfl⟩ := IC.toInCall.same
  have k : ∀ b o, s.heap.get? b = some o → h₁.get? b = some o := IC.toInCall.keep
  have hn := IC.toInCall.ns
  show wpAny _ _ (execs _ _) _ _ _
  refine wpAny_execs_cons (plainObj_wpAny_Assign_Attribute ?_)
  refine nmrow (v := v) hn (by first | rfl | with_unfolding_all rfl | kernel_rfl) (nmrow (v := .ref y) hn (by first | rfl | with_unfolding_all rfl | kernel_rfl) ?_)
  refine set_plain (X.keeps k) (ox := excO C t0) (od := none) ⟨k _ _ hx, rfl, rfl, trivial⟩ T.sa ?_
  refine osaX (X.keeps k) (k _ _ hx) hcl (rows_pass _ (BX.ps _) _ hbm2) ((rows_has "object" _ hbm2).trans BX.ob) (rows_ne BX.ne _ hbm2) rfl T.noN (fun h₃ tk₃ dx k₃ dn dne hx₃ hn₃ => ?_)
  show wpAny _ _ (execs _ _) _ _ _
  have z : s.heap.objs.size < h₁.objs.size := hn.lt
  exact wpAny_execs_nil (hq h₃ tk₃ dx ⟨fun b o hb e => k₃ b o hb (k b o e), hx₃, Nat.le_of_lt (Nat.lt_of_lt_of_le z dn), dne, hn₃⟩)
end XFld
end PySem

set_option Elab.async false
set_option linter.all false
set_option maxRecDepth 100000
set_option maxHeartbeats 4000000
/-! f(e, k = v) where exceptions are met -/
namespace TG
open PySem PySem.Spec PyProof.Rows L2
section
variable {X : Cx} {cl : Str → Option Addr} {Wx : WX} {e : Expr} {es : List Expr} {pos p : Pos} {el ek : Cmp TG.W} {k n : Nat} {x : Str} {ps ks : List Str} {f : Sem1} {kws : List Keyword} {pk : List Pk} {ds : List Int}
theorem je_callKS {el ek : Cmp (List TG.W)} (ok : XOk X Wx) (hr : Room k X.A) (F : FnAtK X.prog X.w X.K X.mg X.base cl k x ps f n ks pk ds) (ha : JA cl Wx X (e :: es) el) (hkw : JK cl Wx X kws ek) (hg : Gl X x := by rfl)
    (q1 : (backToKw pos (keywordEach kws X.env)).all (fun y => y.1.isSome) = true := by rfl) (q2 : (backToKw pos (keywordEach kws X.env)).filterMap (fun y => y.1) = ks := by rfl)
    (q3 : (x == Str.ofString "__debug__") = false := by decide) (q4 : starEach (e :: es) X.env = (false, eval e X.env) :: starEach es X.env := by rfl)
    (q5 : ((backTo pos (starEach (e :: es) X.env)).any (fun y => y.1) || (backToKw pos (keywordEach kws X.env)).any (fun y => y.1.isNone)) = false := by rfl) :
    JE cl Wx X (.Call (.Name x p) (e :: es) kws pos) (eCallK f n ks.length pk ds el ek) := by
  obtain ⟨a, fd, its, f1, f2, f3, f4⟩ := F.ex
  refine ⟨fun pins s0 σ H Q inv ⟨H0, m, ow, s, ρ, cx, h⟩ => ?_⟩
  refine wpAny_Call_Name_kw (ld_glob inv hg f1 (PySem.W.callWith_KW (h₀ := X.base) inv.ok.mod.kin f2 q1 (thn (ha.run pos pins s0 σ H (fun vs H1 => (Tof X.K cl (rrA X.K cl) Wx ek) σ H1 fun zs H2 => vs.length = n ∧ zs.length = ks.length ∧ spOf X.K cl f (pkV pk (ds.map V.int) vs zs) H2 Q (WE Wx σ)) inv ⟨H0, m, ow, s, ρ, cx, RunE.bind h fun us s1 vs H1 H1' m1 g st rr h2 => ⟨H1, m1, ow, s1, ρ, cx.go g st, ?_⟩⟩) fun us s1 ⟨vs, H1, I1, r, q⟩ => ?_) q5 q4) q3)
  · have h2 : RunE X.K cl (rrW X.K cl) Wx H1 H1' m1 σ Q ((ek ρ s1).bind fun ws s2 => if us.length = n ∧ ws.length = ks.length then (f (pkW pk (ds.map fun i => W.d (.int i)) us ws) s2).bind frzV else .no) := h2
    exact RunE.bind h2 fun ws s2 zs H2 H2' m2 g' st' rr' h3 => by
      split at h3
      · rename_i hl
        refine ⟨rr.length.trans hl.1, rr'.length.trans hl.2, ?_⟩
        exact call_run st' (pk_rep pk (ints_rep ds) (RepWs.mono g'.s0 g'.pre rr) rr') (call_frz st' h3)
      · exact h3.elim
  · refine thn (hkw.run pos pins s1 σ H1 _ I1 q) fun ws s2 ⟨zs, H2, I2, rz, l1, l2, qq⟩ => ⟨I2.kIn, ?_⟩
    rw [q2]
    have rr2 := f3.rel r rz
    refine wpAny_call (codeAny_mono (f4.run X.A X.stack s2 H2 ⟨us, ks.zip ws⟩ _ _ Q (WE Wx σ) hr I2.env0 (f3.to s2 us ws I2.kIn (r.length.symm.trans l1) (rz.length.symm.trans l2)) rr2 qq) fun r s' hq => ?_)
    cases r with
    | error e => exact passAt ok.tk σ pins H2 s2 e s' I2 hq
    | ok fl =>
      cases fl with
      | ret u => exact I2.after hq
      | next => exact False.elim hq
      | brk => exact False.elim hq
      | cont => exact False.elim hq
end
end TG

set_option Elab.async false
set_option linter.all false
set_option maxRecDepth 100000
set_option maxHeartbeats 4000000
/-! a call that reads an own list and hands back what holds no list -/
namespace TG
open PySem PySem.Spec PyProof.Rows L2
mutual
def D.noLst : TG.D → Bool
  | .non => true | .bl _ => true | .int _ => true | .str _ => true
  | .tup l => D.noLsts l
  | _ => false
def D.noLsts : List TG.D → Bool
  | [] => true
  | x :: r => D.noLst x && D.noLsts r
end
mutual
theorem Rep.nolist {K : PySem.W.Frag} {cl : Str → Option Addr} {H0 H1 : Hp} (k : ∀ a vs, H0 a = some (.tup vs) → H1 a = some (.tup vs)) {v : V} {d : TG.D} (h : Rep K cl H0 v d) (n : d.noLst = true) : Rep K cl H1 v d := match h with
  | .non => .non
  | .bl => .bl
  | .int => .int
  | .str => .str
  | .tup a b => .tup (k _ _ a) (Reps.nolist k b (by rw [D.noLst] at n; exact n))
  | .lst _ _ => by simp [D.noLst] at n
  | .scr _ _ => by simp [D.noLst] at n
  | .dic _ _ => by simp [D.noLst] at n
  | .ins _ _ _ => by simp [D.noLst] at n
theorem Reps.nolist {K : PySem.W.Frag} {cl : Str → Option Addr} {H0 H1 : Hp} (k : ∀ a vs, H0 a = some (.tup vs) → H1 a = some (.tup vs)) {v : List V} {d : List TG.D} (h : Reps K cl H0 v d) (n : D.noLsts d = true) : Reps K cl H1 v d := match h with
  | .nil => .nil
  | .cons a b => .cons (Rep.nolist k a (by rw [D.noLsts, Bool.and_eq_true] at n; exact n.1)) (Reps.nolist k b (by rw [D.noLsts, Bool.and_eq_true] at n; exact n.2))
end
inductive RepO (K : PySem.W.Frag) (cl : Str → Option Addr) (H0 H : Hp) (m : List Addr) : V → TG.W → Prop
  | w {v : V} {x : TG.W} (h : RepW K cl H0 m v x) : RepO K cl H0 H m v x
  | own {p : Addr} {vs : List V} {ds : List TG.D} (h : H p = some (.lst vs)) (r : Reps K cl H0 vs ds) (n : H0 p = none) (q : p ∉ m) : RepO K cl H0 H m (.ref p) (.d (.lst ds))
inductive RepOs (K : PySem.W.Frag) (cl : Str → Option Addr) (H0 H : Hp) (m : List Addr) : List V → List TG.W → Prop
  | nil : RepOs K cl H0 H m [] []
  | cons {v : V} {x : TG.W} {vs : List V} {xs : List TG.W} (a : RepO K cl H0 H m v x) (b : RepOs K cl H0 H m vs xs) : RepOs K cl H0 H m (v :: vs) (x :: xs)
def rrAO (K : PySem.W.Frag) (cl : Str → Option Addr) : RRT (List V) (List TG.W) := fun _ H0 H' m v x => RepOs K cl H0 H' m v x
instance {K : PySem.W.Frag} {cl : Str → Option Addr} : Early (rrAO K cl) := ⟨fun _ h => h⟩
section
variable {K : PySem.W.Frag} {cl : Str → Option Addr} {H0 H H1 H1' : Hp} {m m1 : List Addr} {v : V} {x : TG.W}
theorem RepO.mono (g : GoE H0 H m H1 H1' m1) (h : RepO K cl H0 H m v x) : RepO K cl H1 H1' m1 v x := by
  cases h with
  | w h => exact .w (RepW.mono g.s0 g.pre h)
  | own h r n q =>
    refine .own (g.fr _ _ h q (by simp)) (r.mono g.s0) (g.n0 _ (by rw [h]; simp) q (by simp) n) fun z => ?_
    rcases g.nm _ z with z | z | z
    · exact q z
    · cases z
    · rw [h] at z; cases z
/-- the own lists as they stand now -/
def upOwn (H0 H : Hp) (P : List Addr) : Hp := fun a => if a ∈ P then H a else H0 a
structure OwnP (H0 H : Hp) (m P : List Addr) : Prop where
  n : ∀ p ∈ P, H0 p = none
  q : ∀ p ∈ P, p ∉ m
  l : ∀ p ∈ P, ∃ vs, H p = some (.lst vs)
theorem up_same {P : List Addr} (o : OwnP H0 H m P) : Same H0 (upOwn H0 H P) := fun a x e => by
  unfold upOwn
  by_cases h : a ∈ P
  · rw [o.n a h] at e; cases e
  · rw [if_neg h]; exact e
theorem up_sub {P : List Addr} (s : Same H0 H) : Same (upOwn H0 H P) H := fun a x e => by
  unfold upOwn at e
  by_cases h : a ∈ P
  · rw [if_pos h] at e; exact e
  · rw [if_neg h] at e; exact s a x e
def isDat : TG.W → Bool | .d _ => true | .r _ => false
theorem own_reps : ∀ {vs : List V} {ws : List TG.W}, RepOs K cl H0 H m vs ws → ws.all isDat = true → ∃ P, OwnP H0 H m P ∧ ∀ P', (∀ p ∈ P, p ∈ P') → OwnP H0 H m P' → RepWs K cl (upOwn H0 H P') [] vs ws
  | _, _, .nil, _ => ⟨[], ⟨fun p h => (nomatch h), fun p h => (nomatch h), fun p h => (nomatch h)⟩, fun _ _ _ => .nil⟩
  | _, _, .cons a b, hd => by
    rw [List.all_cons, Bool.and_eq_true] at hd
    obtain ⟨P, o, k⟩ := own_reps b hd.2
    cases a with
    | w h =>
      refine ⟨P, o, fun P' hp o' => .cons ?_ (k P' hp o')⟩
      rename_i x xs v
      cases x with
      | r n => simp [isDat] at hd
      | d x => exact Rep.mono (up_same o') h
    | own h r n q =>
      rename_i xs p vs ds
      refine ⟨p :: P, ⟨fun a ha => ?_, fun a ha => ?_, fun a ha => ?_⟩, fun P' hp o' => .cons ?_ (k P' (fun a ha => hp a (.tail _ ha)) o')⟩
      · rcases List.mem_cons.mp ha with rfl | ha
        · exact n
        · exact o.n a ha
      · rcases List.mem_cons.mp ha with rfl | ha
        · exact q
        · exact o.q a ha
      · rcases List.mem_cons.mp ha with rfl | ha
        · exact ⟨_, h⟩
        · exact o.l a ha
      · refine Rep.lst ?_ (r.mono (up_same o'))
        unfold upOwn
        rw [if_pos (hp p (.head _))]
        exact h
end
def outO : Res RV → S → Res TG.W
  | .ok (.w (.d d)) [] => fun s => if d.noLst = true then .ok (.d d) s else .no
  | _ => fun _ => .no
def kCallO (f : Sem1) (ws : List TG.W) (s : S) : Res TG.W := if ws.all isDat = true then outO (f ws []) s else .no
def eCallO (f : Sem1) (a : Cmp (List TG.W)) : Cmp TG.W := fun ρ s => (a ρ s).bind (kCallO f)
def eOwnA (n : Nat) (a : Cmp (List TG.W)) : Cmp (List TG.W) := fun ρ s => match ρ[n]? with
  | some (.own l) => (match allData l with | some ds => (a ρ s).bind fun ws s1 => .ok (.d (.lst ds) :: ws) s1 | none => .no)
  | _ => .no
def JAO (cl : Str → Option Addr) (Wx : WX) (X : Cx) (e : List Expr) (c : Cmp (List TG.W)) : Prop := PA X e (Tof X.K cl (rrAO X.K cl) Wx c)
section
variable {X : Cx} {cl : Str → Option Addr} {Wx : WX} {e : Expr} {es : List Expr} {pos p p1 : Pos} {ea : Cmp TG.W} {el : Cmp (List TG.W)} {k : Nat} {x : Str} {ps : List Str} {f : Sem1}
theorem jao_nil : JAO cl Wx X [] eNil := PA.weaken pa_nil fun σ H Q ⟨H0, m, ow, s, ρ, cx, h⟩ => RunE.done (RR := rrAO X.K cl) h cx.st .nil
theorem jao_cons (ha : JE cl Wx X e ea) (hr : JAO cl Wx X es el) (hs : starEach (e :: es) X.env = (false, eval e X.env) :: starEach es X.env := by rfl) : JAO cl Wx X (e :: es) (eCons ea el) :=
  PA.weaken (pa_cons ha hr hs) fun σ H Q ⟨H0, m, ow, s, ρ, cx, h⟩ => ⟨H0, m, ow, s, ρ, cx, RunE.bind h fun x s1 v H1 H1' m1 g st rr h2 => ⟨H1, m1, ow, s1, ρ, cx.go g st, RunE.bind h2 fun y s2 u H2 H2' m2 g' st' rr' h3 =>
    RunE.done (RR := rrAO X.K cl) h3 st' (.cons (RepO.mono g' (.w rr)) rr')⟩⟩
theorem jao_own (n : Nat) (hr : JAO cl Wx X es el) (hN : X.N[n]? = some x := by rfl) (hv : Vis X.env.scope x := by first | exact Or.inl rfl | exact Or.inr (Or.inl rfl) | exact Or.inr (Or.inr rfl)) (hd : (x == ("__debug__" : Str)) = false := by decide)
    (hcd : (x == ("__classdict__" : Str)) = false := by decide) (hs : starEach (.Name x p1 :: es) X.env = (false, eval (.Name x p1) X.env) :: starEach es X.env := by rfl) : JAO cl Wx X (.Name x p1 :: es) (eOwnA n el) :=
  PA.weaken (pa_cons (pe_var hN hv hd hcd) hr hs) fun σ H Q ⟨H0, m, ow, s, ρ, cx, h⟩ => by
    unfold eOwnA at h
    split at h
    · rename_i l e0
      split at h
      · rename_i ds e1
        obtain ⟨p, vs, h1, h2, h3, h4⟩ := cx.en.slot n _ e0
        have own := cx.en.owns p h2
        refine ⟨.ref p, h1, H0, m, ow, s, ρ, cx, RunE.bind h fun ws s1 us H1 H1' m1 g st rr h5 => ?_⟩
        exact RunE.done (RR := rrAO X.K cl) h5 st (.cons (RepO.mono g (.own h3 (h4.ds e1) own.2.1 own.2.2)) rr)
      · exact h.elim
    · exact h.elim
theorem je_callO (ok : XOk X Wx) (hr : Room k X.A) (F : FnAt X.prog X.w X.K X.mg X.base cl k x ps f) (ha : JAO cl Wx X (e :: es) el) (hg : Gl X x := by rfl)
    (h1 : (x == Str.ofString "__debug__") = false := by decide) (h2 : starEach (e :: es) X.env = (false, eval e X.env) :: starEach es X.env := by rfl) (h3 : ((backTo pos (starEach es X.env)).any fun x => x.fst) = false := by rfl) :
    JE cl Wx X (.Call (.Name x p) (e :: es) [] pos) (eCallO f el) := by
  obtain ⟨a, fd, q1, q2, q3, q4⟩ := F.ex
  refine PE.weaken (pe_callS q4 hr hg q1 q2 q3 (fun σ => passAt ok.tk σ) ha h1 h2 h3) fun σ H Q ⟨H0, m, ow, s, ρ, cx, h⟩ => ⟨H0, m, ow, s, ρ, cx, ?_⟩
  have h : RunE X.K cl (rrW X.K cl) Wx H0 H m σ Q ((el ρ s).bind (kCallO f)) := h
  refine RunE.bind h fun ws s1 vs H1 H1' m1 g st rr h4 => ?_
  unfold kCallO at h4
  by_cases hd : ws.all isDat = true
  · rw [if_pos hd] at h4
    obtain ⟨P, o, kk⟩ := own_reps rr hd
    have reps := kk P (fun _ h => h) o
    generalize ef : f ws [] = fr at h4
    unfold outO at h4
    split at h4
    · rename_i d
      by_cases hn : d.noLst = true
      · rw [if_pos hn] at h4
        refine ⟨upOwn H1 H1' P, [], [], ws, ⟨up_sub st.sub, rfl, List.nodup_nil, fun n a c h => by simp at h⟩, reps, ?_⟩
        rw [ef]
        intro v H2 H2' m2 g2 st2 rv
        have rv : RepW X.K cl H2 m2 v (.d d) := rv
        have hl2 : ∀ p ∈ P, ∃ vs, H2 p = some (.lst vs) := fun p hp => by
          obtain ⟨vs, e⟩ := o.l p hp
          exact ⟨vs, g2.s0 _ _ (by unfold upOwn; rw [if_pos hp]; exact e)⟩
        have none2 : ∀ a, H1' a ≠ none → upOwn H1 H1' P a = none → H2 a = none := fun a ha hu => g2.n0 a ha (by simp) (by simp) hu
        have sub2 : Same (fun a => if a ∈ P then none else H2 a) H2' := fun a x e => by
          have e : (if a ∈ P then none else H2 a) = some x := e
          by_cases hp : a ∈ P
          · rw [if_pos hp] at e; cases e
          · rw [if_neg hp] at e; exact st2.sub _ _ e
        have s02 : Same H1 (fun a => if a ∈ P then none else H2 a) := fun a x e => by
          show (if a ∈ P then none else H2 a) = some x
          by_cases hp : a ∈ P
          · rw [o.n a hp] at e; cases e
          · rw [if_neg hp]
            exact g2.s0 _ _ (by unfold upOwn; rw [if_neg hp]; exact e)
        have kp : ∀ a x, H1' a = some x → H2' a = some x := fun a x e => g2.fr a x e (by simp) (by simp)
        refine h4 v (fun a => if a ∈ P then none else H2 a) H2' m1 ⟨s02, List.prefix_rfl, fun a x e _ _ => kp a x e, g2.dom, fun a ha h5 _ h6 => ?_, fun a h => .inl h, fun a h => .inl h⟩ ⟨sub2, st.len, st.nd, fun n a c e1 e2 => ?_⟩ ?_
        · show (if a ∈ P then none else H2 a) = none
          by_cases hp : a ∈ P
          · rw [if_pos hp]
          · rw [if_neg hp]
            exact none2 a ha (by unfold upOwn; rw [if_neg hp]; exact h6)
        · obtain ⟨z1, z2⟩ := st.cell n a c e1 e2
          have am : a ∈ m1 := List.mem_iff_getElem?.mpr ⟨n, e1⟩
          have np : a ∉ P := fun hp => o.q a hp am
          refine ⟨?_, z2.mono s02 List.prefix_rfl fun x e => kp a x e⟩
          show (if a ∈ P then none else H2 a) = none
          rw [if_neg np]
          exact none2 a z2.there (by unfold upOwn; rw [if_neg np]; exact z1)
        · refine Rep.nolist (fun a vs e => ?_) rv hn
          show (if a ∈ P then none else H2 a) = some (.tup vs)
          rw [if_neg fun hp => ?_]
          · exact e
          · obtain ⟨us, e2⟩ := hl2 a hp
            rw [e] at e2
            cases e2
      · rw [if_neg hn] at h4
        exact h4.elim
    · exact h4.elim
  · rw [if_neg hd] at h4
    exact h4.elim
end
end TG

set_option linter.all false
set_option maxRecDepth 100000
namespace TG
open PySem L2
def b_v_law_bag : Stm :=
  (sSeq (sSet 1 (eC (.int 977)))
  (sSeq (sFor (eSeq (eSl fSl (eVar 0) eNoPart (ePart (eC (.int 63))))) (tgName 2) (sSet 1 (eBin fMod (eBin fAdd (eBin fAdd (eBin fMul (eVar 1) (eC (.int 48271))) (eBin fMod (eVar 2) (eC (.int 2147483629)))) (eC (.int 11))) (eC (.int 2147483647)))))
  (sRetL (eLst (eCons (eFrz (eListOf (eCons (eSl fSl (eVar 0) eNoPart (ePart (eC (.int 63)))) eNil))) (eCons (eC (.int 0)) (eCons (eC (.int 0)) (eCons (eVar 1) eNil))))))))
def f_v_law_bag : Sem1 := runF 1 3 b_v_law_bag
def b_v_law_pull : Stm :=
  (sSeq (sIf (eAndT (eTest (eBin (fEq false) (eBin fIx (eVar 0) (eC (.int 2))) (eC (.int 0)))) (eTest (eBin fLt (eBin fIx (eVar 0) (eC (.int 1))) (eArgs (c1 fLen) (eCons (eBin fIx (eVar 0) (eC (.int 0))) eNil))))) (sSeq (sSet 2 (eBin fIx (eBin fIx (eVar 0) (eC (.int 0))) (eBin fIx (eVar 0) (eC (.int 1)))))
  (sSeq (sSetI (eVar 0) (eC (.int 1)) (eBin fAdd (eBin fIx (eVar 0) (eC (.int 1))) (eC (.int 1))))
  (sIf (eTest (eBin fGe (eVar 2) (eBin fPow (eC (.int 10)) (eC (.int 18))))) (sSetI (eVar 0) (eC (.int 2)) (eVar 2)) (sSetI (eVar 0) (eC (.int 3)) (eBin fMod (eBin fAdd (eBin fAdd (eBin fMul (eBin fIx (eVar 0) (eC (.int 3))) (eC (.int 69621))) (eBin fMul (eBin fMod (eVar 2) (eC (.int 2147483629))) (eC (.int 48271)))) (eC (.int 5))) (eC (.int 2147483647))))))) sNext)
  (sSeq (sIf (eTest (eBin fGt (eBin fIx (eVar 0) (eC (.int 2))) (eC (.int 0)))) (sSeq (sSet 3 (eBin fMod (eBin fIx (eVar 0) (eC (.int 2))) (eVar 1)))
  (sSeq (sSetI (eVar 0) (eC (.int 2)) (eBin fDiv (eBin fIx (eVar 0) (eC (.int 2))) (eVar 1)))
  (sRet (eVar 3)))) sNext)
  (sSeq (sSet 4 (eBin fIx (eVar 0) (eC (.int 3))))
  (sSeq (sSetI (eVar 0) (eC (.int 3)) (eBin fMod (eBin fAdd (eBin fAdd (eBin fMul (eVar 4) (eC (.int 39373))) (eBin fMul (eBin fDiv (eVar 4) (eC (.int 127773))) (eC (.int 31)))) (eC (.int 1013904223))) (eC (.int 2147483647))))
  (sRet (eBin fMod (eBin fAdd (eBin fDiv (eBin fIx (eVar 0) (eC (.int 3))) (eC (.int 97))) (eBin fMul (eBin fMod (eBin fIx (eVar 0) (eC (.int 3))) (eC (.int 8191))) (eC (.int 53)))) (eVar 1)))))))
def f_v_law_pull : Sem1 := runF 2 5 b_v_law_pull
def b_v_law_far : Stm :=
  (sSeq (sSet 1 (eBin fAdd (eBin fPow (eC (.int 10)) (eC (.int 9))) (eCall f_v_law_pull (eCons (eVar 0) (eCons (eBin fPow (eC (.int 10)) (eC (.int 9))) eNil)))))
  (sSeq (sIf (eTest (eBin (fEq false) (eCall f_v_law_pull (eCons (eVar 0) (eCons (eC (.int 2)) eNil))) (eC (.int 0)))) (sSet 1 (eBin fAdd (eVar 1) (eBin fPow (eC (.int 10)) (eC (.int 20))))) sNext)
  (sSeq (sIf (eTest (eBin (fEq false) (eCall f_v_law_pull (eCons (eVar 0) (eCons (eC (.int 2)) eNil))) (eC (.int 0)))) (sRet (eBin fSub (eUn fNeg (eC (.int 1))) (eVar 1))) sNext)
  (sRet (eVar 1)))))
def f_v_law_far : Sem1 := runF 1 2 b_v_law_far
def b_v_law_height : Stm :=
  (sRet (eBin fIx (eFrz (eLst (eCons (eCall f_v_law_pull (eCons (eVar 0) (eCons (eC (.int 4)) eNil))) (eCons (eCall f_v_law_pull (eCons (eVar 0) (eCons (eC (.int 12)) eNil))) (eCons (eBin fSub (eCall f_v_law_pull (eCons (eVar 0) (eCons (eC (.int 200)) eNil))) (eC (.int 100))) (eCons (eCall f_v_law_far (eCons (eVar 0) eNil)) eNil)))))) (eBin fMod (eBin fDiv (eCall f_v_law_pull (eCons (eVar 0) (eCons (eC (.int 9)) eNil))) (eC (.int 2))) (eC (.int 4)))))
def f_v_law_height : Sem1 := runF 1 1 b_v_law_height
def b_v_law_rim : Stm :=
  (sSeq (sSet 2 (eBin fAdd (eC (.int 3)) (eCall f_v_law_pull (eCons (eVar 0) (eCons (eBin fSub (eVar 1) (eC (.int 2))) eNil)))))
  (sSeq (sIf (eTest (eBin (fEq false) (eCall f_v_law_pull (eCons (eVar 0) (eCons (eC (.int 10)) eNil))) (eC (.int 0)))) (sSet 2 (eVar 1)) sNext)
  (sSeq (sSet 3 (eCall f_v_law_pull (eCons (eVar 0) (eCons (eC (.int 5)) eNil))))
  (sSeq (sSet 4 (eBin fIx (eFrz (eLst (eCons (eC (.int 4)) (eCons (eC (.int 9)) (eCons (eC (.int 2)) (eCons (eC (.int 30)) eNil)))))) (eCall f_v_law_pull (eCons (eVar 0) (eCons (eC (.int 4)) eNil)))))
  (sSeq (sIf (eTest (eBin (fEq false) (eVar 3) (eC (.int 0)))) (sRet (eArgs (c1 fTuple) (eCons (eFrz (eLc [5] (eRng1 (eCons (eVar 2) eNil)) (tgName 5) eYes (eCall f_v_law_height (eCons (eVar 0) eNil)))) eNil))) sNext)
  (sSeq (sIf (eTest (eBin (fEq false) (eVar 3) (eC (.int 1)))) (sRet (eArgs (c1 fTuple) (eCons (eFrz (eLc [5] (eRng1 (eCons (eVar 2) eNil)) (tgName 5) eYes (eC (.int 5)))) eNil))) sNext)
  (sRet (eArgs (c1 fTuple) (eCons (eFrz (eLc [5] (eRng1 (eCons (eVar 2) eNil)) (tgName 5) eYes (eCall f_v_law_pull (eCons (eVar 0) (eCons (eVar 4) eNil))))) eNil)))))))))
def f_v_law_rim : Sem1 := runF 2 6 b_v_law_rim
def b_v_law_drops : Stm :=
  (sSeq (sSet 1 (eBin fIx (eFrz (eLst (eCons (eC (.int 1)) (eCons (eC (.int 3)) (eCons (eC (.int 2)) (eCons (eBin fAdd (eC (.int 1)) (eCall f_v_law_pull (eCons (eVar 0) (eCons (eC (.int 9)) eNil)))) (eCons (eC (.int 5)) eNil))))))) (eCall f_v_law_pull (eCons (eVar 0) (eCons (eC (.int 5)) eNil)))))
  (sSeq (sSet 2 (eBin fIx (eFrz (eLst (eCons (eC (.int 1)) (eCons (eC (.int 3)) (eCons (eC (.int 9)) (eCons (eC (.int 100)) eNil)))))) (eCall f_v_law_pull (eCons (eVar 0) (eCons (eC (.int 4)) eNil)))))
  (sRet (eArgs (c1 fTuple) (eCons (eFrz (eLc [3] (eRng1 (eCons (eVar 1) eNil)) (tgName 3) eYes (eCall f_v_law_pull (eCons (eVar 0) (eCons (eVar 2) eNil))))) eNil)))))
def f_v_law_drops : Sem1 := runF 1 4 b_v_law_drops
def b_v_law_pair : Stm :=
  (sSeq (sSet 1 (eCall f_v_law_drops (eCons (eVar 0) eNil)))
  (sRet (eTup (eCons (eVar 1) (eCons (eCall f_v_law_pull (eCons (eVar 0) (eCons (eArgs (c1 fLen) (eCons (eVar 1) eNil)) eNil))) eNil)))))
def f_v_law_pair : Sem1 := runF 1 2 b_v_law_pair
def b_good_drops : Stm :=
  (sRet (eAndV (eChain fLe fLe (eC (.int 1)) (eArgs (c1 fLen) (eCons (eVar 0) eNil)) (eC (.int 9))) (eArgs (c1 fAll) (eCons (eFrz (eLc [1] (eSeq (eVar 0)) (tgName 1) eYes (eChain fLe fLe (eC (.int 0)) (eVar 1) (eC (.int 99))))) eNil))))
def f_good_drops : Sem1 := runF 1 2 b_good_drops
def b_good_foot : Stm :=
  (sRet (eAndV (eCall f_good_drops (eCons (eVar 0) eNil)) (eChain fLe fLt (eC (.int 0)) (eVar 1) (eArgs (c1 fLen) (eCons (eVar 0) eNil)))))
def f_good_foot : Sem1 := runF 2 2 b_good_foot
def b_Foot_init : Stm :=
  (sSeq (sIf (eNotT (eTest (eCall f_good_foot (eCons (eVar 1) (eCons (eVar 2) eNil))))) (sRaise0 "BadFoot") sNext)
  (sSeq (sFld "Foot" "drops" (eVar 0) (eVar 1))
  (sFld "Foot" "middle" (eVar 0) (eVar 2))))
def f_Foot_init : Sem1 := runF 3 3 b_Foot_init
def b_v_law_angle : Stm :=
  (sRet (eBin fIx (eFrz (eLst (eCons (eBin fSub (eCall f_v_law_pull (eCons (eVar 0) (eCons (eC (.int 60)) eNil))) (eC (.int 20))) (eCons (eCall f_v_law_far (eCons (eVar 0) eNil)) eNil)))) (eArgs (c1 fInt) (eCons (eBin (fEq false) (eCall f_v_law_pull (eCons (eVar 0) (eCons (eC (.int 5)) eNil))) (eC (.int 0))) eNil))))
def f_v_law_angle : Sem1 := runF 1 1 b_v_law_angle
def b_v_law_bad_rim : Stm :=
  (sSeq (sIf (eTest (eBin (fEq false) (eCall f_v_law_pull (eCons (eVar 0) (eCons (eC (.int 2)) eNil))) (eC (.int 0)))) (sRet (eSl fSl (eVar 1) eNoPart (ePart (eCall f_v_law_pull (eCons (eVar 0) (eCons (eC (.int 3)) eNil)))))) sNext)
  (sRet (eBin fAdd (eBin fMul (eBin fAdd (eVar 1) (eVar 1)) (eC (.int 16))) (eSl fSl (eVar 1) eNoPart (ePart (eC (.int 1)))))))
def f_v_law_bad_rim : Sem1 := runF 2 2 b_v_law_bad_rim
def b_v_law_spots : Stm :=
  (sRetL (eLc [4] (eRng1 (eCons (eArgs (c1 fLen) (eCons (eVar 1) eNil)) eNil)) (tgName 4) eYes (eTup (eCons (eBin fMod (eBin fSub (eBin fAdd (eVar 3) (eVar 4)) (eVar 2)) (eVar 0)) (eCons (eBin fIx (eVar 1) (eVar 4)) eNil)))))
def f_v_law_spots : Sem1 := runF 4 5 b_v_law_spots
def b_v_law_ride : Stm :=
  (sSeq (sSet 4 (eC .non))
  (sSeq (sFor (eSeq (eCall f_v_law_spots (eCons (eArgs (c1 fLen) (eCons (eVar 0) eNil)) (eCons (eVar 1) (eCons (eVar 2) (eCons (eVar 3) eNil)))))) (tgTup 2 (tgCons (tgName 5) (tgCons (tgName 6) tgNil))) (sIf (eOrT (eTest (eUn (fIsN false) (eVar 4))) (eTest (eBin fGt (eBin fSub (eBin fIx (eVar 0) (eVar 5)) (eVar 6)) (eVar 4)))) (sSet 4 (eBin fSub (eBin fIx (eVar 0) (eVar 5)) (eVar 6))) sNext))
  (sRet (eVar 4))))
def f_v_law_ride : Sem1 := runF 4 7 b_v_law_ride
def b_v_law_like (fr : Sem1) : Stm :=
  (sSeq (sIf (eOrT (eTest (eBin (fEq true) (eUn (fIsi "tuple") (eVar 1)) (eUn (fIsi "tuple") (eVar 0)))) (eTest (eBin (fEq true) (eUn (fIsi "list") (eVar 1)) (eUn (fIsi "list") (eVar 0))))) (sRet (eC (.bl false))) sNext)
  (sSeq (sIf (eNotT (eTest (eUn (fIsi2 "tuple" "list") (eVar 1)))) (sRet (eAndV (eBin (fEq false) (eUn (fIsi "bool") (eVar 0)) (eUn (fIsi "bool") (eVar 1))) (eBin (fEq false) (eVar 0) (eVar 1)))) sNext)
  (sRet (eAndV (eBin (fEq false) (eArgs (c1 fLen) (eCons (eVar 0) eNil)) (eArgs (c1 fLen) (eCons (eVar 1) eNil))) (eArgs (c1 fAll) (eCons (eFrz (eLc [2] (eRng1 (eCons (eArgs (c1 fLen) (eCons (eVar 1) eNil)) eNil)) (tgName 2) eYes (eCall fr (eCons (eBin fIx (eVar 0) (eVar 2)) (eCons (eBin fIx (eVar 1) (eVar 2)) eNil))))) eNil))))))
def f_v_law_like : Nat → Sem1
  | 0 => fun _ _ => .no
  | n + 1 => runF 2 3 (b_v_law_like (f_v_law_like n))
def b_is_rim : Stm :=
  (sRet (eChain fLe fLe (eC (.int 3)) (eArgs (c1 fLen) (eCons (eVar 0) eNil)) (eC (.int 48))))
def f_is_rim : Sem1 := runF 1 1 b_is_rim
def b_look_rim : Stm :=
  (sIf (eNotT (eTest (eCall f_is_rim (eCons (eVar 0) eNil)))) (sRaise0 "BadRim") sNext)
def f_look_rim : Sem1 := runF 1 1 b_look_rim
def b_touched : Stm :=
  (sSeq (sSetO 3 (eLst eNil))
  (sSeq (sFor (eEnum (eCons (eFld "Foot" "drops" (eVar 1)) eNil)) (tgTup 2 (tgCons (tgName 4) (tgCons (tgName 5) tgNil))) (sApp 3 (eTup (eCons (eBin fMod (eBin fSub (eBin fAdd (eVar 2) (eVar 4)) (eFld "Foot" "middle" (eVar 1))) (eVar 0)) (eCons (eVar 5) eNil)))))
  (sRetO 3)))
def f_touched : Sem1 := runF 3 6 b_touched
def b_lift_on : Stm :=
  (sRet (eArgs (c1 fMaxL) (eCons (eFrz (eLc [3, 4] (eSeq (eCall f_touched (eCons (eArgs (c1 fLen) (eCons (eVar 0) eNil)) (eCons (eVar 1) (eCons (eVar 2) eNil))))) (tgTup 2 (tgCons (tgName 3) (tgCons (tgName 4) tgNil))) eYes (eBin fSub (eBin fIx (eVar 0) (eVar 3)) (eVar 4)))) eNil)))
def f_lift_on : Sem1 := runF 3 5 b_lift_on
def b_lift : Stm :=
  (sSeq (sExpr (eCall f_look_rim (eCons (eVar 0) eNil)))
  (sRet (eCall f_lift_on (eCons (eVar 0) (eCons (eVar 1) (eCons (eVar 2) eNil))))))
def f_lift : Sem1 := runF 3 3 b_lift
def b_motion : Stm :=
  (sSeq (sExpr (eCall f_look_rim (eCons (eVar 0) eNil)))
  (sRet (eArgs (c1 fTuple) (eCons (eFrz (eLc [2] (eRng1 (eCons (eArgs (c1 fLen) (eCons (eVar 0) eNil)) eNil)) (tgName 2) eYes (eCall f_lift_on (eCons (eVar 0) (eCons (eVar 1) (eCons (eVar 2) eNil)))))) eNil))))
def f_motion : Sem1 := runF 2 3 b_motion
def b_v_law_told : Stm :=
  (sTry (subT [("BadFoot", "BadRim", false), ("BadRim", "BadRim", true)]) (sRet (eIf (eTest (eBin (fEq false) (eVar 0) (eC (.int 0)))) (eCall f_lift (eCons (eVar 1) (eCons (eVar 2) (eCons (eVar 3) eNil)))) (eCall f_motion (eCons (eVar 1) (eCons (eVar 2) eNil))))) (("BadRim", (sRet (eC (.str "BadRim")))) :: []))
def f_v_law_told : Sem1 := runF 4 4 b_v_law_told
noncomputable def b_law_k05 : Stm :=
  (sSeq (sSet 1 (eCell (eCallL f_v_law_bag (eCons (eVar 0) eNil))))
  (sSeq (sFor (eRng1 (eCons (eC (.int 3)) eNil)) (tgName 2) (sSeq (sSet 3 (eCall f_v_law_rim (eCons (eVar 1) (eCons (eBin fIx (eFrz (eLst (eCons (eC (.int 12)) (eCons (eC (.int 48)) (eCons (eC (.int 4)) eNil))))) (eCall f_v_law_pull (eCons (eVar 1) (eCons (eC (.int 3)) eNil)))) eNil))))
  (sSeq (sIf (eTest (eBin (fEq false) (eCall f_v_law_pull (eCons (eVar 1) (eCons (eC (.int 8)) eNil))) (eC (.int 0)))) (sSet 3 (eCall f_v_law_bad_rim (eCons (eVar 1) (eCons (eVar 3) eNil)))) sNext)
  (sSeq (sSetT (tgTup 2 (tgCons (tgName 4) (tgCons (tgName 5) tgNil))) (eCall f_v_law_pair (eCons (eVar 1) eNil)))
  (sSeq (sSet 6 (eMake "Foot" f_Foot_init (eCons (eVar 4) (eCons (eVar 5) eNil))))
  (sSeq (sSet 7 (eCall f_v_law_angle (eCons (eVar 1) eNil)))
  (sSeq (sSetT (tgTup 2 (tgCons (tgName 8) (tgCons (tgName 9) tgNil))) (eTup (eCons (eC (.str "BadRim")) (eCons (eC (.str "BadRim")) eNil))))
  (sSeq (sIf (eTest (eChain fLe fLe (eC (.int 3)) (eArgs (c1 fLen) (eCons (eVar 3) eNil)) (eC (.int 48)))) (sSeq (sSet 8 (eCall f_v_law_ride (eCons (eVar 3) (eCons (eVar 4) (eCons (eVar 5) (eCons (eVar 7) eNil))))))
  (sSeq (sSet 9 (eArgs (c1 fTuple) (eCons (eFrz (eLc [10] (eRng1 (eCons (eArgs (c1 fLen) (eCons (eVar 3) eNil)) eNil)) (tgName 10) eYes (eCall f_v_law_ride (eCons (eVar 3) (eCons (eVar 4) (eCons (eVar 5) (eCons (eVar 10) eNil))))))) eNil)))
  (sIf (eNotT (eTest (eCall (f_v_law_like 12) (eCons (eCallK f_lift 2 0 [.p 0, .p 1, .c 0] [0] (eCons (eVar 3) (eCons (eVar 6) eNil)) eNil) (eCons (eBin fIx (eVar 9) (eC (.int 0))) eNil))))) (sRet (eC (.bl false))) sNext))) sNext)
  (sIf (eOrT (eNotT (eTest (eCall (f_v_law_like 12) (eCons (eCall f_v_law_told (eCons (eC (.int 0)) (eCons (eVar 3) (eCons (eVar 6) (eCons (eVar 7) eNil))))) (eCons (eVar 8) eNil))))) (eNotT (eTest (eCall (f_v_law_like 12) (eCons (eCall f_v_law_told (eCons (eC (.int 1)) (eCons (eVar 3) (eCons (eVar 6) (eCons (eC (.int 0)) eNil))))) (eCons (eVar 9) eNil)))))) (sRet (eC (.bl false))) sNext)))))))))
  (sRet (eC (.bl true)))))
noncomputable def f_law_k05 : Sem1 := runF 1 11 b_law_k05
def b_bearing_on : Stm :=
  (sSeq (sSet 3 (eCall f_lift_on (eCons (eVar 0) (eCons (eVar 1) (eCons (eVar 2) eNil)))))
  (sRetL (eSortSet (eCons (eFrz (eLc [4, 5] (eSeq (eCall f_touched (eCons (eArgs (c1 fLen) (eCons (eVar 0) eNil)) (eCons (eVar 1) (eCons (eVar 2) eNil))))) (tgTup 2 (tgCons (tgName 4) (tgCons (tgName 5) tgNil))) (eTest (eBin (fEq false) (eBin fSub (eBin fIx (eVar 0) (eVar 4)) (eVar 5)) (eVar 3))) (eVar 4))) eNil))))
def f_bearing_on : Sem1 := runF 3 6 b_bearing_on
def b_bearing : Stm :=
  (sSeq (sExpr (eCall f_look_rim (eCons (eVar 0) eNil)))
  (sRetC f_bearing_on (eCons (eVar 0) (eCons (eVar 1) (eCons (eVar 2) eNil)))))
def f_bearing : Sem1 := runF 3 3 b_bearing
def b_v_law_told_2 : Stm :=
  (sTry (subT [("BadFoot", "BadRim", false), ("BadRim", "BadRim", true)]) (sRetC f_bearing (eCons (eVar 0) (eCons (eVar 1) (eCons (eVar 2) eNil)))) (("BadRim", (sRetL (eLst (eCons (eC (.str "BadRim")) eNil)))) :: []))
def f_v_law_told_2 : Sem1 := runF 3 3 b_v_law_told_2
noncomputable def b_law_k06 : Stm :=
  (sSeq (sSet 1 (eCell (eCallL f_v_law_bag (eCons (eVar 0) eNil))))
  (sSeq (sFor (eRng1 (eCons (eC (.int 4)) eNil)) (tgName 2) (sSeq (sSet 3 (eCall f_v_law_rim (eCons (eVar 1) (eCons (eBin fIx (eFrz (eLst (eCons (eC (.int 12)) (eCons (eC (.int 48)) (eCons (eC (.int 4)) eNil))))) (eCall f_v_law_pull (eCons (eVar 1) (eCons (eC (.int 3)) eNil)))) eNil))))
  (sSeq (sIf (eTest (eBin (fEq false) (eCall f_v_law_pull (eCons (eVar 1) (eCons (eC (.int 9)) eNil))) (eC (.int 0)))) (sSet 3 (eCall f_v_law_bad_rim (eCons (eVar 1) (eCons (eVar 3) eNil)))) sNext)
  (sSeq (sSetT (tgTup 2 (tgCons (tgName 4) (tgCons (tgName 5) tgNil))) (eCall f_v_law_pair (eCons (eVar 1) eNil)))
  (sSeq (sSet 6 (eCall f_v_law_angle (eCons (eVar 1) eNil)))
  (sSeq (sSet 7 (eFrz (eLst (eCons (eC (.str "BadRim")) eNil))))
  (sSeq (sIf (eTest (eChain fLe fLe (eC (.int 3)) (eArgs (c1 fLen) (eCons (eVar 3) eNil)) (eC (.int 48)))) (sSeq (sSet 8 (eCall f_v_law_ride (eCons (eVar 3) (eCons (eVar 4) (eCons (eVar 5) (eCons (eVar 6) eNil))))))
  (sSeq (sSet 9 (eCall f_v_law_spots (eCons (eArgs (c1 fLen) (eCons (eVar 3) eNil)) (eCons (eVar 4) (eCons (eVar 5) (eCons (eVar 6) eNil))))))
  (sSeq (sSet 7 (eFrz (eLc [12] (eRng1 (eCons (eArgs (c1 fLen) (eCons (eVar 3) eNil)) eNil)) (tgName 12) (eTest (eArgs (c1 fAny) (eCons (eFrz (eLc [13, 14] (eSeq (eVar 9)) (tgTup 2 (tgCons (tgName 13) (tgCons (tgName 14) tgNil))) eYes (eAndV (eBin (fEq false) (eVar 13) (eVar 12)) (eBin (fEq false) (eBin fSub (eBin fIx (eVar 3) (eVar 13)) (eVar 14)) (eVar 8))))) eNil))) (eVar 12))))
  (sIf (eTest (eBin (fEq true) (eCallK f_bearing 2 0 [.p 0, .p 1, .c 0] [0] (eCons (eVar 3) (eCons (eMake "Foot" f_Foot_init (eCons (eVar 4) (eCons (eVar 5) eNil))) eNil)) eNil) (eCall f_bearing (eCons (eVar 3) (eCons (eMake "Foot" f_Foot_init (eCons (eVar 4) (eCons (eVar 5) eNil))) (eCons (eC (.int 0)) eNil)))))) (sRet (eC (.bl false))) sNext)))) sNext)
  (sFor (eRng1 (eCons (eC (.int 2)) eNil)) (tgName 10) (sSeq (sSet 11 (eCallC f_v_law_told_2 (eCons (eVar 3) (eCons (eMake "Foot" f_Foot_init (eCons (eVar 4) (eCons (eVar 5) eNil))) (eCons (eVar 6) eNil)))))
  (sSeq (sIf (eNotT (eTest (eCall (f_v_law_like 12) (eCons (eVar 11) (eCons (eVar 7) eNil))))) (sRet (eC (.bl false))) sNext)
  (sAppC (eVar 11) (eC (.int 0)))))))))))))
  (sRet (eC (.bl true)))))
noncomputable def f_law_k06 : Sem1 := runF 1 15 b_law_k06
def b_all_bearing : Stm :=
  (sSeq (sSetO 2 (eLst eNil))
  (sSeq (sFor (eSeq (eVar 1)) (tgName 3) (sExt 2 (eFrz (eLc [4] (eRng1 (eCons (eArgs (c1 fLen) (eCons (eVar 0) eNil)) eNil)) (tgName 4) eYes (eCall f_bearing_on (eCons (eVar 0) (eCons (eVar 3) (eCons (eVar 4) eNil))))))))
  (sRetO 2)))
def f_all_bearing : Sem1 := runF 2 5 b_all_bearing
def b_idle : Stm :=
  (sSeq (sExpr (eCall f_look_rim (eCons (eVar 0) eNil)))
  (sSeq (sSet 2 (eFrz (eLc [3] (eSeq (eCall f_all_bearing (eCons (eVar 0) (eCons (eVar 1) eNil)))) (tgName 3) (eTest (eBin (fEq false) (eArgs (c1 fLen) (eCons (eVar 3) eNil)) (eC (.int 1)))) (eBin fIx (eVar 3) (eC (.int 0))))))
  (sRetL (eLc [4] (eRng1 (eCons (eArgs (c1 fLen) (eCons (eVar 0) eNil)) eNil)) (tgName 4) (eTest (eBin (fIn true) (eVar 4) (eVar 2))) (eVar 4)))))
def f_idle : Sem1 := runF 2 5 b_idle
def b_v_law_told_3 : Stm :=
  (sTry (subT [("BadFoot", "BadRim", false), ("BadRim", "BadRim", true)]) (sRetC f_idle (eCons (eVar 0) (eCons (eVar 1) eNil))) (("BadRim", (sRetL (eLst (eCons (eC (.str "BadRim")) eNil)))) :: []))
def f_v_law_told_3 : Sem1 := runF 2 2 b_v_law_told_3
def b_Foot_eq : Stm :=
  (sRet (eAndV (eUn (fIsO "Foot") (eVar 1)) (eAndV (eBin (fEq false) (eFld "Foot" "drops" (eVar 0)) (eFld "Foot" "drops" (eVar 1))) (eBin (fEq false) (eFld "Foot" "middle" (eVar 0)) (eFld "Foot" "middle" (eVar 1))))))
def f_Foot_eq : Sem1 := runF 2 2 b_Foot_eq
noncomputable def b_law_k13 : Stm :=
  (sSeq (sSet 1 (eCell (eCallL f_v_law_bag (eCons (eVar 0) eNil))))
  (sSeq (sFor (eRng1 (eCons (eC (.int 3)) eNil)) (tgName 2) (sSeq (sSet 3 (eCall f_v_law_rim (eCons (eVar 1) (eCons (eBin fIx (eFrz (eLst (eCons (eC (.int 12)) (eCons (eC (.int 48)) (eCons (eC (.int 5)) eNil))))) (eCall f_v_law_pull (eCons (eVar 1) (eCons (eC (.int 3)) eNil)))) eNil))))
  (sSeq (sIf (eTest (eBin (fEq false) (eCall f_v_law_pull (eCons (eVar 1) (eCons (eC (.int 9)) eNil))) (eC (.int 0)))) (sSet 3 (eCall f_v_law_bad_rim (eCons (eVar 1) (eCons (eVar 3) eNil)))) sNext)
  (sSeq (sSet 4 (eFrz (eLc [14] (eRng1 (eCons (eCall f_v_law_pull (eCons (eVar 1) (eCons (eBin fIx (eFrz (eLst (eCons (eC (.int 5)) (eCons (eC (.int 5)) (eCons (eC (.int 9)) eNil))))) (eCall f_v_law_pull (eCons (eVar 1) (eCons (eC (.int 3)) eNil)))) eNil))) eNil)) (tgName 14) eYes (eCall f_v_law_pair (eCons (eVar 1) eNil)))))
  (sSeq (sSet 5 (eFrz (eLc [8, 9] (eSeq (eVar 4)) (tgTup 2 (tgCons (tgName 8) (tgCons (tgName 9) tgNil))) eYes (eMake "Foot" f_Foot_init (eCons (eVar 8) (eCons (eVar 9) eNil))))))
  (sSeq (sSet 6 (eFrz (eLst (eCons (eC (.str "BadRim")) eNil))))
  (sSeq (sIf (eTest (eChain fLe fLe (eC (.int 3)) (eArgs (c1 fLen) (eCons (eVar 3) eNil)) (eC (.int 48)))) (sSeq (sSetO 7 (eLst eNil))
  (sSeq (sFor (eSeq (eVar 4)) (tgTup 2 (tgCons (tgName 8) (tgCons (tgName 9) tgNil))) (sFor (eRng1 (eCons (eArgs (c1 fLen) (eCons (eVar 3) eNil)) eNil)) (tgName 10) (sSeq (sSet 11 (eCall f_v_law_ride (eCons (eVar 3) (eCons (eVar 8) (eCons (eVar 9) (eCons (eVar 10) eNil))))))
  (sSeq (sSet 12 (eCall f_v_law_spots (eCons (eArgs (c1 fLen) (eCons (eVar 3) eNil)) (eCons (eVar 8) (eCons (eVar 9) (eCons (eVar 10) eNil))))))
  (sSeq (sSet 13 (eFrz (eSortSet (eCons (eFrz (eLc [17, 18] (eSeq (eVar 12)) (tgTup 2 (tgCons (tgName 17) (tgCons (tgName 18) tgNil))) (eTest (eBin (fEq false) (eBin fSub (eBin fIx (eVar 3) (eVar 17)) (eVar 18)) (eVar 11))) (eVar 17))) eNil))))
  (sExt 7 (eIf (eTest (eBin (fEq false) (eArgs (c1 fLen) (eCons (eVar 13) eNil)) (eC (.int 1)))) (eVar 13) (eFrz (eLst eNil)))))))))
  (sFrz 7 (sSet 6 (eFrz (eLc [17] (eRng1 (eCons (eArgs (c1 fLen) (eCons (eVar 3) eNil)) eNil)) (tgName 17) (eTest (eBin (fIn true) (eVar 17) (eVar 7))) (eVar 17))))))) sNext)
  (sFor (eRng1 (eCons (eC (.int 2)) eNil)) (tgName 14) (sSeq (sSet 15 (eFrz (eListOf (eCons (eVar 5) eNil))))
  (sSeq (sSet 16 (eCallC f_v_law_told_3 (eCons (eVar 3) (eCons (eVar 15) eNil))))
  (sSeq (sIf (eOrT (eNotT (eTest (eCall (f_v_law_like 12) (eCons (eVar 16) (eCons (eVar 6) eNil))))) (eTest (eBin fNeF (eVar 15) (eVar 5)))) (sRet (eC (.bl false))) sNext)
  (sAppC (eVar 16) (eC (.int 0))))))))))))))
  (sRet (eC (.bl true)))))
noncomputable def f_law_k13 : Sem1 := runF 1 19 b_law_k13
def b_v_law_cut_down : Stm :=
  (sSeq (sSet 2 (eBin fAdd (eC (.int 1)) (eCall f_v_law_pull (eCons (eVar 0) (eCons (eC (.int 3)) eNil)))))
  (sRet (eArgs (c1 fTuple) (eCons (eFrz (eLc [3] (eSeq (eVar 1)) (tgName 3) eYes (eBin fSub (eVar 3) (eBin fIx (eFrz (eLst (eCons (eC (.int 0)) (eCons (eCall f_v_law_pull (eCons (eVar 0) (eCons (eC (.int 6)) eNil))) eNil)))) (eArgs (c1 fInt) (eCons (eBin fGt (eCall f_v_law_pull (eCons (eVar 0) (eCons (eBin fAdd (eVar 2) (eC (.int 1))) eNil))) (eC (.int 0))) eNil)))))) eNil))))
def f_v_law_cut_down : Sem1 := runF 2 4 b_v_law_cut_down
def b_v_law_wish : Stm :=
  (sSeq (sSetT (tgTup 2 (tgCons (tgName 2) (tgCons (tgName 3) tgNil))) (eCall f_v_law_pair (eCons (eVar 0) eNil)))
  (sSeq (sSet 4 (eBin fSub (eCall f_v_law_pull (eCons (eVar 0) (eCons (eC (.int 20)) eNil))) (eC (.int 8))))
  (sSeq (sSet 5 (eBin fAdd (eC (.int 1)) (eCall f_v_law_pull (eCons (eVar 0) (eCons (eC (.int 4)) eNil)))))
  (sSeq (sSetO 6 (eLst eNil))
  (sSeq (sFor (eRng1 (eCons (eArgs (c1 fLen) (eCons (eVar 1) eNil)) eNil)) (tgName 7) (sSeq (sSet 8 (eCall f_v_law_ride (eCons (eVar 1) (eCons (eVar 2) (eCons (eVar 3) (eCons (eBin fAdd (eVar 4) (eVar 7)) eNil))))))
  (sSeq (sSet 9 (eBin fIx (eFrz (eLst (eCons (eTup (eCons (eC (.int 0)) (eCons (eC (.int 0)) eNil))) (eCons (eTup (eCons (eC (.int 0)) (eCons (eC (.int 0)) eNil))) (eCons (eTup (eCons (eCall f_v_law_pull (eCons (eVar 0) (eCons (eC (.int 3)) eNil))) (eCons (eCall f_v_law_pull (eCons (eVar 0) (eCons (eC (.int 3)) eNil))) eNil))) eNil))))) (eCall f_v_law_pull (eCons (eVar 0) (eCons (eC (.int 3)) eNil)))))
  (sApp 6 (eIf (eTest (eBin fGt (eCall f_v_law_pull (eCons (eVar 0) (eCons (eVar 5) eNil))) (eC (.int 1)))) (eC .non) (eTup (eCons (eBin fSub (eVar 8) (eBin fIx (eVar 9) (eC (.int 0)))) (eCons (eBin fAdd (eVar 8) (eBin fIx (eVar 9) (eC (.int 1)))) eNil))))))))
  (sFrz 6 (sRet (eTup (eCons (eVar 2) (eCons (eVar 3) (eCons (eVar 4) (eCons (eArgs (c1 fTuple) (eCons (eVar 6) eNil)) eNil))))))))))))
def f_v_law_wish : Sem1 := runF 2 10 b_v_law_wish
def b_v_law_bent_wish : Stm :=
  (sSeq (sSetT (tgTup 4 (tgCons (tgName 2) (tgCons (tgName 3) (tgCons (tgName 4) (tgCons (tgName 5) tgNil))))) (eVar 1))
  (sSeq (sSet 6 (eCall f_v_law_pull (eCons (eVar 0) (eCons (eArgs (c1 fLen) (eCons (eVar 5) eNil)) eNil))))
  (sSeq (sSet 7 (eCall f_v_law_pull (eCons (eVar 0) (eCons (eC (.int 4)) eNil))))
  (sSeq (sIf (eOrT (eTest (eBin (fEq false) (eVar 7) (eC (.int 0)))) (eTest (eUn (fIsN false) (eBin fIx (eVar 5) (eVar 6))))) (sRet (eTup (eCons (eVar 2) (eCons (eVar 3) (eCons (eBin fAdd (eVar 4) (eC (.int 1))) (eCons (eVar 5) eNil)))))) sNext)
  (sSeq (sSetT (tgTup 2 (tgCons (tgName 8) (tgCons (tgName 9) tgNil))) (eBin fIx (eVar 5) (eVar 6)))
  (sSeq (sIf (eTest (eBin (fEq false) (eVar 7) (eC (.int 1)))) (sRet (eTup (eCons (eVar 2) (eCons (eVar 3) (eCons (eVar 4) (eCons (eBin fAdd (eBin fAdd (eSl fSl (eVar 5) eNoPart (ePart (eVar 6))) (eTup (eCons (eTup (eCons (eBin fAdd (eVar 8) (eC (.int 1))) (eCons (eBin fAdd (eVar 9) (eC (.int 2))) eNil))) eNil))) (eSl fSl (eVar 5) (ePart (eBin fAdd (eVar 6) (eC (.int 1)))) eNoPart)) eNil)))))) sNext)
  (sSeq (sIf (eTest (eBin (fEq false) (eVar 7) (eC (.int 2)))) (sRet (eTup (eCons (eVar 2) (eCons (eVar 3) (eCons (eVar 4) (eCons (eBin fAdd (eBin fAdd (eSl fSl (eVar 5) eNoPart (ePart (eVar 6))) (eTup (eCons (eTup (eCons (eBin fSub (eVar 8) (eC (.int 4))) (eCons (eArgs (c2 fMax2) (eCons (eBin fSub (eVar 8) (eC (.int 4))) (eCons (eBin fSub (eVar 9) (eC (.int 3))) eNil))) eNil))) eNil))) (eSl fSl (eVar 5) (ePart (eBin fAdd (eVar 6) (eC (.int 1)))) eNoPart)) eNil)))))) sNext)
  (sRet (eTup (eCons (eVar 2) (eCons (eVar 3) (eCons (eVar 4) (eCons (eBin fAdd (eSl fSl (eVar 5) (ePart (eC (.int 1))) eNoPart) (eSl fSl (eVar 5) eNoPart (ePart (eC (.int 1))))) eNil)))))))))))))
def f_v_law_bent_wish : Sem1 := runF 2 10 b_v_law_bent_wish
def b_v_law_wishes : Stm :=
  (sSeq (sSet 3 (eCall f_v_law_cut_down (eCons (eVar 0) (eCons (eVar 1) eNil))))
  (sSeq (sSetO 4 (eLc [6] (eRng1 (eCons (eCall f_v_law_pull (eCons (eVar 0) (eCons (eBin fAdd (eVar 2) (eC (.int 1))) eNil))) eNil)) (tgName 6) eYes (eCall f_v_law_wish (eCons (eVar 0) (eCons (eVar 3) eNil)))))
  (sSeq (sIf (eAndT (eTest (eBin fGt (eLenO 4) (eC (.int 0)))) (eTest (eBin (fEq false) (eCall f_v_law_pull (eCons (eVar 0) (eCons (eC (.int 2)) eNil))) (eC (.int 0))))) (sSeq (sSet 5 (eCall f_v_law_pull (eCons (eVar 0) (eCons (eLenO 4) eNil))))
  (sSetIO 4 (eVar 5) (eCall f_v_law_bent_wish (eCons (eVar 0) (eCons (eIxO 4 (eVar 5)) eNil))))) sNext)
  (sRetO 4))))
def f_v_law_wishes : Sem1 := runF 3 7 b_v_law_wishes
def b_v_law_pairs : Stm :=
  (sRetL (eLc [1] (eRng1 (eCons (eArgs (c1 fLen) (eCons (eVar 0) eNil)) eNil)) (tgName 1) (eTest (eUn (fIsN true) (eBin fIx (eVar 0) (eVar 1)))) (eTup (eCons (eVar 1) (eCons (eBin fIx (eBin fIx (eVar 0) (eVar 1)) (eC (.int 0))) (eCons (eBin fIx (eBin fIx (eVar 0) (eVar 1)) (eC (.int 1))) eNil))))))
def f_v_law_pairs : Sem1 := runF 1 2 b_v_law_pairs
def b_v_law_fullest : Stm :=
  (sSeq (sSetO 2 (eListOf (eCons (eVar 0) eNil)))
  (sSeq (sFor (eSeq (eVar 1)) (tgTup 4 (tgCons (tgName 3) (tgCons (tgName 4) (tgCons (tgName 5) (tgCons (tgName 6) tgNil))))) (sFor (eSeq (eCall f_v_law_pairs (eCons (eVar 6) eNil))) (tgTup 3 (tgCons (tgName 7) (tgCons (tgName 8) (tgCons (tgName 9) tgNil)))) (sFor (eSeq (eCall f_v_law_spots (eCons (eArgs (c1 fLen) (eCons (eVar 0) eNil)) (eCons (eVar 3) (eCons (eVar 4) (eCons (eBin fAdd (eVar 5) (eVar 7)) eNil)))))) (tgTup 2 (tgCons (tgName 10) (tgCons (tgName 11) tgNil))) (sIf (eTest (eBin fGt (eIxO 2 (eVar 10)) (eBin fAdd (eVar 9) (eVar 11)))) (sSetIO 2 (eVar 10) (eBin fAdd (eVar 9) (eVar 11))) sNext))))
  (sFrz 2 (sRet (eArgs (c1 fTuple) (eCons (eVar 2) eNil))))))
def f_v_law_fullest : Sem1 := runF 2 12 b_v_law_fullest
def b_look_wishes : Stm :=
  (sSeq (sExpr (eCall f_look_rim (eCons (eVar 0) eNil)))
  (sSeq (sFor (eSeq (eVar 1)) (tgTup 3 (tgCons (tgName 2) (tgCons (tgName 3) (tgCons (tgName 4) tgNil)))) (sIf (eTest (eBin (fEq true) (eArgs (c1 fLen) (eCons (eVar 4) eNil)) (eArgs (c1 fLen) (eCons (eVar 0) eNil)))) (sRaise0 "BadSize") sNext))
  (sFor (eEnum (eCons (eVar 1) eNil)) (tgTup 2 (tgCons (tgName 5) (tgCons (tgTup 3 (tgCons (tgName 2) (tgCons (tgName 3) (tgCons (tgName 4) tgNil)))) tgNil))) (sIf (eTest (eArgs (c1 fAny) (eCons (eFrz (eLc [6] (eSeq (eVar 4)) (tgName 6) eYes (eAndV (eUn (fIsN true) (eVar 6)) (eBin fGt (eBin fIx (eVar 6) (eC (.int 0))) (eBin fIx (eVar 6) (eC (.int 1))))))) eNil))) sNo sNext))))
def f_look_wishes : Sem1 := runF 2 7 b_look_wishes
def b_asked_of : Stm :=
  (sSeq (sSetT (tgTup 3 (tgCons (tgName 1) (tgCons (tgName 2) (tgCons (tgName 3) tgNil)))) (eVar 0))
  (sRetL (eLc [4, 5] (eEnum (eCons (eVar 3) eNil)) (tgTup 2 (tgCons (tgName 4) (tgCons (tgName 5) tgNil))) (eTest (eUn (fIsN true) (eVar 5))) (eTup (eCons (eVar 4) (eCons (eBin fIx (eVar 5) (eC (.int 0))) (eCons (eBin fIx (eVar 5) (eC (.int 1))) eNil)))))))
def f_asked_of : Sem1 := runF 1 6 b_asked_of
def b_limits_of : Stm :=
  (sSeq (sSetT (tgTup 3 (tgCons (tgName 2) (tgCons (tgName 3) (tgCons (tgName 4) tgNil)))) (eVar 1))
  (sSeq (sSetO 5 (eLst eNil))
  (sSeq (sFor (eSeq (eCall f_asked_of (eCons (eVar 1) eNil))) (tgTup 3 (tgCons (tgName 6) (tgCons (tgName 7) (tgCons (tgName 8) tgNil)))) (sFor (eSeq (eCall f_touched (eCons (eVar 0) (eCons (eVar 2) (eCons (eBin fAdd (eVar 3) (eVar 6)) eNil))))) (tgTup 2 (tgCons (tgName 9) (tgCons (tgName 10) tgNil))) (sApp 5 (eTup (eCons (eVar 9) (eCons (eBin fAdd (eVar 8) (eVar 10)) (eCons (eVar 6) eNil)))))))
  (sRetO 5))))
def f_limits_of : Sem1 := runF 2 11 b_limits_of
def b_cut_at : Stm :=
  (sRet (eBin fAdd (eBin fAdd (eSl fSl (eVar 0) eNoPart (ePart (eVar 1))) (eTup (eCons (eArgs (c2 fMin2) (eCons (eBin fIx (eVar 0) (eVar 1)) (eCons (eVar 2) eNil))) eNil))) (eSl fSl (eVar 0) (ePart (eBin fAdd (eVar 1) (eC (.int 1)))) eNoPart)))
def f_cut_at : Sem1 := runF 3 3 b_cut_at
def b_fullest_of : Stm :=
  (sSeq (sSet 2 (eVar 0))
  (sSeq (sFor (eSeq (eVar 1)) (tgName 3) (sFor (eSeq (eCall f_limits_of (eCons (eArgs (c1 fLen) (eCons (eVar 0) eNil)) (eCons (eVar 3) eNil)))) (tgTup 3 (tgCons (tgName 4) (tgCons (tgName 5) (tgCons (tgName 6) tgNil)))) (sSet 2 (eCall f_cut_at (eCons (eVar 2) (eCons (eVar 4) (eCons (eVar 5) eNil)))))))
  (sRet (eVar 2))))
def f_fullest_of : Sem1 := runF 2 7 b_fullest_of
def b_lacking_at : Stm :=
  (sSeq (sSetT (tgTup 3 (tgCons (tgName 2) (tgCons (tgName 3) (tgCons (tgName 4) tgNil)))) (eVar 1))
  (sSeq (sFor (eSeq (eCall f_asked_of (eCons (eVar 1) eNil))) (tgTup 3 (tgCons (tgName 5) (tgCons (tgName 6) (tgCons (tgName 7) tgNil)))) (sIf (eTest (eBin fLt (eCall f_lift_on (eCons (eVar 0) (eCons (eVar 2) (eCons (eBin fAdd (eVar 3) (eVar 5)) eNil)))) (eVar 6))) (sRet (eTup (eCons (eVar 5) (eCons (eVar 6) eNil)))) sNext))
  (sRet (eC .non))))
def f_lacking_at : Sem1 := runF 2 8 b_lacking_at
def b_can_come : Stm :=
  (sSeq (sSet 2 (eCall f_fullest_of (eCons (eVar 0) (eCons (eVar 1) eNil))))
  (sRet (eArgs (c1 fAll) (eCons (eFrz (eLc [3] (eSeq (eVar 1)) (tgName 3) eYes (eUn (fIsN false) (eCall f_lacking_at (eCons (eVar 2) (eCons (eVar 3) eNil)))))) eNil))))
def f_can_come : Sem1 := runF 2 4 b_can_come
def b_comes : Stm :=
  (sSeq (sExpr (eCall f_look_wishes (eCons (eVar 0) (eCons (eVar 1) eNil))))
  (sRet (eCall f_can_come (eCons (eVar 0) (eCons (eVar 1) eNil)))))
def f_comes : Sem1 := runF 2 2 b_comes
def b_gives : Stm :=
  (sSeq (sExpr (eCall f_look_wishes (eCons (eVar 0) (eCons (eVar 1) eNil))))
  (sRet (eAndV (eBin (fEq false) (eCall f_fullest_of (eCons (eVar 0) (eCons (eVar 1) eNil))) (eVar 0)) (eCall f_can_come (eCons (eVar 0) (eCons (eVar 1) eNil))))))
def f_gives : Sem1 := runF 2 2 b_gives
def b_v_law_failing : Stm :=
  (sSeq (sFor (eRng1 (eCons (eArgs (c1 fLen) (eCons (eVar 1) eNil)) eNil)) (tgName 2) (sSeq (sSetT (tgTup 4 (tgCons (tgName 3) (tgCons (tgName 4) (tgCons (tgName 5) (tgCons (tgName 6) tgNil))))) (eBin fIx (eVar 1) (eVar 2)))
  (sFor (eSeq (eCall f_v_law_pairs (eCons (eVar 6) eNil))) (tgTup 3 (tgCons (tgName 7) (tgCons (tgName 8) (tgCons (tgName 9) tgNil)))) (sIf (eTest (eBin fLt (eCall f_v_law_ride (eCons (eVar 0) (eCons (eVar 3) (eCons (eVar 4) (eCons (eBin fAdd (eVar 5) (eVar 7)) eNil))))) (eVar 8))) (sRet (eTup (eCons (eVar 2) (eCons (eVar 7) (eCons (eVar 8) eNil))))) sNext))))
  (sRet (eC .non)))
def f_v_law_failing : Sem1 := runF 2 10 b_v_law_failing
def b_v_law_given : Stm :=
  (sSeq (sFor (eSeq (eVar 1)) (tgTup 4 (tgCons (tgName 2) (tgCons (tgName 3) (tgCons (tgName 4) (tgCons (tgName 5) tgNil))))) (sFor (eSeq (eCall f_v_law_pairs (eCons (eVar 5) eNil))) (tgTup 3 (tgCons (tgName 6) (tgCons (tgName 7) (tgCons (tgName 8) tgNil)))) (sIf (eNotT (eTest (eChain fLe fLe (eVar 7) (eCall f_v_law_ride (eCons (eVar 0) (eCons (eVar 2) (eCons (eVar 3) (eCons (eBin fAdd (eVar 4) (eVar 6)) eNil))))) (eVar 8)))) (sRet (eC (.bl false))) sNext)))
  (sRet (eC (.bl true))))
def f_v_law_given : Sem1 := runF 2 9 b_v_law_given
noncomputable def b_law_k09 : Stm :=
  (sSeq (sSet 1 (eCell (eCallL f_v_law_bag (eCons (eVar 0) eNil))))
  (sSeq (sFor (eRng1 (eCons (eC (.int 2)) eNil)) (tgName 2) (sSeq (sSet 3 (eCall f_v_law_rim (eCons (eVar 1) (eCons (eBin fIx (eFrz (eLst (eCons (eC (.int 12)) (eCons (eC (.int 48)) (eCons (eC (.int 5)) eNil))))) (eCall f_v_law_pull (eCons (eVar 1) (eCons (eC (.int 3)) eNil)))) eNil))))
  (sSeq (sSet 4 (eCall f_v_law_wishes (eCons (eVar 1) (eCons (eVar 3) (eCons (eC (.int 4)) eNil)))))
  (sSeq (sIf (eAndT (eTest (eBin fGt (eArgs (c1 fLen) (eCons (eVar 4) eNil)) (eC (.int 0)))) (eTest (eBin (fEq false) (eCall f_v_law_pull (eCons (eVar 1) (eCons (eC (.int 4)) eNil))) (eC (.int 0))))) (sSet 4 (eBin fAdd (eSl fSl (eBin fMulL (eVar 4) (eC (.int 5))) eNoPart (ePart (eC (.int 15)))) (eFrz (eLst (eCons (eCall f_v_law_bent_wish (eCons (eVar 1) (eCons (eBin fIx (eVar 4) (eC (.int 0))) eNil))) eNil))))) sNext)
  (sSeq (sSet 5 (eFrz (eLc [9, 10, 11, 12] (eSeq (eVar 4)) (tgTup 4 (tgCons (tgName 9) (tgCons (tgName 10) (tgCons (tgName 11) (tgCons (tgName 12) tgNil))))) eYes (eTup (eCons (eMake "Foot" f_Foot_init (eCons (eVar 9) (eCons (eVar 10) eNil))) (eCons (eVar 11) (eCons (eVar 12) eNil)))))))
  (sSeq (sSet 6 (eFrz (eListOf (eCons (eVar 5) eNil))))
  (sSeq (sSet 7 (eCall f_v_law_fullest (eCons (eVar 3) (eCons (eVar 4) eNil))))
  (sSeq (sIf (eNotT (eTest (eCall (f_v_law_like 12) (eCons (eCall f_comes (eCons (eVar 3) (eCons (eVar 5) eNil))) (eCons (eUn (fIsN false) (eCall f_v_law_failing (eCons (eVar 7) (eCons (eVar 4) eNil)))) eNil))))) (sRet (eC (.bl false))) sNext)
  (sSeq (sFor (eSeq (eFrz (eLst (eCons (eVar 7) (eCons (eVar 3) (eCons (eCall f_v_law_cut_down (eCons (eVar 1) (eCons (eVar 3) eNil))) (eCons (eCall f_v_law_cut_down (eCons (eVar 1) (eCons (eVar 7) eNil))) eNil))))))) (tgName 8) (sIf (eNotT (eTest (eCall (f_v_law_like 12) (eCons (eCall f_gives (eCons (eVar 8) (eCons (eVar 5) eNil))) (eCons (eCall f_v_law_given (eCons (eVar 8) (eCons (eVar 4) eNil))) eNil))))) (sRet (eC (.bl false))) sNext))
  (sIf (eTest (eBin fNeF (eVar 5) (eVar 6))) (sRet (eC (.bl false))) sNext))))))))))
  (sRet (eAndV (eCall (f_v_law_like 12) (eCons (eCall f_comes (eCons (eVar 3) (eCons (eFrz (eLst eNil)) eNil))) (eCons (eC (.bl true)) eNil))) (eCall (f_v_law_like 12) (eCons (eCall f_gives (eCons (eVar 3) (eCons (eFrz (eLst eNil)) eNil))) (eCons (eC (.bl true)) eNil)))))))
noncomputable def f_law_k09 : Sem1 := runF 1 13 b_law_k09
def b_lies_within : Stm :=
  (sRet (eArgs (c1 fAll) (eCons (eFrz (eLc [2, 3] (eZipS (eCons (eVar 0) (eCons (eVar 1) eNil))) (tgTup 2 (tgCons (tgName 2) (tgCons (tgName 3) tgNil))) eYes (eBin fLe (eVar 2) (eVar 3)))) eNil)))
def f_lies_within : Sem1 := runF 2 4 b_lies_within
def b_within : Stm :=
  (sSeq (sExpr (eCall f_look_rim (eCons (eVar 0) eNil)))
  (sSeq (sExpr (eCall f_look_rim (eCons (eVar 1) eNil)))
  (sSeq (sIf (eTest (eBin (fEq true) (eArgs (c1 fLen) (eCons (eVar 0) eNil)) (eArgs (c1 fLen) (eCons (eVar 1) eNil)))) (sRaise0 "BadSize") sNext)
  (sRet (eCall f_lies_within (eCons (eVar 0) (eCons (eVar 1) eNil)))))))
def f_within : Sem1 := runF 2 2 b_within
def b_v_law_told_4 : Stm :=
  (sTry (subT [("BadRim", "BadRim", true), ("BadSize", "BadRim", false), ("BadRim", "BadSize", false), ("BadSize", "BadSize", true)]) (sRet (eCall f_within (eCons (eVar 0) (eCons (eVar 1) eNil)))) (("BadRim", (sRet (eC (.str "BadRim")))) :: ("BadSize", (sRet (eC (.str "BadSize")))) :: []))
def f_v_law_told_4 : Sem1 := runF 2 2 b_v_law_told_4
def b_law_k01 : Stm :=
  (sSeq (sSet 1 (eCell (eCallL f_v_law_bag (eCons (eVar 0) eNil))))
  (sSeq (sFor (eRng1 (eCons (eC (.int 4)) eNil)) (tgName 2) (sSeq (sSet 3 (eCall f_v_law_rim (eCons (eVar 1) (eCons (eC (.int 48)) eNil))))
  (sSeq (sSet 4 (eArgs (c1 fTuple) (eCons (eFrz (eLc [8] (eSeq (eVar 3)) (tgName 8) eYes (eBin fAdd (eVar 8) (eBin fIx (eFrz (eLst (eCons (eC (.int 0)) (eCons (eC (.int 0)) (eCons (eC (.int 0)) (eCons (eUn fNeg (eC (.int 1))) (eCons (eC (.int 1)) eNil))))))) (eCall f_v_law_pull (eCons (eVar 1) (eCons (eC (.int 5)) eNil))))))) eNil)))
  (sSeq (sIf (eTest (eBin (fEq false) (eCall f_v_law_pull (eCons (eVar 1) (eCons (eC (.int 3)) eNil))) (eC (.int 0)))) (sSet 4 (eArgs (c1 fTuple) (eCons (eFrz (eLc [8] (eSeq (eVar 3)) (tgName 8) eYes (eBin fAdd (eVar 8) (eCall f_v_law_pull (eCons (eVar 1) (eCons (eC (.int 2)) eNil)))))) eNil))) sNext)
  (sSeq (sIf (eTest (eBin (fEq false) (eCall f_v_law_pull (eCons (eVar 1) (eCons (eC (.int 5)) eNil))) (eC (.int 0)))) (sSet 4 (eCall f_v_law_rim (eCons (eVar 1) (eCons (eC (.int 48)) eNil)))) sNext)
  (sSeq (sIf (eTest (eBin (fEq false) (eCall f_v_law_pull (eCons (eVar 1) (eCons (eC (.int 6)) eNil))) (eC (.int 0)))) (sSet 3 (eCall f_v_law_bad_rim (eCons (eVar 1) (eCons (eVar 3) eNil)))) sNext)
  (sSeq (sIf (eTest (eBin (fEq false) (eCall f_v_law_pull (eCons (eVar 1) (eCons (eC (.int 6)) eNil))) (eC (.int 0)))) (sSet 4 (eCall f_v_law_bad_rim (eCons (eVar 1) (eCons (eVar 4) eNil)))) sNext)
  (sSeq (sSet 5 (eFrz (eLc [7] (eSeq (eTup (eCons (eVar 3) (eCons (eVar 4) eNil)))) (tgName 7) eYes (eChain fLe fLe (eC (.int 3)) (eArgs (c1 fLen) (eCons (eVar 7) eNil)) (eC (.int 48))))))
  (sSeq (sSet 6 (eC (.str "BadRim")))
  (sSeq (sIf (eTest (eArgs (c1 fAll) (eCons (eVar 5) eNil))) (sSeq (sSet 6 (eC (.str "BadSize")))
  (sIf (eTest (eBin (fEq false) (eArgs (c1 fLen) (eCons (eVar 3) eNil)) (eArgs (c1 fLen) (eCons (eVar 4) eNil)))) (sSet 6 (eBin (fEq false) (eArgs (c1 fLen) (eCons (eFrz (eLc [9] (eRng1 (eCons (eArgs (c1 fLen) (eCons (eVar 3) eNil)) eNil)) (tgName 9) (eTest (eBin fGt (eBin fIx (eVar 3) (eVar 9)) (eBin fIx (eVar 4) (eVar 9)))) (eVar 9))) eNil)) (eC (.int 0)))) sNext)) sNext)
  (sSeq (sIf (eNotT (eTest (eCall (f_v_law_like 12) (eCons (eCall f_v_law_told_4 (eCons (eVar 3) (eCons (eVar 4) eNil))) (eCons (eVar 6) eNil))))) (sRet (eC (.bl false))) sNext)
  (sIf (eOrT (eNotT (eTest (eCall (f_v_law_like 12) (eCons (eCall f_is_rim (eCons (eVar 3) eNil)) (eCons (eBin fIx (eVar 5) (eC (.int 0))) eNil))))) (eNotT (eTest (eCall (f_v_law_like 12) (eCons (eCall f_is_rim (eCons (eVar 4) eNil)) (eCons (eBin fIx (eVar 5) (eC (.int 1))) eNil)))))) (sRet (eC (.bl false))) sNext))))))))))))
  (sRet (eCall (f_v_law_like 12) (eCons (eCall f_is_rim (eCons (eTup eNil) eNil)) (eCons (eC (.bl false)) eNil))))))
def f_law_k01 : Sem1 := runF 1 10 b_law_k01
def b_fullest : Stm :=
  (sSeq (sExpr (eCall f_look_wishes (eCons (eVar 0) (eCons (eVar 1) eNil))))
  (sRet (eCall f_fullest_of (eCons (eVar 0) (eCons (eVar 1) eNil)))))
def f_fullest : Sem1 := runF 2 2 b_fullest
noncomputable def b_law_k11 : Stm :=
  (sSeq (sSet 1 (eCell (eCallL f_v_law_bag (eCons (eVar 0) eNil))))
  (sSeq (sSet 2 (eCall f_v_law_rim (eCons (eVar 1) (eCons (eC (.int 48)) eNil))))
  (sSeq (sSet 3 (eCall f_v_law_cut_down (eCons (eVar 1) (eCons (eVar 2) eNil))))
  (sSeq (sSet 4 (eFrz (eLc [12] (eRng1 (eCons (eBin fAdd (eC (.int 1)) (eCall f_v_law_pull (eCons (eVar 1) (eCons (eC (.int 4)) eNil)))) eNil)) (tgName 12) eYes (eCall f_v_law_pair (eCons (eVar 1) eNil)))))
  (sSeq (sSet 5 (eFrz (eLc [13, 14] (eSeq (eVar 4)) (tgTup 2 (tgCons (tgName 13) (tgCons (tgName 14) tgNil))) eYes (eMake "Foot" f_Foot_init (eCons (eVar 13) (eCons (eVar 14) eNil))))))
  (sSeq (sSet 6 (eFrz (eLc [11] (eSeq (eVar 5)) (tgName 11) eYes (eTup (eCons (eVar 11) (eCons (eC (.int 0)) (eCons (eArgs (c1 fTuple) (eCons (eFrz (eLc [17] (eSeq (eCall f_motion (eCons (eVar 3) (eCons (eVar 11) eNil)))) (tgName 17) eYes (eTup (eCons (eVar 17) (eCons (eVar 17) eNil))))) eNil)) eNil)))))))
  (sSeq (sSet 7 (eCall f_fullest (eCons (eVar 2) (eCons (eVar 6) eNil))))
  (sSeq (sIf (eOrT (eNotT (eTest (eCall f_comes (eCons (eVar 2) (eCons (eVar 6) eNil))))) (eOrT (eNotT (eTest (eCall f_gives (eCons (eVar 7) (eCons (eVar 6) eNil))))) (eNotT (eTest (eCall f_gives (eCons (eVar 3) (eCons (eVar 6) eNil))))))) (sRet (eC (.bl false))) sNext)
  (sSeq (sIf (eOrT (eNotT (eTest (eCall f_within (eCons (eVar 3) (eCons (eVar 7) eNil))))) (eOrT (eNotT (eTest (eCall f_within (eCons (eVar 7) (eCons (eVar 2) eNil))))) (eTest (eBin (fEq true) (eCall f_fullest (eCons (eVar 7) (eCons (eVar 6) eNil))) (eVar 7))))) (sRet (eC (.bl false))) sNext)
  (sSeq (sIf (eTest (eBin (fEq true) (eFrz (eLc [11] (eSeq (eVar 5)) (tgName 11) eYes (eCall f_motion (eCons (eVar 7) (eCons (eVar 11) eNil))))) (eFrz (eLc [11] (eSeq (eVar 5)) (tgName 11) eYes (eCall f_motion (eCons (eVar 3) (eCons (eVar 11) eNil))))))) (sRet (eC (.bl false))) sNext)
  (sSeq (sSet 8 (eArgs (c1 fTuple) (eCons (eFrz (eLc [15, 16] (eZipS (eCons (eVar 3) (eCons (eVar 7) eNil))) (tgTup 2 (tgCons (tgName 15) (tgCons (tgName 16) tgNil))) eYes (eBin fAdd (eVar 15) (eCall f_v_law_pull (eCons (eVar 1) (eCons (eBin fAdd (eBin fSub (eVar 16) (eVar 15)) (eC (.int 1))) eNil)))))) eNil)))
  (sSeq (sIf (eOrT (eNotT (eTest (eCall f_gives (eCons (eVar 8) (eCons (eVar 6) eNil))))) (eTest (eBin (fEq true) (eCall f_fullest (eCons (eVar 8) (eCons (eVar 6) eNil))) (eVar 8)))) (sRet (eC (.bl false))) sNext)
  (sSeq (sSet 9 (eCall f_v_law_cut_down (eCons (eVar 1) (eCons (eVar 2) eNil))))
  (sSeq (sSet 10 (eC (.bl false)))
  (sSeq (sFor (eSeq (eVar 5)) (tgName 11) (sIf (eTest (eArgs (c1 fAny) (eCons (eFrz (eLc [15, 16] (eZipS (eCons (eCall f_motion (eCons (eVar 9) (eCons (eVar 11) eNil))) (eCons (eCall f_motion (eCons (eVar 3) (eCons (eVar 11) eNil))) eNil))) (tgTup 2 (tgCons (tgName 15) (tgCons (tgName 16) tgNil))) eYes (eBin fGt (eVar 15) (eVar 16)))) eNil))) (sSet 10 (eC (.bl true))) sNext))
  (sRet (eBin (fEq true) (eCall f_within (eCons (eVar 9) (eCons (eVar 7) eNil))) (eVar 10))))))))))))))))))
noncomputable def f_law_k11 : Sem1 := runF 1 18 b_law_k11
def b_v_law_mixed : Stm :=
  (sSeq (sSetO 2 (eListOf (eCons (eVar 1) eNil)))
  (sSeq (sSetO 3 (eLst eNil))
  (sSeq (sFor (eRng1 (eCons (eArgs (c1 fLen) (eCons (eVar 1) eNil)) eNil)) (tgName 4) (sAppPop 3 2 (eCall f_v_law_pull (eCons (eVar 0) (eCons (eLenO 2) eNil)))))
  (sRetO 3))))
def f_v_law_mixed : Sem1 := runF 2 5 b_v_law_mixed
noncomputable def b_v_law_easier : Stm :=
  (sSeq (sSetO 2 (eLst eNil))
  (sSeq (sFor (eSeq (eVar 1)) (tgTup 4 (tgCons (tgName 3) (tgCons (tgName 4) (tgCons (tgName 5) (tgCons (tgName 6) tgNil))))) (sSeq (sSetO 7 (eLst eNil))
  (sSeq (sFor (eSeq (eVar 6)) (tgName 8) (sIf (eAndT (eTest (eUn (fIsN true) (eVar 8))) (eTest (eBin fGt (eCall f_v_law_pull (eCons (eVar 0) (eCons (eC (.int 3)) eNil))) (eC (.int 0))))) (sApp 7 (eTup (eCons (eBin fSub (eBin fIx (eVar 8) (eC (.int 0))) (eCall f_v_law_pull (eCons (eVar 0) (eCons (eC (.int 2)) eNil)))) (eCons (eBin fAdd (eBin fIx (eVar 8) (eC (.int 1))) (eCall f_v_law_pull (eCons (eVar 0) (eCons (eC (.int 2)) eNil)))) eNil)))) (sApp 7 (eC .non))))
  (sFrz 7 (sApp 2 (eTup (eCons (eMake "Foot" f_Foot_init (eCons (eVar 3) (eCons (eVar 4) eNil))) (eCons (eVar 5) (eCons (eArgs (c1 fTuple) (eCons (eVar 7) eNil)) eNil)))))))))
  (sRetO 2)))
noncomputable def f_v_law_easier : Sem1 := runF 2 9 b_v_law_easier
noncomputable def b_law_k35 : Stm :=
  (sSeq (sSet 1 (eCell (eCallL f_v_law_bag (eCons (eVar 0) eNil))))
  (sSeq (sSet 2 (eCall f_v_law_rim (eCons (eVar 1) (eCons (eBin fIx (eFrz (eLst (eCons (eC (.int 12)) (eCons (eC (.int 48)) (eCons (eC (.int 5)) eNil))))) (eCall f_v_law_pull (eCons (eVar 1) (eCons (eC (.int 3)) eNil)))) eNil))))
  (sSeq (sSet 3 (eCall f_v_law_wishes (eCons (eVar 1) (eCons (eVar 2) (eCons (eC (.int 5)) eNil)))))
  (sSeq (sSet 4 (eFrz (eLc [10, 11, 12, 13] (eSeq (eVar 3)) (tgTup 4 (tgCons (tgName 10) (tgCons (tgName 11) (tgCons (tgName 12) (tgCons (tgName 13) tgNil))))) eYes (eTup (eCons (eMake "Foot" f_Foot_init (eCons (eVar 10) (eCons (eVar 11) eNil))) (eCons (eVar 12) (eCons (eVar 13) eNil)))))))
  (sSeq (sSet 5 (eCall f_v_law_pull (eCons (eVar 1) (eCons (eBin fAdd (eArgs (c1 fLen) (eCons (eVar 4) eNil)) (eC (.int 1))) eNil))))
  (sSeq (sPar 6 7 (eCons (eSl fSl (eVar 4) eNoPart (ePart (eVar 5))) (eCons (eSl fSl (eVar 4) (ePart (eVar 5)) eNoPart) eNil)))
  (sSeq (sSet 8 (eCall f_fullest (eCons (eVar 2) (eCons (eVar 4) eNil))))
  (sSeq (sIf (eOrT (eTest (eBin (fEq true) (eCall f_fullest (eCons (eCall f_fullest (eCons (eVar 2) (eCons (eVar 6) eNil))) (eCons (eVar 7) eNil))) (eVar 8))) (eTest (eBin (fEq true) (eCall f_fullest (eCons (eCall f_fullest (eCons (eVar 2) (eCons (eVar 7) eNil))) (eCons (eVar 6) eNil))) (eVar 8)))) (sRet (eC (.bl false))) sNext)
  (sSeq (sSet 9 (eCall f_v_law_mixed (eCons (eVar 1) (eCons (eVar 4) eNil))))
  (sSeq (sIf (eOrT (eTest (eBin (fEq true) (eCall f_fullest (eCons (eVar 2) (eCons (eVar 9) eNil))) (eVar 8))) (eTest (eBin (fEq true) (eCall f_comes (eCons (eVar 2) (eCons (eVar 9) eNil))) (eCall f_comes (eCons (eVar 2) (eCons (eVar 4) eNil)))))) (sRet (eC (.bl false))) sNext)
  (sSeq (sIf (eOrT (eNotT (eTest (eCall f_within (eCons (eVar 8) (eCons (eCall f_fullest (eCons (eVar 2) (eCons (eVar 6) eNil))) eNil))))) (eNotT (eTest (eCall f_within (eCons (eVar 8) (eCons (eCall f_fullest (eCons (eVar 2) (eCons (eVar 7) eNil))) eNil)))))) (sRet (eC (.bl false))) sNext)
  (sSeq (sIf (eTest (eCall f_comes (eCons (eVar 2) (eCons (eVar 4) eNil)))) (sSeq (sIf (eOrT (eNotT (eTest (eCall f_comes (eCons (eVar 2) (eCons (eVar 6) eNil))))) (eOrT (eNotT (eTest (eCall f_comes (eCons (eVar 2) (eCons (eVar 7) eNil))))) (eNotT (eTest (eCall f_comes (eCons (eVar 8) (eCons (eVar 4) eNil))))))) (sRet (eC (.bl false))) sNext)
  (sIf (eNotT (eTest (eCall f_comes (eCons (eVar 2) (eCons (eCall f_v_law_easier (eCons (eVar 1) (eCons (eVar 3) eNil))) eNil))))) (sRet (eC (.bl false))) sNext)) sNext)
  (sSeq (sIf (eTest (eBin (fEq true) (eCall f_gives (eCons (eVar 2) (eCons (eVar 4) eNil))) (eAndV (eCall f_gives (eCons (eVar 2) (eCons (eVar 6) eNil))) (eCall f_gives (eCons (eVar 2) (eCons (eVar 7) eNil)))))) (sRet (eC (.bl false))) sNext)
  (sRet (eCall f_within (eCons (eVar 8) (eCons (eCall f_fullest (eCons (eVar 2) (eCons (eCall f_v_law_easier (eCons (eVar 1) (eCons (eVar 3) eNil))) eNil))) eNil)))))))))))))))))
noncomputable def f_law_k35 : Sem1 := runF 1 14 b_law_k35
def b_kept_by : Stm :=
  (sRet (eArgs (c1 fAll) (eCons (eFrz (eLc [2] (eSeq (eVar 0)) (tgName 2) eYes (eArgs (c1 fAny) (eCons (eFrz (eLc [3] (eSeq (eVar 2)) (tgName 3) eYes (eBin (fIn false) (eVar 3) (eVar 1)))) eNil)))) eNil)))
def f_kept_by : Sem1 := runF 2 4 b_kept_by
def b_look_cell : Stm :=
  (sIf (eNotT (eTest (eChain fLe fLt (eC (.int 0)) (eVar 1) (eArgs (c1 fLen) (eCons (eVar 0) eNil))))) sNo sNext)
def f_look_cell : Sem1 := runF 2 2 b_look_cell
def b_keeps : Stm :=
  (sSeq (sExpr (eCall f_look_rim (eCons (eVar 0) eNil)))
  (sSeq (sFor (eSeq (eVar 2)) (tgName 3) (sExpr (eCall f_look_cell (eCons (eVar 0) (eCons (eVar 3) eNil)))))
  (sRet (eCall f_kept_by (eCons (eCall f_all_bearing (eCons (eVar 0) (eCons (eVar 1) eNil))) (eCons (eVar 2) eNil))))))
def f_keeps : Sem1 := runF 3 4 b_keeps
noncomputable def b_law_k39 : Stm :=
  (sSeq (sSet 1 (eCell (eCallL f_v_law_bag (eCons (eVar 0) eNil))))
  (sSeq (sSet 2 (eCall f_v_law_rim (eCons (eVar 1) (eCons (eBin fIx (eFrz (eLst (eCons (eC (.int 12)) (eCons (eC (.int 24)) (eCons (eC (.int 48)) eNil))))) (eCall f_v_law_pull (eCons (eVar 1) (eCons (eC (.int 3)) eNil)))) eNil))))
  (sSeq (sSet 3 (eFrz (eLc [13] (eRng1 (eCons (eBin fAdd (eC (.int 1)) (eCall f_v_law_pull (eCons (eVar 1) (eCons (eC (.int 3)) eNil)))) eNil)) (tgName 13) eYes (eCall f_v_law_pair (eCons (eVar 1) eNil)))))
  (sSeq (sSet 4 (eFrz (eLc [14, 15] (eSeq (eVar 3)) (tgTup 2 (tgCons (tgName 14) (tgCons (tgName 15) tgNil))) eYes (eMake "Foot" f_Foot_init (eCons (eVar 14) (eCons (eVar 15) eNil))))))
  (sSeq (sSetO 5 (eLst eNil))
  (sSeq (sSet 6 (eBin fSub (eArgs (c1 fMinT) (eCons (eVar 2) eNil)) (eC (.int 200))))
  (sSeq (sFor (eSeq (eVar 4)) (tgName 7) (sFor (eRng1 (eCons (eArgs (c1 fLen) (eCons (eVar 2) eNil)) eNil)) (tgName 8) (sSeq (sSet 9 (eCall f_bearing (eCons (eVar 2) (eCons (eVar 7) (eCons (eVar 8) eNil)))))
  (sSeq (sIf (eOrT (eTest (eBin (fEq false) (eArgs (c1 fLen) (eCons (eVar 9) eNil)) (eC (.int 0)))) (eTest (eBin (fEq true) (eVar 9) (eFrz (eSortSet (eCons (eVar 9) eNil)))))) (sRet (eC (.bl false))) sNext)
  (sSeq (sSet 10 (eArgs (c1 fTuple) (eCons (eFrz (eLc [16] (eRng1 (eCons (eArgs (c1 fLen) (eCons (eVar 2) eNil)) eNil)) (tgName 16) eYes (eIf (eTest (eBin (fEq false) (eVar 16) (eBin fIx (eVar 9) (eC (.int 0))))) (eBin fIx (eVar 2) (eVar 16)) (eVar 6)))) eNil)))
  (sSeq (sIf (eTest (eBin (fEq true) (eCall f_lift (eCons (eVar 10) (eCons (eVar 7) (eCons (eVar 8) eNil)))) (eCall f_lift (eCons (eVar 2) (eCons (eVar 7) (eCons (eVar 8) eNil)))))) (sRet (eC (.bl false))) sNext)
  (sExt 5 (eVar 9))))))))
  (sFrz 5 (sSeq (sSet 11 (eArgs (c1 fTuple) (eCons (eFrz (eLc [16] (eRng1 (eCons (eArgs (c1 fLen) (eCons (eVar 2) eNil)) eNil)) (tgName 16) eYes (eIf (eTest (eBin (fIn false) (eVar 16) (eVar 5))) (eBin fIx (eVar 2) (eVar 16)) (eBin fSub (eVar 6) (eCall f_v_law_pull (eCons (eVar 1) (eCons (eC (.int 99)) eNil))))))) eNil)))
  (sSeq (sIf (eTest (eBin (fEq true) (eFrz (eLc [7] (eSeq (eVar 4)) (tgName 7) eYes (eCall f_motion (eCons (eVar 11) (eCons (eVar 7) eNil))))) (eFrz (eLc [7] (eSeq (eVar 4)) (tgName 7) eYes (eCall f_motion (eCons (eVar 2) (eCons (eVar 7) eNil))))))) (sRet (eC (.bl false))) sNext)
  (sSeq (sSet 12 (eCall f_idle (eCons (eVar 2) (eCons (eVar 4) eNil))))
  (sSeq (sIf (eNotT (eTest (eArgs (c1 fAll) (eCons (eFrz (eLc [16] (eRng1 (eCons (eArgs (c1 fLen) (eCons (eVar 2) eNil)) eNil)) (tgName 16) (eTest (eBin (fIn true) (eVar 16) (eVar 5))) (eBin (fIn false) (eVar 16) (eVar 12)))) eNil)))) (sRet (eC (.bl false))) sNext)
  (sRet (eCall (f_v_law_like 12) (eCons (eCall f_keeps (eCons (eVar 2) (eCons (eVar 4) (eCons (eCall f_v_law_mixed (eCons (eVar 1) (eCons (eFrz (eSortSetW (eCons (eVar 5) eNil))) eNil))) eNil)))) (eCons (eC (.bl true)) eNil))))))))))))))))
noncomputable def f_law_k39 : Sem1 := runF 1 17 b_law_k39
def b_first_keeper : Stm :=
  (sSeq (sFor (eEnum (eCons (eVar 1) eNil)) (tgTup 2 (tgCons (tgName 4) (tgCons (tgName 5) tgNil))) (sSeq (sSet 6 (eFrz (eLc [7, 8, 9] (eSeq (eCall f_limits_of (eCons (eVar 0) (eCons (eVar 5) eNil)))) (tgTup 3 (tgCons (tgName 7) (tgCons (tgName 8) (tgCons (tgName 9) tgNil)))) (eAndT (eTest (eBin (fEq false) (eVar 7) (eVar 2))) (eTest (eBin fLt (eVar 8) (eVar 3)))) (eVar 9))))
  (sIf (eTest (eBin fGt (eArgs (c1 fLen) (eCons (eVar 6) eNil)) (eC (.int 0)))) (sRet (eTup (eCons (eVar 4) (eCons (eArgs (c1 fMinL) (eCons (eVar 6) eNil)) eNil)))) sNext)))
  (sRet (eC .non)))
def f_first_keeper : Sem1 := runF 4 10 b_first_keeper
def b_reasons_for : Stm :=
  (sSeq (sSetT (tgTup 3 (tgCons (tgName 5) (tgCons (tgName 6) (tgCons (tgName 7) tgNil)))) (eVar 2))
  (sSeq (sSetO 8 (eLst eNil))
  (sSeq (sFor (eSeq (eCall f_touched (eCons (eArgs (c1 fLen) (eCons (eVar 0) eNil)) (eCons (eVar 5) (eCons (eBin fAdd (eVar 6) (eVar 3)) eNil))))) (tgTup 2 (tgCons (tgName 9) (tgCons (tgName 10) tgNil))) (sIf (eTest (eBin fLt (eBin fIx (eVar 0) (eVar 9)) (eBin fAdd (eVar 4) (eVar 10)))) (sApp 8 (eC .non)) (sApp 8 (eCall f_first_keeper (eCons (eArgs (c1 fLen) (eCons (eVar 0) eNil)) (eCons (eVar 1) (eCons (eVar 9) (eCons (eBin fAdd (eVar 4) (eVar 10)) eNil))))))))
  (sRetO 8))))
def f_reasons_for : Sem1 := runF 5 11 b_reasons_for
def b_hindrance : Stm :=
  (sSeq (sExpr (eCall f_look_wishes (eCons (eVar 0) (eCons (eVar 1) eNil))))
  (sSeq (sSet 2 (eCall f_fullest_of (eCons (eVar 0) (eCons (eVar 1) eNil))))
  (sSeq (sFor (eEnum (eCons (eVar 1) eNil)) (tgTup 2 (tgCons (tgName 3) (tgCons (tgName 4) tgNil))) (sSeq (sSet 5 (eCall f_lacking_at (eCons (eVar 2) (eCons (eVar 4) eNil))))
  (sIf (eTest (eUn (fIsN true) (eVar 5))) (sRet (eTup (eCons (eVar 3) (eCons (eBin fIx (eVar 5) (eC (.int 0))) (eCons (eCall f_reasons_for (eCons (eVar 0) (eCons (eVar 1) (eCons (eVar 4) (eCons (eBin fIx (eVar 5) (eC (.int 0))) (eCons (eBin fIx (eVar 5) (eC (.int 1))) eNil)))))) eNil))))) sNext)))
  (sRet (eC .non)))))
def f_hindrance : Sem1 := runF 2 6 b_hindrance
def b_Foot_len : Stm :=
  (sRet (eArgs (c1 fLen) (eCons (eFld "Foot" "drops" (eVar 0)) eNil)))
def f_Foot_len : Sem1 := runF 1 1 b_Foot_len
def b_v_law_reason_holds : Stm :=
  (sSeq (sSetT (tgTup 3 (tgCons (tgName 7) (tgCons (tgName 8) (tgCons (tgName 9) tgNil)))) (eBin fIx (eVar 1) (eVar 4)))
  (sSeq (sSet 10 (eBin fMod (eBin fSub (eBin fAdd (eBin fAdd (eVar 8) (eVar 2)) (eVar 5)) (eFld "Foot" "middle" (eVar 7))) (eArgs (c1 fLen) (eCons (eVar 0) eNil))))
  (sSeq (sSet 11 (eBin fAdd (eVar 3) (eBin fIx (eFld "Foot" "drops" (eVar 7)) (eVar 5))))
  (sSeq (sIf (eTest (eUn (fIsN false) (eVar 6))) (sRet (eBin fLt (eBin fIx (eVar 0) (eVar 10)) (eVar 11))) sNext)
  (sSeq (sSetT (tgTup 3 (tgCons (tgName 12) (tgCons (tgName 13) (tgCons (tgName 14) tgNil)))) (eBin fIx (eVar 1) (eBin fIx (eVar 6) (eC (.int 0)))))
  (sSeq (sIf (eOrT (eTest (eUn (fIsN false) (eBin fIx (eVar 14) (eBin fIx (eVar 6) (eC (.int 1)))))) (eTest (eBin fLt (eBin fIx (eVar 0) (eVar 10)) (eVar 11)))) (sRet (eC (.bl false))) sNext)
  (sSeq (sSet 15 (eBin fSub (eArgs (c1 fMinT) (eCons (eVar 0) eNil)) (eC (.int 400))))
  (sSeq (sSet 16 (eArgs (c1 fTuple) (eCons (eFrz (eLc [17] (eRng1 (eCons (eArgs (c1 fLen) (eCons (eVar 0) eNil)) eNil)) (tgName 17) eYes (eIf (eTest (eBin (fEq false) (eVar 17) (eVar 10))) (eVar 11) (eArgs (c2 fMin2) (eCons (eVar 15) (eCons (eBin fSub (eVar 11) (eC (.int 400))) eNil)))))) eNil)))
  (sRet (eBin fGt (eCall f_lift (eCons (eVar 16) (eCons (eVar 12) (eCons (eBin fAdd (eVar 13) (eBin fIx (eVar 6) (eC (.int 1)))) eNil)))) (eBin fIx (eBin fIx (eVar 14) (eBin fIx (eVar 6) (eC (.int 1)))) (eC (.int 1)))))))))))))
def f_v_law_reason_holds : Sem1 := runF 7 18 b_v_law_reason_holds
noncomputable def b_law_k12 : Stm :=
  (sSeq (sSet 1 (eCell (eCallL f_v_law_bag (eCons (eVar 0) eNil))))
  (sSeq (sFor (eRng1 (eCons (eC (.int 2)) eNil)) (tgName 2) (sSeq (sSet 3 (eCall f_v_law_rim (eCons (eVar 1) (eCons (eBin fIx (eFrz (eLst (eCons (eC (.int 12)) (eCons (eC (.int 48)) (eCons (eC (.int 5)) eNil))))) (eCall f_v_law_pull (eCons (eVar 1) (eCons (eC (.int 3)) eNil)))) eNil))))
  (sSeq (sSet 4 (eCall f_v_law_wishes (eCons (eVar 1) (eCons (eVar 3) (eCons (eC (.int 4)) eNil)))))
  (sSeq (sSet 5 (eFrz (eLc [16, 17, 12, 13] (eSeq (eVar 4)) (tgTup 4 (tgCons (tgName 16) (tgCons (tgName 17) (tgCons (tgName 12) (tgCons (tgName 13) tgNil))))) eYes (eTup (eCons (eMake "Foot" f_Foot_init (eCons (eVar 16) (eCons (eVar 17) eNil))) (eCons (eVar 12) (eCons (eVar 13) eNil)))))))
  (sSeq (sSet 6 (eCall f_hindrance (eCons (eVar 3) (eCons (eVar 5) eNil))))
  (sSeq (sSet 7 (eCall f_fullest (eCons (eVar 3) (eCons (eVar 5) eNil))))
  (sSeq (sIf (eOrT (eTest (eBin (fEq true) (eCall f_comes (eCons (eVar 3) (eCons (eVar 5) eNil))) (eUn (fIsN false) (eVar 6)))) (eTest (eBin (fEq true) (eCall f_gives (eCons (eVar 7) (eCons (eVar 5) eNil))) (eUn (fIsN false) (eVar 6))))) (sRet (eC (.bl false))) sNext)
  (sIf (eTest (eUn (fIsN true) (eVar 6))) (sSeq (sSetT (tgTup 3 (tgCons (tgName 8) (tgCons (tgName 9) (tgCons (tgName 10) tgNil)))) (eVar 6))
  (sSeq (sSetT (tgTup 3 (tgCons (tgName 11) (tgCons (tgName 12) (tgCons (tgName 13) tgNil)))) (eBin fIx (eVar 5) (eVar 8)))
  (sSeq (sSet 14 (eBin fIx (eBin fIx (eVar 13) (eVar 9)) (eC (.int 0))))
  (sSeq (sIf (eOrT (eTest (eBin fGe (eCall f_lift (eCons (eVar 7) (eCons (eVar 11) (eCons (eBin fAdd (eVar 12) (eVar 9)) eNil)))) (eVar 14))) (eTest (eBin (fEq true) (eArgs (c1 fLen) (eCons (eVar 10) eNil)) (eLenI "Foot" f_Foot_len (eVar 11))))) (sRet (eC (.bl false))) sNext)
  (sSeq (sFor (eRng1 (eCons (eArgs (c1 fLen) (eCons (eVar 10) eNil)) eNil)) (tgName 15) (sIf (eNotT (eTest (eCall f_v_law_reason_holds (eCons (eVar 3) (eCons (eVar 5) (eCons (eVar 9) (eCons (eVar 14) (eCons (eVar 8) (eCons (eVar 15) (eCons (eBin fIx (eVar 10) (eVar 15)) eNil)))))))))) (sRet (eC (.bl false))) sNext))
  (sIf (eOrT (eTest (eCall f_gives (eCons (eCall f_v_law_cut_down (eCons (eVar 1) (eCons (eVar 3) eNil))) (eCons (eVar 5) eNil)))) (eTest (eCall f_gives (eCons (eVar 3) (eCons (eVar 5) eNil))))) (sRet (eC (.bl false))) sNext)))))) sNext))))))))
  (sRet (eBin (fEq false) (eArgs (c1 fLen) (eCons (eCall f_motion (eCons (eVar 3) (eCons (eMakeD "Foot" f_Foot_init (eCons (eTup (eCons (eC (.int 0)) eNil)) eNil) 0) eNil))) eNil)) (eArgs (c1 fLen) (eCons (eVar 3) eNil))))))
noncomputable def f_law_k12 : Sem1 := runF 1 18 b_law_k12
def b_lowered : Stm :=
  (sSeq (sExpr (eCall f_look_rim (eCons (eVar 0) eNil)))
  (sSeq (sExpr (eCall f_look_cell (eCons (eVar 0) (eCons (eVar 1) eNil))))
  (sRet (eCall f_cut_at (eCons (eVar 0) (eCons (eVar 1) (eCons (eVar 2) eNil)))))))
def f_lowered : Sem1 := runF 3 3 b_lowered
noncomputable def b_law_k14 : Stm :=
  (sSeq (sSet 1 (eCell (eCallL f_v_law_bag (eCons (eVar 0) eNil))))
  (sSeq (sSet 2 (eCall f_v_law_rim (eCons (eVar 1) (eCons (eBin fIx (eFrz (eLst (eCons (eC (.int 12)) (eCons (eC (.int 24)) (eCons (eC (.int 5)) eNil))))) (eCall f_v_law_pull (eCons (eVar 1) (eCons (eC (.int 3)) eNil)))) eNil))))
  (sSeq (sSet 3 (eFrz (eLc [13] (eRng1 (eCons (eBin fAdd (eC (.int 1)) (eCall f_v_law_pull (eCons (eVar 1) (eCons (eC (.int 4)) eNil)))) eNil)) (tgName 13) eYes (eCall f_v_law_pair (eCons (eVar 1) eNil)))))
  (sSeq (sSet 4 (eFrz (eLc [14, 15] (eSeq (eVar 3)) (tgTup 2 (tgCons (tgName 14) (tgCons (tgName 15) tgNil))) eYes (eMake "Foot" f_Foot_init (eCons (eVar 14) (eCons (eVar 15) eNil))))))
  (sSeq (sSet 5 (eFrz (eLc [16] (eSeq (eVar 4)) (tgName 16) eYes (eCall f_motion (eCons (eVar 2) (eCons (eVar 16) eNil))))))
  (sSeq (sSet 6 (eCall f_idle (eCons (eVar 2) (eCons (eVar 4) eNil))))
  (sSeq (sFor (eRng1 (eCons (eArgs (c1 fLen) (eCons (eVar 2) eNil)) eNil)) (tgName 7) (sSeq (sSet 8 (eCall f_lowered (eCons (eVar 2) (eCons (eVar 7) (eCons (eBin fSub (eBin fIx (eVar 2) (eVar 7)) (eC (.int 1))) eNil)))))
  (sSeq (sSet 9 (eCall f_lowered (eCons (eVar 2) (eCons (eVar 7) (eCons (eBin fSub (eBin fSub (eBin fIx (eVar 2) (eVar 7)) (eC (.int 1))) (eCall f_v_law_pull (eCons (eVar 1) (eCons (eC (.int 300)) eNil)))) eNil)))))
  (sSeq (sSet 10 (eFrz (eLc [16] (eSeq (eVar 4)) (tgName 16) eYes (eCall f_motion (eCons (eVar 8) (eCons (eVar 16) eNil))))))
  (sSeq (sIf (eTest (eBin (fEq true) (eBin (fEq false) (eVar 10) (eVar 5)) (eBin (fIn false) (eVar 7) (eVar 6)))) (sRet (eC (.bl false))) sNext)
  (sSeq (sIf (eTest (eBin (fEq true) (eBin (fEq false) (eFrz (eLc [16] (eSeq (eVar 4)) (tgName 16) eYes (eCall f_motion (eCons (eVar 9) (eCons (eVar 16) eNil))))) (eVar 5)) (eBin (fIn false) (eVar 7) (eVar 6)))) (sRet (eC (.bl false))) sNext)
  (sSeq (sFor (eRng1 (eCons (eArgs (c1 fLen) (eCons (eVar 4) eNil)) eNil)) (tgName 11) (sIf (eNotT (eTest (eArgs (c1 fAll) (eCons (eFrz (eLc [18, 19] (eZipS (eCons (eBin fIx (eVar 10) (eVar 11)) (eCons (eBin fIx (eVar 5) (eVar 11)) eNil))) (tgTup 2 (tgCons (tgName 18) (tgCons (tgName 19) tgNil))) eYes (eChain fLe fLe (eBin fSub (eVar 19) (eC (.int 1))) (eVar 18) (eVar 19)))) eNil)))) (sRet (eC (.bl false))) sNext))
  (sSeq (sSet 12 (eFrz (eLc [17] (eRng1 (eCons (eArgs (c1 fLen) (eCons (eVar 2) eNil)) eNil)) (tgName 17) (eTest (eBin (fEq true) (eVar 17) (eVar 7))) (eVar 17))))
  (sIf (eNotT (eTest (eCall (f_v_law_like 12) (eCons (eCall f_keeps (eCons (eVar 2) (eCons (eVar 4) (eCons (eVar 12) eNil)))) (eCons (eBin (fIn false) (eVar 7) (eVar 6)) eNil))))) (sRet (eC (.bl false))) sNext)))))))))
  (sRet (eCall (f_v_law_like 12) (eCons (eCall f_keeps (eCons (eVar 2) (eCons (eVar 4) (eCons (eFrz (eLstRg (eArgs (c1 fLen) (eCons (eVar 2) eNil)))) eNil)))) (eCons (eC (.bl true)) eNil)))))))))))
noncomputable def f_law_k14 : Sem1 := runF 1 20 b_law_k14
def b_least_height : Stm :=
  (sSeq (sSetO 3 (eLst eNil))
  (sSeq (sFor (eSeq (eVar 1)) (tgName 4) (sSeq (sSetT (tgTup 3 (tgCons (tgName 5) (tgCons (tgName 6) (tgCons (tgName 7) tgNil)))) (eVar 4))
  (sFor (eSeq (eCall f_asked_of (eCons (eVar 4) eNil))) (tgTup 3 (tgCons (tgName 8) (tgCons (tgName 9) (tgCons (tgName 10) tgNil)))) (sSeq (sSet 11 (eCall f_touched (eCons (eArgs (c1 fLen) (eCons (eVar 0) eNil)) (eCons (eVar 5) (eCons (eBin fAdd (eVar 6) (eVar 8)) eNil)))))
  (sIf (eNotT (eTest (eArgs (c1 fAny) (eCons (eFrz (eLc [12, 13] (eSeq (eVar 11)) (tgTup 2 (tgCons (tgName 12) (tgCons (tgName 13) tgNil))) (eTest (eBin (fEq true) (eVar 12) (eVar 2))) (eBin fGe (eBin fSub (eBin fIx (eVar 0) (eVar 12)) (eVar 13)) (eVar 9)))) eNil)))) (sApp 3 (eBin fAdd (eVar 9) (eArgs (c1 fMinL) (eCons (eFrz (eLc [12, 13] (eSeq (eVar 11)) (tgTup 2 (tgCons (tgName 12) (tgCons (tgName 13) tgNil))) (eTest (eBin (fEq false) (eVar 12) (eVar 2))) (eVar 13))) eNil)))) sNext)))))
  (sFrz 3 (sRet (eMaxD (eCons (eVar 3) eNil))))))
def f_least_height : Sem1 := runF 3 14 b_least_height
def b_heights : Stm :=
  (sSeq (sExpr (eCall f_look_wishes (eCons (eVar 0) (eCons (eVar 1) eNil))))
  (sSeq (sIf (eNotT (eTest (eCall f_can_come (eCons (eVar 0) (eCons (eVar 1) eNil))))) (sRet (eC .non)) sNext)
  (sSeq (sSet 2 (eCall f_fullest_of (eCons (eVar 0) (eCons (eVar 1) eNil))))
  (sRetL (eLc [3] (eRng1 (eCons (eArgs (c1 fLen) (eCons (eVar 2) eNil)) eNil)) (tgName 3) eYes (eTup (eCons (eCall f_least_height (eCons (eVar 2) (eCons (eVar 1) (eCons (eVar 3) eNil)))) (eCons (eBin fIx (eVar 2) (eVar 3)) eNil))))))))
def f_heights : Sem1 := runF 2 4 b_heights
noncomputable def b_law_k17 : Stm :=
  (sSeq (sSet 1 (eCell (eCallL f_v_law_bag (eCons (eVar 0) eNil))))
  (sSeq (sSet 2 (eCall f_v_law_rim (eCons (eVar 1) (eCons (eBin fIx (eFrz (eLst (eCons (eC (.int 12)) (eCons (eC (.int 24)) (eCons (eC (.int 5)) eNil))))) (eCall f_v_law_pull (eCons (eVar 1) (eCons (eC (.int 3)) eNil)))) eNil))))
  (sSeq (sSet 3 (eCall f_v_law_cut_down (eCons (eVar 1) (eCons (eVar 2) eNil))))
  (sSeq (sSet 4 (eFrz (eLc [14] (eRng1 (eCons (eCall f_v_law_pull (eCons (eVar 1) (eCons (eC (.int 4)) eNil))) eNil)) (tgName 14) eYes (eCall f_v_law_wish (eCons (eVar 1) (eCons (eVar 3) eNil))))))
  (sSeq (sSet 5 (eFrz (eLc [15, 16, 17, 18] (eSeq (eVar 4)) (tgTup 4 (tgCons (tgName 15) (tgCons (tgName 16) (tgCons (tgName 17) (tgCons (tgName 18) tgNil))))) eYes (eTup (eCons (eMake "Foot" f_Foot_init (eCons (eVar 15) (eCons (eVar 16) eNil))) (eCons (eVar 17) (eCons (eVar 18) eNil)))))))
  (sSeq (sSet 6 (eCall f_heights (eCons (eVar 2) (eCons (eVar 5) eNil))))
  (sSeq (sSet 7 (eCall f_fullest (eCons (eVar 2) (eCons (eVar 5) eNil))))
  (sSeq (sIf (eOrT (eTest (eUn (fIsN false) (eVar 6))) (eOrT (eNotT (eTest (eCall f_comes (eCons (eVar 2) (eCons (eVar 5) eNil))))) (eTest (eBin (fEq true) (eArgs (c1 fLen) (eCons (eVar 6) eNil)) (eArgs (c1 fLen) (eCons (eVar 2) eNil)))))) (sRet (eC (.bl false))) sNext)
  (sSeq (sFor (eRng1 (eCons (eArgs (c1 fLen) (eCons (eVar 3) eNil)) eNil)) (tgName 8) (sSeq (sSetT (tgTup 2 (tgCons (tgName 9) (tgCons (tgName 10) tgNil))) (eBin fIx (eVar 6) (eVar 8)))
  (sSeq (sSet 11 (eIf (eTest (eUn (fIsN false) (eVar 9))) (eBin fSub (eBin fIx (eVar 7) (eVar 8)) (eBin fPow (eC (.int 10)) (eC (.int 6)))) (eVar 9)))
  (sSeq (sIf (eOrT (eTest (eBin (fEq true) (eVar 10) (eBin fIx (eVar 7) (eVar 8)))) (eNotT (eTest (eChain fLe fLe (eVar 11) (eBin fIx (eVar 3) (eVar 8)) (eVar 10))))) (sRet (eC (.bl false))) sNext)
  (sSeq (sSet 12 (eBin fAdd (eVar 11) (eCall f_v_law_pull (eCons (eVar 1) (eCons (eBin fAdd (eBin fSub (eVar 10) (eVar 11)) (eC (.int 1))) eNil)))))
  (sSeq (sFor (eSeq (eFrz (eLst (eCons (eVar 11) (eCons (eVar 12) eNil))))) (tgName 13) (sIf (eNotT (eTest (eCall f_gives (eCons (eBin fAdd (eBin fAdd (eSl fSl (eVar 7) eNoPart (ePart (eVar 8))) (eTup (eCons (eVar 13) eNil))) (eSl fSl (eVar 7) (ePart (eBin fAdd (eVar 8) (eC (.int 1)))) eNoPart)) (eCons (eVar 5) eNil))))) (sRet (eC (.bl false))) sNext))
  (sSeq (sIf (eAndT (eTest (eUn (fIsN true) (eVar 9))) (eTest (eCall f_gives (eCons (eBin fAdd (eBin fAdd (eSl fSl (eVar 7) eNoPart (ePart (eVar 8))) (eTup (eCons (eBin fSub (eVar 9) (eC (.int 1))) eNil))) (eSl fSl (eVar 7) (ePart (eBin fAdd (eVar 8) (eC (.int 1)))) eNoPart)) (eCons (eVar 5) eNil))))) (sRet (eC (.bl false))) sNext)
  (sIf (eAndT (eTest (eBin fLt (eVar 10) (eBin fIx (eVar 2) (eVar 8)))) (eTest (eCall f_gives (eCons (eBin fAdd (eBin fAdd (eSl fSl (eVar 7) eNoPart (ePart (eVar 8))) (eTup (eCons (eBin fAdd (eVar 10) (eC (.int 1))) eNil))) (eSl fSl (eVar 7) (ePart (eBin fAdd (eVar 8) (eC (.int 1)))) eNoPart)) (eCons (eVar 5) eNil))))) (sRet (eC (.bl false))) sNext))))))))
  (sRet (eC (.bl true))))))))))))
noncomputable def f_law_k17 : Sem1 := runF 1 19 b_law_k17
def b_turned : Stm :=
  (sSeq (sExpr (eCall f_look_rim (eCons (eVar 0) eNil)))
  (sSeq (sSet 2 (eBin fMod (eVar 1) (eArgs (c1 fLen) (eCons (eVar 0) eNil))))
  (sRet (eBin fAdd (eSl fSl (eVar 0) (ePart (eVar 2)) eNoPart) (eSl fSl (eVar 0) eNoPart (ePart (eVar 2)))))))
def f_turned : Sem1 := runF 2 3 b_turned
noncomputable def b_law_k36 : Stm :=
  (sSeq (sSet 1 (eCell (eCallL f_v_law_bag (eCons (eVar 0) eNil))))
  (sSeq (sSet 2 (eCall f_v_law_rim (eCons (eVar 1) (eCons (eBin fIx (eFrz (eLst (eCons (eC (.int 12)) (eCons (eC (.int 48)) (eCons (eC (.int 5)) eNil))))) (eCall f_v_law_pull (eCons (eVar 1) (eCons (eC (.int 3)) eNil)))) eNil))))
  (sSeq (sSet 3 (eArgs (c1 fLen) (eCons (eVar 2) eNil)))
  (sSeq (sSet 4 (eCall f_v_law_wishes (eCons (eVar 1) (eCons (eVar 2) (eCons (eC (.int 4)) eNil)))))
  (sSeq (sSet 5 (eFrz (eLc [20, 21, 17, 18] (eSeq (eVar 4)) (tgTup 4 (tgCons (tgName 20) (tgCons (tgName 21) (tgCons (tgName 17) (tgCons (tgName 18) tgNil))))) eYes (eTup (eCons (eMake "Foot" f_Foot_init (eCons (eVar 20) (eCons (eVar 21) eNil))) (eCons (eVar 17) (eCons (eVar 18) eNil)))))))
  (sSeq (sSet 6 (eCall f_v_law_angle (eCons (eVar 1) eNil)))
  (sSeq (sSet 7 (eCall f_turned (eCons (eVar 2) (eCons (eVar 6) eNil))))
  (sSeq (sSet 8 (eFrz (eLc [16, 17, 18] (eSeq (eVar 5)) (tgTup 3 (tgCons (tgName 16) (tgCons (tgName 17) (tgCons (tgName 18) tgNil)))) eYes (eTup (eCons (eVar 16) (eCons (eBin fAdd (eBin fSub (eVar 17) (eVar 6)) (eBin fMul (eVar 3) (eBin fSub (eCall f_v_law_pull (eCons (eVar 1) (eCons (eC (.int 5)) eNil))) (eC (.int 2))))) (eCons (eVar 18) eNil)))))))
  (sSeq (sSet 9 (eCall f_fullest (eCons (eVar 2) (eCons (eVar 5) eNil))))
  (sSeq (sIf (eOrT (eTest (eBin (fEq true) (eCall f_fullest (eCons (eVar 7) (eCons (eVar 8) eNil))) (eCall f_turned (eCons (eVar 9) (eCons (eVar 6) eNil))))) (eTest (eBin (fEq true) (eCall f_comes (eCons (eVar 7) (eCons (eVar 8) eNil))) (eCall f_comes (eCons (eVar 2) (eCons (eVar 5) eNil)))))) (sRet (eC (.bl false))) sNext)
  (sSeq (sIf (eTest (eBin (fEq true) (eCall f_hindrance (eCons (eVar 7) (eCons (eVar 8) eNil))) (eCall f_hindrance (eCons (eVar 2) (eCons (eVar 5) eNil))))) (sRet (eC (.bl false))) sNext)
  (sSeq (sSetT (tgTup 2 (tgCons (tgName 10) (tgCons (tgName 11) tgNil))) (eTup (eCons (eCall f_heights (eCons (eVar 2) (eCons (eVar 5) eNil))) (eCons (eCall f_heights (eCons (eVar 7) (eCons (eVar 8) eNil))) eNil))))
  (sSeq (sIf (eTest (eBin (fEq true) (eUn (fIsN false) (eVar 10)) (eUn (fIsN false) (eVar 11)))) (sRet (eC (.bl false))) sNext)
  (sSeq (sIf (eAndT (eTest (eUn (fIsN true) (eVar 10))) (eTest (eBin (fEq true) (eVar 11) (eFrz (eLc [24] (eRng1 (eCons (eVar 3) eNil)) (tgName 24) eYes (eBin fIx (eVar 10) (eBin fMod (eBin fAdd (eVar 24) (eVar 6)) (eVar 3)))))))) (sRet (eC (.bl false))) sNext)
  (sSeq (sSet 12 (eFrz (eLc [16, 17, 18] (eSeq (eVar 5)) (tgTup 3 (tgCons (tgName 16) (tgCons (tgName 17) (tgCons (tgName 18) tgNil)))) eYes (eVar 16))))
  (sSeq (sIf (eTest (eBin (fEq true) (eArgs (c1 fSorted) (eCons (eFrz (eLc [25] (eSeq (eCall f_idle (eCons (eVar 2) (eCons (eVar 12) eNil)))) (tgName 25) eYes (eBin fMod (eBin fSub (eVar 25) (eVar 6)) (eVar 3)))) eNil)) (eCall f_idle (eCons (eVar 7) (eCons (eVar 12) eNil))))) (sRet (eC (.bl false))) sNext)
  (sSeq (sSet 13 (eCall f_v_law_height (eCons (eVar 1) eNil)))
  (sSeq (sSet 14 (eArgs (c1 fTuple) (eCons (eFrz (eLc [22] (eSeq (eVar 2)) (tgName 22) eYes (eBin fAdd (eVar 22) (eVar 13)))) eNil)))
  (sSeq (sSetO 15 (eLst eNil))
  (sSeq (sFor (eSeq (eVar 5)) (tgTup 3 (tgCons (tgName 16) (tgCons (tgName 17) (tgCons (tgName 18) tgNil)))) (sSeq (sSet 19 (eFrz (eLc [23] (eSeq (eVar 18)) (tgName 23) eYes (eIf (eTest (eUn (fIsN false) (eVar 23))) (eC .non) (eTup (eCons (eBin fAdd (eBin fIx (eVar 23) (eC (.int 0))) (eVar 13)) (eCons (eBin fAdd (eBin fIx (eVar 23) (eC (.int 1))) (eVar 13)) eNil)))))))
  (sApp 15 (eTup (eCons (eVar 16) (eCons (eVar 17) (eCons (eArgs (c1 fTuple) (eCons (eVar 19) eNil)) eNil)))))))
  (sFrz 15 (sSeq (sIf (eTest (eBin (fEq true) (eCall f_hindrance (eCons (eVar 14) (eCons (eVar 15) eNil))) (eCall f_hindrance (eCons (eVar 2) (eCons (eVar 5) eNil))))) (sRet (eC (.bl false))) sNext)
  (sRet (eBin (fEq false) (eCall f_fullest (eCons (eVar 14) (eCons (eVar 15) eNil))) (eArgs (c1 fTuple) (eCons (eFrz (eLc [22] (eSeq (eVar 9)) (tgName 22) eYes (eBin fAdd (eVar 22) (eVar 13)))) eNil))))))))))))))))))))))))))
noncomputable def f_law_k36 : Sem1 := runF 1 26 b_law_k36
def b_v_law_within : Stm :=
  (sSeq (sFor (eRng1 (eCons (eArgs (c1 fLen) (eCons (eVar 0) eNil)) eNil)) (tgName 2) (sSeq (sIf (eTest (eBin fGt (eBin fIx (eBin fIx (eVar 0) (eVar 2)) (eC (.int 1))) (eBin fIx (eBin fIx (eVar 1) (eVar 2)) (eC (.int 1))))) (sRet (eC (.bl false))) sNext)
  (sIf (eAndT (eTest (eUn (fIsN true) (eBin fIx (eBin fIx (eVar 1) (eVar 2)) (eC (.int 0))))) (eOrT (eTest (eUn (fIsN false) (eBin fIx (eBin fIx (eVar 0) (eVar 2)) (eC (.int 0))))) (eTest (eBin fLt (eBin fIx (eBin fIx (eVar 0) (eVar 2)) (eC (.int 0))) (eBin fIx (eBin fIx (eVar 1) (eVar 2)) (eC (.int 0))))))) (sRet (eC (.bl false))) sNext)))
  (sRet (eC (.bl true))))
def f_v_law_within : Sem1 := runF 2 3 b_v_law_within
noncomputable def b_law_k40 : Stm :=
  (sSeq (sSet 1 (eCell (eCallL f_v_law_bag (eCons (eVar 0) eNil))))
  (sSeq (sSet 2 (eCall f_v_law_rim (eCons (eVar 1) (eCons (eBin fIx (eFrz (eLst (eCons (eC (.int 12)) (eCons (eC (.int 24)) (eCons (eC (.int 5)) eNil))))) (eCall f_v_law_pull (eCons (eVar 1) (eCons (eC (.int 3)) eNil)))) eNil))))
  (sSeq (sSet 3 (eCall f_v_law_cut_down (eCons (eVar 1) (eCons (eVar 2) eNil))))
  (sSeq (sSetO 4 (eLc [11] (eRng1 (eCons (eBin fAdd (eC (.int 1)) (eCall f_v_law_pull (eCons (eVar 1) (eCons (eC (.int 4)) eNil)))) eNil)) (tgName 11) eYes (eCall f_v_law_wish (eCons (eVar 1) (eCons (eVar 3) eNil)))))
  (sSeq (sIf (eTest (eBin (fEq false) (eCall f_v_law_pull (eCons (eVar 1) (eCons (eC (.int 3)) eNil))) (eC (.int 0)))) (sSetIO 4 (eUn fNeg (eC (.int 1))) (eCall f_v_law_bent_wish (eCons (eVar 1) (eCons (eIxO 4 (eUn fNeg (eC (.int 1)))) eNil)))) sNext)
  (sFrz 4 (sSeq (sSet 5 (eFrz (eLc [12, 13, 14, 15] (eSeq (eVar 4)) (tgTup 4 (tgCons (tgName 12) (tgCons (tgName 13) (tgCons (tgName 14) (tgCons (tgName 15) tgNil))))) eYes (eTup (eCons (eMake "Foot" f_Foot_init (eCons (eVar 12) (eCons (eVar 13) eNil))) (eCons (eVar 14) (eCons (eVar 15) eNil)))))))
  (sSeq (sSet 6 (eCall f_v_law_pull (eCons (eVar 1) (eCons (eArgs (c1 fLen) (eCons (eVar 2) eNil)) eNil))))
  (sSeq (sSet 7 (eBin fAdd (eBin fAdd (eSl fSl (eVar 2) eNoPart (ePart (eVar 6))) (eTup (eCons (eBin fSub (eBin fIx (eVar 2) (eVar 6)) (eCall f_v_law_pull (eCons (eVar 1) (eCons (eC (.int 4)) eNil)))) eNil))) (eSl fSl (eVar 2) (ePart (eBin fAdd (eVar 6) (eC (.int 1)))) eNoPart)))
  (sSeq (sPar3 8 9 10 (eCons (eCall f_heights (eCons (eVar 2) (eCons (eSl fSl (eVar 5) eNoPart (ePart (eUn fNeg (eC (.int 1))))) eNil))) (eCons (eCall f_heights (eCons (eVar 2) (eCons (eVar 5) eNil))) (eCons (eCall f_heights (eCons (eVar 7) (eCons (eVar 5) eNil))) eNil))))
  (sSeq (sIf (eOrT (eTest (eUn (fIsN false) (eVar 8))) (eTest (eBin (fEq true) (eCall f_comes (eCons (eVar 2) (eCons (eVar 5) eNil))) (eUn (fIsN true) (eVar 9))))) (sRet (eC (.bl false))) sNext)
  (sSeq (sIf (eTest (eUn (fIsN false) (eVar 9))) (sRet (eAndV (eUn (fIsN false) (eVar 10)) (eAndV (eUn (fIsN true) (eCall f_hindrance (eCons (eVar 2) (eCons (eVar 5) eNil)))) (eUn (fIsN true) (eCall f_hindrance (eCons (eVar 7) (eCons (eVar 5) eNil))))))) sNext)
  (sSeq (sIf (eNotT (eTest (eCall f_v_law_within (eCons (eVar 9) (eCons (eVar 8) eNil))))) (sRet (eC (.bl false))) sNext)
  (sRet (eOrV (eUn (fIsN false) (eVar 10)) (eCall f_v_law_within (eCons (eVar 10) (eCons (eVar 9) eNil))))))))))))))))))
noncomputable def f_law_k40 : Sem1 := runF 1 16 b_law_k40
def b_look_cell_2 : Stm :=
  (sIf (eNotT (eTest (eChain fLe fLt (eC (.int 0)) (eVar 1) (eArgs (c1 fLen) (eCons (eVar 0) eNil))))) (sRaiseX "BadCell" (eVar 1)) sNext)
def f_look_cell_2 : Sem1 := runF 2 2 b_look_cell_2
def b_lowered_2 : Stm :=
  (sSeq (sExpr (eCall f_look_rim (eCons (eVar 0) eNil)))
  (sSeq (sExpr (eCall f_look_cell_2 (eCons (eVar 0) (eCons (eVar 1) eNil))))
  (sRet (eCall f_cut_at (eCons (eVar 0) (eCons (eVar 1) (eCons (eVar 2) eNil)))))))
def f_lowered_2 : Sem1 := runF 3 3 b_lowered_2
def b_v_law_told_5 : Stm :=
  (sTryX (subT [("BadCell", "BadRim", false), ("BadRim", "BadRim", true), ("BadCell", "BadCell", true), ("BadRim", "BadCell", false)]) (sRet (eCall f_lowered_2 (eCons (eVar 0) (eCons (eVar 1) (eCons (eVar 2) eNil))))) (("BadRim", kPlain (sRet (eC (.str "BadRim")))) :: ("BadCell", kReadF 3 "BadCell") :: []))
def f_v_law_told_5 : Sem1 := runF 3 4 b_v_law_told_5
def b_v_law_turned : Stm :=
  (sTry (subT [("BadCell", "BadRim", false), ("BadRim", "BadRim", true)]) (sRet (eCallK f_turned 1 1 [.p 0, .k 0] [1] (eCons (eVar 0) eNil) (eCons (eVar 1) eNil))) (("BadRim", (sRet (eC (.str "BadRim")))) :: []))
def f_v_law_turned : Sem1 := runF 2 2 b_v_law_turned
def b_law_k02 : Stm :=
  (sSeq (sSet 1 (eCell (eCallL f_v_law_bag (eCons (eVar 0) eNil))))
  (sSeq (sFor (eRng1 (eCons (eC (.int 4)) eNil)) (tgName 2) (sSeq (sSet 3 (eCall f_v_law_rim (eCons (eVar 1) (eCons (eC (.int 48)) eNil))))
  (sSeq (sIf (eTest (eBin (fEq false) (eCall f_v_law_pull (eCons (eVar 1) (eCons (eC (.int 7)) eNil))) (eC (.int 0)))) (sSet 3 (eCall f_v_law_bad_rim (eCons (eVar 1) (eCons (eVar 3) eNil)))) sNext)
  (sSeq (sSet 4 (eChain fLe fLe (eC (.int 3)) (eArgs (c1 fLen) (eCons (eVar 3) eNil)) (eC (.int 48))))
  (sSeq (sSet 5 (eBin fSub (eCall f_v_law_pull (eCons (eVar 1) (eCons (eC (.int 50)) eNil))) (eC (.int 1))))
  (sSeq (sIf (eTest (eBin (fEq false) (eCall f_v_law_pull (eCons (eVar 1) (eCons (eC (.int 5)) eNil))) (eC (.int 0)))) (sSet 5 (eBin fIx (eFrz (eLst (eCons (eCall f_v_law_far (eCons (eVar 1) eNil)) (eCons (eArgs (c1 fLen) (eCons (eVar 3) eNil)) (eCons (eC (.int 0)) eNil))))) (eCall f_v_law_pull (eCons (eVar 1) (eCons (eC (.int 3)) eNil))))) sNext)
  (sSeq (sSet 6 (eCall f_v_law_height (eCons (eVar 1) eNil)))
  (sSeq (sSet 7 (eCall f_v_law_angle (eCons (eVar 1) eNil)))
  (sSeq (sSet 8 (eC (.str "BadRim")))
  (sSeq (sIf (eTest (eVar 4)) (sSeq (sSet 8 (eVar 5))
  (sIf (eTest (eChain fLe fLt (eC (.int 0)) (eVar 5) (eArgs (c1 fLen) (eCons (eVar 3) eNil)))) (sSet 8 (eArgs (c1 fTuple) (eCons (eFrz (eLc [9] (eRng1 (eCons (eArgs (c1 fLen) (eCons (eVar 3) eNil)) eNil)) (tgName 9) eYes (eIf (eTest (eBin (fEq false) (eVar 9) (eVar 5))) (eArgs (c2 fMin2) (eCons (eBin fIx (eVar 3) (eVar 9)) (eCons (eVar 6) eNil))) (eBin fIx (eVar 3) (eVar 9))))) eNil))) sNext)) sNext)
  (sSeq (sIf (eNotT (eTest (eCall (f_v_law_like 12) (eCons (eCall f_v_law_told_5 (eCons (eVar 3) (eCons (eVar 5) (eCons (eVar 6) eNil)))) (eCons (eVar 8) eNil))))) (sRet (eC (.bl false))) sNext)
  (sSeq (sSet 8 (eC (.str "BadRim")))
  (sSeq (sIf (eTest (eVar 4)) (sSeq (sSet 8 (eArgs (c1 fTuple) (eCons (eFrz (eLc [9] (eRng1 (eCons (eArgs (c1 fLen) (eCons (eVar 3) eNil)) eNil)) (tgName 9) eYes (eBin fIx (eVar 3) (eBin fMod (eBin fAdd (eVar 9) (eVar 7)) (eArgs (c1 fLen) (eCons (eVar 3) eNil)))))) eNil)))
  (sIf (eOrT (eTest (eBin (fEq true) (eCallK f_turned 1 0 [.p 0, .c 0] [1] (eCons (eVar 3) eNil) eNil) (eBin fAdd (eSl fSl (eVar 3) (ePart (eC (.int 1))) eNoPart) (eSl fSl (eVar 3) eNoPart (ePart (eC (.int 1))))))) (eTest (eBin (fEq true) (eCallK f_lowered_2 2 0 [.p 0, .p 1, .c 0] [0] (eCons (eVar 3) (eCons (eC (.int 0)) eNil)) eNil) (eBin fAdd (eTup (eCons (eArgs (c2 fMin2) (eCons (eC (.int 0)) (eCons (eBin fIx (eVar 3) (eC (.int 0))) eNil))) eNil)) (eSl fSl (eVar 3) (ePart (eC (.int 1))) eNoPart))))) (sRet (eC (.bl false))) sNext)) sNext)
  (sIf (eNotT (eTest (eCall (f_v_law_like 12) (eCons (eCall f_v_law_turned (eCons (eVar 3) (eCons (eVar 7) eNil))) (eCons (eVar 8) eNil))))) (sRet (eC (.bl false))) sNext))))))))))))))
  (sRet (eC (.bl true)))))
def f_law_k02 : Sem1 := runF 1 10 b_law_k02
def b_look_wishes_2 : Stm :=
  (sSeq (sExpr (eCall f_look_rim (eCons (eVar 0) eNil)))
  (sSeq (sFor (eSeq (eVar 1)) (tgTup 3 (tgCons (tgName 2) (tgCons (tgName 3) (tgCons (tgName 4) tgNil)))) (sIf (eTest (eBin (fEq true) (eArgs (c1 fLen) (eCons (eVar 4) eNil)) (eArgs (c1 fLen) (eCons (eVar 0) eNil)))) (sRaise0 "BadSize") sNext))
  (sFor (eEnum (eCons (eVar 1) eNil)) (tgTup 2 (tgCons (tgName 5) (tgCons (tgTup 3 (tgCons (tgName 2) (tgCons (tgName 3) (tgCons (tgName 4) tgNil)))) tgNil))) (sIf (eTest (eArgs (c1 fAny) (eCons (eFrz (eLc [6] (eSeq (eVar 4)) (tgName 6) eYes (eAndV (eUn (fIsN true) (eVar 6)) (eBin fGt (eBin fIx (eVar 6) (eC (.int 0))) (eBin fIx (eVar 6) (eC (.int 1))))))) eNil))) (sRaiseX "BadWish" (eVar 5)) sNext))))
def f_look_wishes_2 : Sem1 := runF 2 7 b_look_wishes_2
def b_heights_2 : Stm :=
  (sSeq (sExpr (eCall f_look_wishes_2 (eCons (eVar 0) (eCons (eVar 1) eNil))))
  (sSeq (sIf (eNotT (eTest (eCall f_can_come (eCons (eVar 0) (eCons (eVar 1) eNil))))) (sRet (eC .non)) sNext)
  (sSeq (sSet 2 (eCall f_fullest_of (eCons (eVar 0) (eCons (eVar 1) eNil))))
  (sRetL (eLc [3] (eRng1 (eCons (eArgs (c1 fLen) (eCons (eVar 2) eNil)) eNil)) (tgName 3) eYes (eTup (eCons (eCall f_least_height (eCons (eVar 2) (eCons (eVar 1) (eCons (eVar 3) eNil)))) (eCons (eBin fIx (eVar 2) (eVar 3)) eNil))))))))
def f_heights_2 : Sem1 := runF 2 4 b_heights_2
def b_v_law_told_6 : Stm :=
  (sTryX (subT [("BadFoot", "BadRim", false), ("BadRim", "BadRim", true), ("BadSize", "BadRim", false), ("BadWish", "BadRim", false), ("BadFoot", "BadSize", false), ("BadRim", "BadSize", false), ("BadSize", "BadSize", true), ("BadWish", "BadSize", false), ("BadFoot", "BadWish", false), ("BadRim", "BadWish", false), ("BadSize", "BadWish", false), ("BadWish", "BadWish", true)]) (sRetC f_heights_2 (eCons (eVar 0) (eCons (eVar 1) eNil))) (("BadRim", kPlain (sRetL (eLst (eCons (eC (.str "BadRim")) eNil)))) :: ("BadSize", kPlain (sRetL (eLst (eCons (eC (.str "BadSize")) eNil)))) :: ("BadWish", kReadL 2 "BadWish" "BadWish") :: []))
def f_v_law_told_6 : Sem1 := runF 2 3 b_v_law_told_6
def b_v_law_needed : Stm :=
  (sSeq (sSetO 3 (eLst eNil))
  (sSeq (sFor (eSeq (eVar 1)) (tgTup 4 (tgCons (tgName 4) (tgCons (tgName 5) (tgCons (tgName 6) (tgCons (tgName 7) tgNil))))) (sFor (eSeq (eCall f_v_law_pairs (eCons (eVar 7) eNil))) (tgTup 3 (tgCons (tgName 8) (tgCons (tgName 9) (tgCons (tgName 10) tgNil)))) (sSeq (sSet 11 (eCall f_v_law_spots (eCons (eArgs (c1 fLen) (eCons (eVar 0) eNil)) (eCons (eVar 4) (eCons (eVar 5) (eCons (eBin fAdd (eVar 6) (eVar 8)) eNil))))))
  (sSeq (sSet 12 (eFrz (eLc [14, 15] (eSeq (eVar 11)) (tgTup 2 (tgCons (tgName 14) (tgCons (tgName 15) tgNil))) (eTest (eBin (fEq true) (eVar 14) (eVar 2))) (eBin fSub (eBin fIx (eVar 0) (eVar 14)) (eVar 15)))))
  (sSeq (sSet 13 (eFrz (eLc [14, 15] (eSeq (eVar 11)) (tgTup 2 (tgCons (tgName 14) (tgCons (tgName 15) tgNil))) (eTest (eBin (fEq false) (eVar 14) (eVar 2))) (eBin fAdd (eVar 9) (eVar 15)))))
  (sIf (eOrT (eTest (eBin (fEq false) (eArgs (c1 fLen) (eCons (eVar 12) eNil)) (eC (.int 0)))) (eTest (eBin fLt (eArgs (c1 fMaxL) (eCons (eVar 12) eNil)) (eVar 9)))) (sApp 3 (eArgs (c1 fMinL) (eCons (eVar 13) eNil))) sNext))))))
  (sFrz 3 (sRet (eIf (eTest (eBin fGt (eArgs (c1 fLen) (eCons (eVar 3) eNil)) (eC (.int 0)))) (eArgs (c1 fMaxL) (eCons (eVar 3) eNil)) (eC .non))))))
def f_v_law_needed : Sem1 := runF 3 16 b_v_law_needed
noncomputable def b_law_k16 : Stm :=
  (sSeq (sSet 1 (eCell (eCallL f_v_law_bag (eCons (eVar 0) eNil))))
  (sSeq (sFor (eRng1 (eCons (eC (.int 2)) eNil)) (tgName 2) (sSeq (sSet 3 (eCall f_v_law_rim (eCons (eVar 1) (eCons (eBin fIx (eFrz (eLst (eCons (eC (.int 12)) (eCons (eC (.int 48)) (eCons (eC (.int 5)) eNil))))) (eCall f_v_law_pull (eCons (eVar 1) (eCons (eC (.int 3)) eNil)))) eNil))))
  (sSeq (sSetO 4 (eCallL f_v_law_wishes (eCons (eVar 1) (eCons (eVar 3) (eCons (eBin fIx (eFrz (eLst (eCons (eC (.int 4)) (eCons (eC (.int 4)) (eCons (eC (.int 4)) (eCons (eC (.int 8)) eNil)))))) (eCall f_v_law_pull (eCons (eVar 1) (eCons (eC (.int 4)) eNil)))) eNil)))))
  (sSeq (sSet 5 (eC .non))
  (sSeq (sSet 6 (eCallO f_v_law_fullest (eCons (eVar 3) (eOwnA 4 eNil))))
  (sSeq (sIf (eTest (eUn (fIsN false) (eCallO f_v_law_failing (eCons (eVar 6) (eOwnA 4 eNil))))) (sSet 5 (eFrz (eLc [16] (eRng1 (eCons (eArgs (c1 fLen) (eCons (eVar 6) eNil)) eNil)) (tgName 16) eYes (eTup (eCons (eCallO f_v_law_needed (eCons (eVar 6) (eOwnA 4 (eCons (eVar 16) eNil)))) (eCons (eBin fIx (eVar 6) (eVar 16)) eNil)))))) sNext)
  (sSeq (sIf (eAndT (eTest (eBin fGt (eLenO 4) (eC (.int 0)))) (eTest (eBin (fEq false) (eCall f_v_law_pull (eCons (eVar 1) (eCons (eC (.int 6)) eNil))) (eC (.int 0))))) (sSeq (sSetT (tgTup 4 (tgCons (tgName 7) (tgCons (tgName 8) (tgCons (tgName 9) (tgCons (tgName 10) tgNil))))) (eIxO 4 (eC (.int 0))))
  (sSeq (sSet 11 (eCall f_v_law_pull (eCons (eVar 1) (eCons (eC (.int 2)) eNil))))
  (sSeq (sSetIO 4 (eC (.int 0)) (eTup (eCons (eVar 7) (eCons (eVar 8) (eCons (eVar 9) (eCons (eIf (eTest (eBin (fEq false) (eVar 11) (eC (.int 0)))) (eSl fSl (eVar 10) (ePart (eC (.int 1))) eNoPart) (eBin fAdd (eSl fSl (eVar 10) (ePart (eC (.int 1))) eNoPart) (eTup (eCons (eTup (eCons (eC (.int 2)) (eCons (eC (.int 1)) eNil))) eNil)))) eNil))))))
  (sSet 5 (eIf (eTest (eBin (fEq false) (eVar 11) (eC (.int 0)))) (eFrz (eLst (eCons (eC (.str "BadSize")) eNil))) (eFrz (eLst (eCons (eC (.str "BadWish")) (eCons (eC (.int 0)) eNil))))))))) sNext)
  (sFrz 4 (sSeq (sSet 12 (eFrz (eLc [7, 8, 9, 10] (eSeq (eVar 4)) (tgTup 4 (tgCons (tgName 7) (tgCons (tgName 8) (tgCons (tgName 9) (tgCons (tgName 10) tgNil))))) eYes (eTup (eCons (eMake "Foot" f_Foot_init (eCons (eVar 7) (eCons (eVar 8) eNil))) (eCons (eVar 9) (eCons (eVar 10) eNil)))))))
  (sSeq (sSet 13 (eFrz (eListOf (eCons (eVar 12) eNil))))
  (sFor (eRng1 (eCons (eC (.int 2)) eNil)) (tgName 14) (sSeq (sSet 15 (eCallC f_v_law_told_6 (eCons (eVar 3) (eCons (eVar 12) eNil))))
  (sSeq (sIf (eOrT (eNotT (eTest (eCall (f_v_law_like 12) (eCons (eVar 15) (eCons (eVar 5) eNil))))) (eTest (eBin fNeF (eVar 12) (eVar 13)))) (sRet (eC (.bl false))) sNext)
  (sIf (eTest (eUn (fIsN true) (eVar 15))) (sAppC (eVar 15) (eC (.int 0))) sNext))))))))))))))
  (sRet (eC (.bl true)))))
noncomputable def f_law_k16 : Sem1 := runF 1 17 b_law_k16
end TG

set_option linter.all false
set_option maxRecDepth 100000
namespace TG
open PySem L2
/-! ### what a run gives: expressions, statements -/
inductive wE {α : Type} (E : Str → Option D → S → Prop) (Q : α → S → Prop) : Res α → Prop
  | ok {a : α} {s : S} (h : Q a s) : wE E Q (.ok a s)
  | exc {c : Str} {x : Option D} {s : S} (h : E c x s) : wE E Q (.exc c x s)
/-- no exception -/
def nE : Str → Option D → S → Prop := fun _ _ _ => False
structure WP where
  N : Rho → S → Prop
  C : Rho → S → Prop
  B : Rho → S → Prop
  R : RV → S → Prop
  E : Str → Option D → S → Prop
inductive wS (P : WP) : RS → Prop
  | nx {ρ : Rho} {s : S} (h : P.N ρ s) : wS P (.nx ρ s)
  | cnt {ρ : Rho} {s : S} (h : P.C ρ s) : wS P (.cnt ρ s)
  | brk {ρ : Rho} {s : S} (h : P.B ρ s) : wS P (.brk ρ s)
  | ret {v : RV} {s : S} (h : P.R v s) : wS P (.ret v s)
  | exc {c : Str} {x : Option D} {ρ : Rho} {s : S} (h : P.E c x s) : wS P (.exc c x ρ s)
def kThen {α β γ : Type} (k : α → S → Res β) (k' : β → S → Res γ) : α → S → Res γ := fun a s => (k a s).bind k'
def kThE {α β : Type} (k : α → S → Res β) (k' : β → Stm) : α → Stm := fun a ρ s => ebS (k a s) ρ k'
def kThS {α : Type} (k : α → Stm) (k' : Stm) : α → Stm := fun a ρ s => (k a ρ s).bind k'
def kThR (k k' : Stm) : Stm := fun ρ s => (k ρ s).bind k'
@[simp] theorem kThen_eq {α β γ : Type} (k : α → S → Res β) (k' : β → S → Res γ) (a : α) (s : S) : kThen k k' a s = (k a s).bind k' := (rfl)
@[simp] theorem kThE_eq {α β : Type} (k : α → S → Res β) (k' : β → Stm) (a : α) (ρ : Rho) (s : S) : kThE k k' a ρ s = ebS (k a s) ρ k' := (rfl)
@[simp] theorem kThS_eq {α : Type} (k : α → Stm) (k' : Stm) (a : α) (ρ : Rho) (s : S) : kThS k k' a ρ s = (k a ρ s).bind k' := (rfl)
@[simp] theorem kThR_eq (k k' : Stm) (ρ : Rho) (s : S) : kThR k k' ρ s = (k ρ s).bind k' := (rfl)
@[simp] theorem bind_bind {α β γ : Type} (r : Res α) (k : α → S → Res β) (k' : β → S → Res γ) : (r.bind k).bind k' = r.bind (kThen k k') := by cases r <;> rfl
@[simp] theorem ebS_bind {α β : Type} (r : Res α) (k : α → S → Res β) (ρ : Rho) (k' : β → Stm) : ebS (r.bind k) ρ k' = ebS r ρ (kThE k k') := by cases r <;> rfl
@[simp] theorem sbind_ebS {α : Type} (r : Res α) (ρ : Rho) (k : α → Stm) (k' : Stm) : (ebS r ρ k).bind k' = ebS r ρ (kThS k k') := by cases r <;> rfl
@[simp] theorem sbind_sbind (r : RS) (k k' : Stm) : (r.bind k).bind k' = r.bind (kThR k k') := by cases r <;> rfl
def runR : RS → Res RV
  | .nx _ s => .ok (.w (.d .non)) s
  | .ret v s => .ok v s
  | .exc c x _ s => .exc c x s
  | _ => .no
@[simp] theorem runR_nx (ρ : Rho) (s : S) : runR (.nx ρ s) = .ok (.w (.d .non)) s := (rfl)
@[simp] theorem runR_ret (v : RV) (s : S) : runR (.ret v s) = .ok v s := (rfl)
@[simp] theorem runR_exc (c : Str) (x : Option D) (ρ : Rho) (s : S) : runR (.exc c x ρ s) = .exc c x s := (rfl)
def kRun {α : Type} (ρ : Rho) (k : α → Stm) : α → S → Res RV := fun a s => runR (k a ρ s)
@[simp] theorem kRun_eq {α : Type} (ρ : Rho) (k : α → Stm) (a : α) (s : S) : kRun ρ k a s = runR (k a ρ s) := (rfl)
@[simp] theorem runR_ebS {α : Type} (r : Res α) (ρ : Rho) (k : α → Stm) : runR (ebS r ρ k) = r.bind (kRun ρ k) := by cases r <;> rfl
theorem runF_eq (np nl : Nat) (b : Stm) (ws : List W) (s : S) : runF np nl b ws s = if ws.length = np then runR (b (ws.map .w ++ List.replicate (nl - np) .no) s) else .no := by
  unfold runF
  by_cases h : ws.length = np
  · rw [if_pos h, if_pos h]
    generalize b (ws.map .w ++ List.replicate (nl - np) .no) s = r
    cases r <;> rfl
  · rw [if_neg h, if_neg h]
section
variable {α β : Type} {E : Str → Option D → S → Prop} {Q : α → S → Prop} {P : WP}
@[simp] theorem wE_ok (a : α) (s : S) : wE E Q (.ok a s) = Q a s := propext ⟨fun h => (by cases h; assumption), .ok⟩
@[simp] theorem wE_exc (c : Str) (x : Option D) (s : S) : wE E Q (.exc c x s) = E c x s := propext ⟨fun h => (by cases h; assumption), .exc⟩
@[simp] theorem wE_no : wE E Q .no = False := propext ⟨fun h => (by cases h), False.elim⟩
@[simp] theorem wS_nx (ρ : Rho) (s : S) : wS P (.nx ρ s) = P.N ρ s := propext ⟨fun h => (by cases h; assumption), .nx⟩
@[simp] theorem wS_cnt (ρ : Rho) (s : S) : wS P (.cnt ρ s) = P.C ρ s := propext ⟨fun h => (by cases h; assumption), .cnt⟩
@[simp] theorem wS_brk (ρ : Rho) (s : S) : wS P (.brk ρ s) = P.B ρ s := propext ⟨fun h => (by cases h; assumption), .brk⟩
@[simp] theorem wS_ret (v : RV) (s : S) : wS P (.ret v s) = P.R v s := propext ⟨fun h => (by cases h; assumption), .ret⟩
@[simp] theorem wS_exc (c : Str) (x : Option D) (ρ : Rho) (s : S) : wS P (.exc c x ρ s) = P.E c x s := propext ⟨fun h => (by cases h; assumption), .exc⟩
@[simp] theorem wS_no : wS P .no = False := propext ⟨fun h => (by cases h), False.elim⟩
/-- a function's end -/
def fnP (E : Str → Option D → S → Prop) (Q : RV → S → Prop) : WP := ⟨fun _ s => Q (.w (.d .non)) s, fun _ _ => False, fun _ _ => False, Q, E⟩
@[simp] theorem fnP_N (Q : RV → S → Prop) (ρ : Rho) (s : S) : (fnP E Q).N ρ s = Q (.w (.d .non)) s := (rfl)
@[simp] theorem fnP_R (Q : RV → S → Prop) (v : RV) (s : S) : (fnP E Q).R v s = Q v s := (rfl)
@[simp] theorem fnP_E (Q : RV → S → Prop) (c : Str) (x : Option D) (s : S) : (fnP E Q).E c x s = E c x s := (rfl)
theorem wE_runR {Q : RV → S → Prop} (r : RS) (h : wS (fnP E Q) r) : wE E Q (runR r) := by
  cases h with
  | nx h => exact .ok h
  | ret h => exact .ok h
  | exc h => exact .exc h
  | cnt h => exact h.elim
  | brk h => exact h.elim
theorem wE_fn {Q : RV → S → Prop} {np nl : Nat} {b : Stm} {ws : List W} {s : S} (h : ws.length = np) (q : wS (fnP E Q) (b (ws.map .w ++ List.replicate (nl - np) .no) s)) : wE E Q (runF np nl b ws s) := by
  rw [runF_eq, if_pos h]; exact wE_runR _ q
theorem wE_imp {Q' : α → S → Prop} {r : Res α} (h : wE E Q r) (k : ∀ a s, Q a s → Q' a s) : wE E Q' r := by
  cases h with
  | ok h => exact .ok (k _ _ h)
  | exc h => exact .exc h
theorem wE_nE {r : Res α} {Q : α → S → Prop} (h : wE nE Q r) : ∃ a s, r = .ok a s ∧ Q a s := by
  cases h with
  | ok h => exact ⟨_, _, rfl, h⟩
  | exc h => exact h.elim
/-- a part of what is run, by what is known of it -/
theorem wE_use {Q : β → S → Prop} {r : Res α} {Q1 : α → S → Prop} {K : α → S → Res β} (h : wE nE Q1 r) (k : ∀ a s, Q1 a s → wE E Q (K a s)) : wE E Q (r.bind K) := by
  obtain ⟨a, s, rfl, h'⟩ := wE_nE h
  exact k _ _ h'
theorem wS_use {r : Res α} {Q1 : α → S → Prop} {ρ : Rho} {K : α → Stm} (h : wE nE Q1 r) (k : ∀ a s, Q1 a s → wS P (K a ρ s)) : wS P (ebS r ρ K) := by
  obtain ⟨a, s, rfl, h'⟩ := wE_nE h
  exact k _ _ h'
/-- statements one behind the other: what holds between them -/
theorem wS_mid {r : RS} {k : Stm} (M : Rho → S → Prop) (h : wS { P with N := M } r) (q : ∀ ρ s, M ρ s → wS P (k ρ s)) : wS P (r.bind k) := by
  cases h with
  | nx h => exact q _ _ h
  | ret h => exact .ret h
  | brk h => exact .brk h
  | cnt h => exact .cnt h
  | exc h => exact .exc h
theorem wS_midE {r : Res α} {ρ : Rho} {k : α → Stm} {k' : Stm} (M : Rho → S → Prop) (h : wS { P with N := M } (ebS r ρ k)) (q : ∀ ρ s, M ρ s → wS P (k' ρ s)) : wS P (ebS r ρ (kThS k k')) := by
  rw [← sbind_ebS]; exact wS_mid M h q
/-- what holds, not looked into -/
def Hold (p : Rho → S → Prop) : Rho → S → Prop := p
theorem hold {p : Rho → S → Prop} {ρ : Rho} {s : S} (h : p ρ s) : Hold p ρ s := h
theorem of_wE {r : Res α} {a : α} (h : wE nE (fun v _ => v = a) r) : ∃ s', r = .ok a s' := by
  obtain ⟨v, s, rfl, rfl⟩ := wE_nE h
  exact ⟨_, rfl⟩
theorem eq_wE {r : Res α} {a : α} {s : S} (h : wE nE (fun v s' => v = a ∧ s' = s) r) : r = .ok a s := by
  obtain ⟨v, s, rfl, rfl, rfl⟩ := wE_nE h
  rfl
/-- with what is the same of each turn -/
def lpP (P : WP) (I : Rho → S → Prop) (O : Rho → S → Prop) : WP := { P with N := I, C := I, B := O }
@[simp] theorem lpP_N (I O : Rho → S → Prop) (ρ : Rho) (s : S) : (lpP P I O).N ρ s = I ρ s := (rfl)
@[simp] theorem lpP_C (I O : Rho → S → Prop) (ρ : Rho) (s : S) : (lpP P I O).C ρ s = I ρ s := (rfl)
@[simp] theorem lpP_B (I O : Rho → S → Prop) (ρ : Rho) (s : S) : (lpP P I O).B ρ s = O ρ s := (rfl)
@[simp] theorem lpP_R (I O : Rho → S → Prop) (v : RV) (s : S) : (lpP P I O).R v s = P.R v s := (rfl)
@[simp] theorem lpP_E (I O : Rho → S → Prop) (c : Str) (x : Option D) (s : S) : (lpP P I O).E c x s = P.E c x s := (rfl)
theorem wS_forK {I O : Rho → S → Prop} {k : Stm} {r : RS} (h : wS (lpP P I O) r) (q : ∀ ρ s, I ρ s → wS P (k ρ s)) (hO : ∀ ρ s, O ρ s → P.N ρ s) : wS P (forK k r) := by
  cases h with
  | nx h => exact q _ _ h
  | cnt h => exact q _ _ h
  | brk h => exact .nx (hO _ _ h)
  | ret h => exact .ret h
  | exc h => exact .exc h
theorem forE_inv (I : Rho → S → Prop) {tg : Tgt} {x : Stm} : ∀ {z : List W}, (∀ w ∈ z, ∀ ρ s, I ρ s → ∃ ρ1, tg w ρ = some ρ1 ∧ wS (lpP P I P.N) (x ρ1 s)) → ∀ {ρ : Rho} {s : S}, I ρ s → (∀ ρ s, I ρ s → P.N ρ s) → wS P (forE tg x z ρ s)
  | [], _, ρ, s, h0, hk => .nx (hk _ _ h0)
  | w :: r, h, ρ, s, h0, hk => by
    obtain ⟨ρ1, e1, q⟩ := h w (.head _) ρ s h0
    rw [forE_cons, e1]
    exact wS_forK q (fun ρ s hI => forE_inv I (fun w hw => h w (.tail _ hw)) hI hk) (fun _ _ h => h)
theorem forE_at' {γ : Type} {g : γ → W} {l : List γ} (I : List γ → Rho → S → Prop) {tg : Tgt} {x : Stm} (h : ∀ pre a r, l = pre ++ a :: r → ∀ ρ s, I pre ρ s → ∃ ρ1, tg (g a) ρ = some ρ1 ∧ wS (lpP P (I (pre ++ [a])) P.N) (x ρ1 s)) (hk : ∀ ρ s, I l ρ s → P.N ρ s) :
    ∀ (z pre : List γ) (ρ : Rho) (s : S), l = pre ++ z → I pre ρ s → wS P (forE tg x (z.map g) ρ s)
  | [], pre, ρ, s, e, h0 => .nx (hk _ _ (by rw [e, List.append_nil]; exact h0))
  | w :: r, pre, ρ, s, e, h0 => by
    obtain ⟨ρ1, e1, q⟩ := h pre w r e ρ s h0
    rw [List.map_cons, forE_cons, e1]
    exact wS_forK q (fun ρ s hI => forE_at' I h hk r (pre ++ [w]) ρ s (by rw [e]; simp) hI) (fun _ _ h => h)
/-- what holds behind each prefix -/
theorem forE_at {γ : Type} {g : γ → W} {l : List γ} (I : List γ → Rho → S → Prop) {tg : Tgt} {x : Stm} {ρ : Rho} {s : S} (h0 : I [] ρ s) (h : ∀ pre a r, l = pre ++ a :: r → ∀ ρ s, I pre ρ s → ∃ ρ1, tg (g a) ρ = some ρ1 ∧ wS (lpP P (I (pre ++ [a])) P.N) (x ρ1 s)) (hk : ∀ ρ s, I l ρ s → P.N ρ s) :
    wS P (forE tg x (l.map g) ρ s) := forE_at' I h hk l [] ρ s rfl h0
/-- what is drawn for each -/
theorem lcM_gen {γ δ : Type} {g : γ → W} (enc : δ → D) (R : γ → δ → Prop) (J : S → Prop) {tg : Tgt} {tst : Cmp Bool} {e : Cmp W} {ρ : Rho} : ∀ {l : List γ} {s : S},
    (∀ a ∈ l, ∀ s, J s → ∃ ρ1, tg (g a) ρ = some ρ1 ∧ tst ρ1 s = .ok true s ∧ wE nE (fun w s' => ∃ b, w = .d (enc b) ∧ R a b ∧ J s') (e ρ1 s)) → J s →
    wE nE (fun ws s' => ∃ bs : List δ, ws = wD (bs.map enc) ∧ bs.length = l.length ∧ (∀ i (h : i < l.length) (h' : i < bs.length), R l[i] bs[i]) ∧ J s') (lcM tg tst e ρ (l.map g) s)
  | [], s, h, hJ => .ok ⟨[], rfl, rfl, fun i h => absurd h (by simp), hJ⟩
  | a :: r, s, h, hJ => by
    obtain ⟨ρ1, e1, e2, e3⟩ := h a (.head _) s hJ
    obtain ⟨w, s', e4, b, rfl, hR, hJ'⟩ := wE_nE e3
    obtain ⟨ws, s2, e5, bs, rfl, hl, hRs, hJ2⟩ := wE_nE (lcM_gen enc R J (l := r) (fun a ha => h a (.tail _ ha)) hJ')
    have e : lcM tg tst e ρ (List.map g (a :: r)) s = .ok (.d (enc b) :: wD (bs.map enc)) s2 := by
      rw [List.map_cons]
      simp only [lcM, e1, e2, e4, e5]
    rw [e]
    refine .ok ⟨b :: bs, rfl, by simp [hl], fun i h h' => ?_, hJ2⟩
    cases i with
    | zero => exact hR
    | succ i => exact hRs i (by simpa using h) (by simpa using h')
end
/-- what is made of each, with a test -/
theorem lcM_fn {γ : Type} {g : γ → W} {tg : Tgt} {tst : Cmp Bool} {e : Cmp W} {ρ : Rho} {s : S} (p : γ → Bool) (v : γ → D) : ∀ {l : List γ},
    (∀ a ∈ l, ∃ ρ1, tg (g a) ρ = some ρ1 ∧ tst ρ1 s = .ok (p a) s ∧ (p a = true → e ρ1 s = .ok (.d (v a)) s)) → lcM tg tst e ρ (l.map g) s = .ok (wD ((l.filter p).map v)) s
  | [], _ => rfl
  | a :: r, h => by
    obtain ⟨ρ1, e1, e2, e3⟩ := h a (.head _)
    have ih := lcM_fn p v (l := r) (fun a ha => h a (.tail _ ha))
    cases hp : p a with
    | true => simp [lcM, e1, e2, e3 hp, hp, ih]
    | false => simp [lcM, e1, e2, hp, ih]
/-- what is made of each -/
theorem lcM_fn' {γ : Type} {g : γ → W} {tg : Tgt} {e : Cmp W} {ρ : Rho} {s : S} (v : γ → D) {l : List γ}
    (h : ∀ a ∈ l, ∃ ρ1, tg (g a) ρ = some ρ1 ∧ e ρ1 s = .ok (.d (v a)) s) : lcM tg eYes e ρ (l.map g) s = .ok (wD (l.map v)) s := by
  rw [lcM_fn (fun _ => true) v]
  · rw [List.filter_eq_self.mpr (by simp)]
  · intro a ha
    obtain ⟨ρ1, e1, e2⟩ := h a ha
    exact ⟨ρ1, e1, rfl, fun _ => e2⟩
end TG

set_option linter.all false
set_option maxRecDepth 100000
namespace TG
open PySem L2
/-! ### the bag -/
structure Bag where
  scr : List Int
  at_ : Nat
  big : Int
  salt : Int
  len : scr.length ≤ 63
  big0 : 0 ≤ big
  s0 : 0 ≤ salt
  s1 : salt < 2147483647
def bagCell (l : List Int) (a big salt : Int) : Cell := .lst [.d (.lst (l.map .int)), .d (.int a), .d (.int big), .d (.int salt)]
def Bag.cell (b : Bag) : Cell := bagCell b.scr b.at_ b.big b.salt
theorem mod_rng (x : Int) : 0 ≤ x.fmod 2147483647 ∧ x.fmod 2147483647 < 2147483647 := ⟨Int.fmod_nonneg_of_pos _ (by decide), Int.fmod_lt_of_pos _ (by decide)⟩
/-- behind a pulled number: the great number parted, or the salt stirred -/
def pullTail : Stm :=
  (sSeq (sIf (eTest (eBin fGt (eBin fIx (eVar 0) (eC (.int 2))) (eC (.int 0)))) (sSeq (sSet 3 (eBin fMod (eBin fIx (eVar 0) (eC (.int 2))) (eVar 1)))
  (sSeq (sSetI (eVar 0) (eC (.int 2)) (eBin fDiv (eBin fIx (eVar 0) (eC (.int 2))) (eVar 1)))
  (sRet (eVar 3)))) sNext)
  (sSeq (sSet 4 (eBin fIx (eVar 0) (eC (.int 3))))
  (sSeq (sSetI (eVar 0) (eC (.int 3)) (eBin fMod (eBin fAdd (eBin fAdd (eBin fMul (eVar 4) (eC (.int 39373))) (eBin fMul (eBin fDiv (eVar 4) (eC (.int 127773))) (eC (.int 31)))) (eC (.int 1013904223))) (eC (.int 2147483647))))
  (sRet (eBin fMod (eBin fAdd (eBin fDiv (eBin fIx (eVar 0) (eC (.int 3))) (eC (.int 97))) (eBin fMul (eBin fMod (eBin fIx (eVar 0) (eC (.int 3))) (eC (.int 8191))) (eC (.int 53)))) (eVar 1))))))
theorem pull_tail (l : List Int) (a : Nat) (big salt n : Int) (t : S) (hl : l.length ≤ 63) (hb : 0 ≤ big) (hs0 : 0 ≤ salt) (hs1 : salt < 2147483647)
    (h0 : 0 < n) (h1 : n < 1073741824) (x y z : EV) :
    ∃ (r : Int) (b' : Bag), 0 ≤ r ∧ r < n ∧ pullTail [.w (.r 0), .w (.d (.int n)), x, y, z] (bagCell l a big salt :: t) = .ret (.w (.d (.int r))) (b'.cell :: t) := by
  have k1 : ∀ x : Int, kMod x 2147483647 = true := fun x => kMod_ne (by decide)
  have k2 : ∀ x : Int, kMod x 8191 = true := fun x => kMod_ne (by decide)
  have k3 : ∀ x, kMod x n = true := fun x => kMod_ne (by omega)
  have hD : kDiv big n = true := kDiv_ok (by omega) (by omega)
  unfold pullTail
  by_cases hg : 0 < big
  · refine ⟨big.fmod n, ⟨l, a, big.fdiv n, salt, hl, Int.fdiv_nonneg hb (by omega), hs0, hs1⟩, Int.fmod_nonneg_of_pos _ h0, Int.fmod_lt_of_pos _ h0, ?_⟩
    simp [bagCell, Bag.cell, hg, k3, hD]
  · refine ⟨(((salt * 39373 + salt.fdiv 127773 * 31 + 1013904223).fmod 2147483647).fdiv 97 + ((salt * 39373 + salt.fdiv 127773 * 31 + 1013904223).fmod 2147483647).fmod 8191 * 53).fmod n,
      ⟨l, a, big, (salt * 39373 + salt.fdiv 127773 * 31 + 1013904223).fmod 2147483647, hl, hb, (mod_rng _).1, (mod_rng _).2⟩, Int.fmod_nonneg_of_pos _ h0, Int.fmod_lt_of_pos _ h0, ?_⟩
    simp [bagCell, Bag.cell, hg, k1, k2, k3, kMul, kDiv]
theorem pull_spec (b : Bag) (n : Int) (t : S) (h0 : 0 < n) (h1 : n < 1073741824) :
    ∃ (r : Int) (b' : Bag), 0 ≤ r ∧ r < n ∧ f_v_law_pull [.r 0, .d (.int n)] (b.cell :: t) = .ok (.w (.d (.int r))) (b'.cell :: t) := by
  have k1 : ∀ x : Int, kMod x 2147483647 = true := fun x => kMod_ne (by decide)
  have k2 : ∀ x : Int, kMod x 2147483629 = true := fun x => kMod_ne (by decide)
  obtain ⟨l, a, big, salt, hl, hb, hs0, hs1⟩ := b
  by_cases hc : big = 0 ∧ a < l.length
  · obtain ⟨rfl, ha⟩ := hc
    by_cases hx : (1000000000000000000 : Int) ≤ l[a]
    · obtain ⟨r, b', r0, r1, e⟩ := pull_tail l (a + 1) l[a] salt n t hl (by omega) hs0 hs1 h0 h1 (.w (.d (.int l[a]))) .no .no
      refine ⟨r, b', r0, r1, ?_⟩
      rw [show f_v_law_pull = runF 2 5 b_v_law_pull from rfl, show b_v_law_pull = sSeq _ pullTail from rfl]
      simp [runF, bagCell, Bag.cell, ha, hx, kPow, wD] at e ⊢
      rw [e]
    · obtain ⟨r, b', r0, r1, e⟩ := pull_tail l (a + 1) 0 ((salt * 69621 + l[a].fmod 2147483629 * 48271 + 5).fmod 2147483647) n t hl (by omega) (mod_rng _).1 (mod_rng _).2 h0 h1 (.w (.d (.int l[a]))) .no .no
      refine ⟨r, b', r0, r1, ?_⟩
      rw [show f_v_law_pull = runF 2 5 b_v_law_pull from rfl, show b_v_law_pull = sSeq _ pullTail from rfl]
      simp [runF, bagCell, Bag.cell, ha, hx, kPow, wD, kMul, k1, k2] at e ⊢
      rw [e]
  · obtain ⟨r, b', r0, r1, e⟩ := pull_tail l a big salt n t hl hb hs0 hs1 h0 h1 .no .no .no
    refine ⟨r, b', r0, r1, ?_⟩
    rw [show f_v_law_pull = runF 2 5 b_v_law_pull from rfl, show b_v_law_pull = sSeq _ pullTail from rfl]
    by_cases h2 : big = 0
    · subst h2
      have ha : ¬ a < l.length := fun h => hc ⟨rfl, h⟩
      simp [runF, bagCell, Bag.cell, ha] at e ⊢
      rw [e]
    · simp [runF, bagCell, Bag.cell, h2] at e ⊢
      rw [e]
theorem lcM_draw (tg : Tgt) (tst : Cmp Bool) (e : Cmp W) (ρ : Rho) (P : W → Prop) : ∀ (z : List W),
    (∀ w ∈ z, ∃ ρ1, tg w ρ = some ρ1 ∧ (∀ s, tst ρ1 s = .ok true s) ∧ ∀ (b : Bag) t, ∃ v, ∃ b' : Bag, P v ∧ e ρ1 (b.cell :: t) = .ok v (b'.cell :: t)) →
    ∀ (b : Bag) t, ∃ vs, ∃ b' : Bag, vs.length = z.length ∧ (∀ v ∈ vs, P v) ∧ lcM tg tst e ρ z (b.cell :: t) = .ok vs (b'.cell :: t)
  | [], _, b, t => ⟨[], b, rfl, by simp, rfl⟩
  | w :: r, h, b, t => by
    obtain ⟨ρ1, e1, e2, e3⟩ := h w (.head _)
    obtain ⟨v, b1, hv, e4⟩ := e3 b t
    obtain ⟨vs, b2, hl, hvs, e5⟩ := lcM_draw tg tst e ρ P r (fun w hw => h w (.tail _ hw)) b1 t
    refine ⟨v :: vs, b2, by simp [hl], ?_, ?_⟩
    · intro x hx
      cases hx with
      | head => exact hv
      | tail _ hx => exact hvs x hx
    · simp [lcM, e1, e2, e4, e5]
theorem bag_spec (ns : List Int) (h : ns.length ≤ 63) (s : S) : ∃ b : Bag, ∃ z, Cell.lst z = b.cell ∧ f_v_law_bag [.d (.scr (ns.map .int))] s = .ok (.own z) s := by
  obtain ⟨ρ2, s2, e, hs, x2, salt, s0, s1, hρ⟩ := forE_pre (tgName 2) (sSet 1 (eBin fMod (eBin fAdd (eBin fAdd (eBin fMul (eVar 1) (eC (.int 48271))) (eBin fMod (eVar 2) (eC (.int 2147483629)))) (eC (.int 11))) (eC (.int 2147483647))))
    (wD (ns.map .int)) (fun pre ρ s' => s' = s ∧ ∃ x2, ∃ salt : Int, 0 ≤ salt ∧ salt < 2147483647 ∧ ρ = [.w (.d (.scr (ns.map .int))), .w (.d (.int salt)), x2]) (by
      intro pre w r hz ρ s' ⟨hs, x2, salt, s0, s1, hρ⟩
      subst hs hρ
      have hw : w ∈ wD (ns.map .int) := by rw [hz]; simp
      unfold wD at hw
      obtain ⟨d, hd, rfl⟩ := List.mem_map.mp hw
      obtain ⟨i, hi, rfl⟩ := List.mem_map.mp hd
      refine ⟨_, rfl, ?_⟩
      refine ⟨_, _, by simp [kMul, kMod]; exact ⟨rfl, rfl⟩, rfl, _, _, (mod_rng _).1, (mod_rng _).2, rfl⟩) [.w (.d (.scr (ns.map .int))), .w (.d (.int 977)), .no] s ⟨rfl, _, 977, by decide, by decide, rfl⟩
  subst hs hρ
  have hc : cut (ns.map D.int) none (some 63) = ns.map D.int := cut_all _ (by simpa using h)
  refine ⟨⟨ns, 0, 0, salt, h, by decide, s0, s1⟩, [.d (.lst (ns.map .int)), .d (.int 0), .d (.int 0), .d (.int salt)], rfl, ?_⟩
  simp [f_v_law_bag, runF, b_v_law_bag, hc, e]
end TG

set_option linter.all false
set_option maxRecDepth 100000
namespace TG
open PySem L2
theorem far_spec (b : Bag) (t : S) : ∃ (x : Int) (b' : Bag), x.natAbs < 200000000000000000000 ∧ f_v_law_far [.r 0] (b.cell :: t) = .ok (.w (.d (.int x))) (b'.cell :: t) := by
  obtain ⟨x1, b1, p1, q1, h1⟩ := pull_spec b 1000000000 t (by decide) (by decide)
  obtain ⟨x2, b2, p2, q2, h2⟩ := pull_spec b1 2 t (by decide) (by decide)
  obtain ⟨x3, b3, p3, q3, h3⟩ := pull_spec b2 2 t (by decide) (by decide)
  by_cases c2 : x2 = 0 <;> by_cases c3 : x3 = 0
  all_goals
    refine ⟨?_, b3, ?g, ?h⟩
    case h => simp [f_v_law_far, runF, b_v_law_far, kPow, h1, h2, h3, c2, c3]; exact rfl
    case g => omega
end TG

set_option linter.all false
set_option maxRecDepth 100000
namespace TG
open PySem L2
theorem height_spec (b : Bag) (t : S) : ∃ (x : Int) (b' : Bag), f_v_law_height [.r 0] (b.cell :: t) = .ok (.w (.d (.int x))) (b'.cell :: t) := by
  obtain ⟨x1, b1, p1, q1, h1⟩ := pull_spec b 4 t (by decide) (by decide)
  obtain ⟨x2, b2, p2, q2, h2⟩ := pull_spec b1 12 t (by decide) (by decide)
  obtain ⟨x3, b3, p3, q3, h3⟩ := pull_spec b2 200 t (by decide) (by decide)
  obtain ⟨x4, b4, q4, h4⟩ := far_spec b3 t
  obtain ⟨x5, b5, p5, q5, h5⟩ := pull_spec b4 9 t (by decide) (by decide)
  have hk : ∃ k : Nat, k < 4 ∧ (x5.fdiv 2).fmod 4 = k := ⟨((x5.fdiv 2).fmod 4).toNat, by
    have := Int.fmod_nonneg_of_pos (x5.fdiv 2) (show (0:Int) < 4 by decide)
    have := Int.fmod_lt_of_pos (x5.fdiv 2) (show (0:Int) < 4 by decide)
    omega, by
    have := Int.fmod_nonneg_of_pos (x5.fdiv 2) (show (0:Int) < 4 by decide)
    omega⟩
  obtain ⟨k, k4, hk⟩ := hk
  have hk0 : k = 0 ∨ k = 1 ∨ k = 2 ∨ k = 3 := by omega
  rcases hk0 with rfl | rfl | rfl | rfl <;> (refine ⟨?_, b5, ?h⟩; case h => simp [f_v_law_height, runF, b_v_law_height, h1, h2, h3, h4, h5, hk, kMod, kDiv, frzL_eq]; exact rfl)
end TG

set_option linter.all false
set_option maxRecDepth 100000
namespace TG
open PySem L2
def rimTail : Stm := (sSeq (sIf (eTest (eBin (fEq false) (eVar 3) (eC (.int 0)))) (sRet (eArgs (c1 fTuple) (eCons (eFrz (eLc [5] (eRng1 (eCons (eVar 2) eNil)) (tgName 5) eYes (eCall f_v_law_height (eCons (eVar 0) eNil)))) eNil))) sNext)
  (sSeq (sIf (eTest (eBin (fEq false) (eVar 3) (eC (.int 1)))) (sRet (eArgs (c1 fTuple) (eCons (eFrz (eLc [5] (eRng1 (eCons (eVar 2) eNil)) (tgName 5) eYes (eC (.int 5)))) eNil))) sNext)
  (sRet (eArgs (c1 fTuple) (eCons (eFrz (eLc [5] (eRng1 (eCons (eVar 2) eNil)) (tgName 5) eYes (eCall f_v_law_pull (eCons (eVar 0) (eCons (eVar 4) eNil))))) eNil)))))
theorem rim_tail (b : Bag) (t : S) (n kind wide : Int) (h0 : 3 ≤ n) (h1 : n ≤ 48) (hw0 : 0 < wide) (hw1 : wide < 100) (most : W) (x : EV) :
    ∃ (l : List Int) (b' : Bag), l.length = n.toNat ∧ rimTail [.w (.r 0), .w most, .w (.d (.int n)), .w (.d (.int kind)), .w (.d (.int wide)), x] (b.cell :: t) = .ret (.w (.d (.tup (l.map D.int)))) (b'.cell :: t) := by
  have hr : n < 1000000000 ∧ -1000000000 < n := by omega
  have hL : n.toNat ≤ 16777216 := by omega
  unfold rimTail
  by_cases k0 : kind = 0
  · obtain ⟨vs, b1, e1, e2, e3⟩ := lcM_draw (tgName 5) eYes (eCall f_v_law_height (eCons (eVar 0) eNil)) (wipeR [.w (.r 0), .w most, .w (.d (.int n)), .w (.d (.int kind)), .w (.d (.int wide)), x] [5]) (fun v => ∃ i, v = .d (.int i) ∧ True) ((List.range n.toNat).map fun i : Nat => W.d (.int (i : Int))) (by
      intro w hw
      refine ⟨_, rfl, fun s => rfl, ?_⟩
      intro b t
      obtain ⟨x, b', e⟩ := height_spec b t
      exact ⟨_, b', ⟨x, rfl, trivial⟩, by simp [wipeR, e]⟩) b t
    obtain ⟨l, rfl, hl, _⟩ := ints_of _ vs e2
    refine ⟨l, b1, by simp [hl, e1], ?_⟩
    simp [hr, k0, hL] at e3 ⊢
    simp [e3]
  · by_cases k1 : kind = 1
    · subst k1
      have e3 := lcM_map (tgName 5) eYes (eC (.int 5)) (wipeR [.w (.r 0), .w most, .w (.d (.int n)), .w (.d (.int 1)), .w (.d (.int wide)), x] [5]) (fun _ => .d (.int 5)) (b.cell :: t) ((List.range n.toNat).map fun i : Nat => W.d (.int (i : Int))) (fun w hw => ⟨_, rfl, rfl, rfl⟩)
      refine ⟨List.replicate n.toNat 5, b, by simp, ?_⟩
      have e4 : List.map (fun x => W.d (D.int 5)) ((List.range n.toNat).map fun i : Nat => W.d (.int (i : Int))) = wD ((List.replicate n.toNat 5).map D.int) := by
        simp [wD, List.eq_replicate_iff]
      rw [e4] at e3
      simp [hr, hL, e3]
    · obtain ⟨vs, b1, e1, e2, e3⟩ := lcM_draw (tgName 5) eYes (eCall f_v_law_pull (eCons (eVar 0) (eCons (eVar 4) eNil))) (wipeR [.w (.r 0), .w most, .w (.d (.int n)), .w (.d (.int kind)), .w (.d (.int wide)), x] [5]) (fun v => ∃ i, v = .d (.int i) ∧ True) ((List.range n.toNat).map fun i : Nat => W.d (.int (i : Int))) (by
        intro w hw
        refine ⟨_, rfl, fun s => rfl, ?_⟩
        intro b t
        obtain ⟨x, b', _, _, e⟩ := pull_spec b wide t hw0 (by omega)
        exact ⟨_, b', ⟨x, rfl, trivial⟩, by simp [wipeR, e]⟩) b t
      obtain ⟨l, rfl, hl, _⟩ := ints_of _ vs e2
      refine ⟨l, b1, by simp [hl, e1], ?_⟩
      simp [hr, k0, k1, hL, e3]
theorem rim_spec (b : Bag) (t : S) (most : Int) (h0 : 3 ≤ most) (h1 : most ≤ 48) :
    ∃ (l : List Int) (b' : Bag), 3 ≤ l.length ∧ (l.length : Int) ≤ most ∧ f_v_law_rim [.r 0, .d (.int most)] (b.cell :: t) = .ok (.w (.d (.tup (l.map D.int)))) (b'.cell :: t) := by
  obtain ⟨x1, b1, p1, q1, e1⟩ := pull_spec b (most - 2) t (by omega) (by omega)
  obtain ⟨x2, b2, p2, q2, e2⟩ := pull_spec b1 10 t (by omega) (by omega)
  obtain ⟨x3, b3, p3, q3, e3⟩ := pull_spec b2 5 t (by omega) (by omega)
  obtain ⟨x4, b4, p4, q4, e4⟩ := pull_spec b3 4 t (by omega) (by omega)
  obtain ⟨w, ⟨w0, w1⟩, ew⟩ := wide_spec x4 p4 q4 4 9 2 30 (fun w => 0 < w ∧ w < 100) (by decide) (by decide) (by decide) (by decide)
  have hb : f_v_law_rim = runF 2 6 b_v_law_rim := rfl
  by_cases c : x2 = 0
  · obtain ⟨l, b5, hl, e5⟩ := rim_tail b4 t most x3 w h0 h1 w0 w1 (.d (.int most)) .no
    refine ⟨l, b5, by omega, by omega, ?_⟩
    rw [hb, show b_v_law_rim = sSeq _ (sSeq _ (sSeq _ (sSeq _ rimTail))) from rfl]
    simp [runF, e1, e2, e3, e4, c] at ew ⊢
    simp [ew, e5]
  · obtain ⟨l, b5, hl, e5⟩ := rim_tail b4 t (3 + x1) x3 w (by omega) (by omega) w0 w1 (.d (.int most)) .no
    refine ⟨l, b5, by omega, by omega, ?_⟩
    rw [hb, show b_v_law_rim = sSeq _ (sSeq _ (sSeq _ (sSeq _ rimTail))) from rfl]
    simp [runF, e1, e2, e3, e4, c] at ew ⊢
    simp [ew, e5]
end TG

set_option linter.all false
set_option maxRecDepth 100000
namespace TG
open PySem L2
theorem angle_spec (b : Bag) (t : S) : ∃ (x : Int) (b' : Bag), x.natAbs < 200000000000000000000 ∧ f_v_law_angle [.r 0] (b.cell :: t) = .ok (.w (.d (.int x))) (b'.cell :: t) := by
  obtain ⟨x1, b1, p1, q1, h1⟩ := pull_spec b 60 t (by decide) (by decide)
  obtain ⟨x2, b2, q2, h2⟩ := far_spec b1 t
  obtain ⟨x3, b3, p3, q3, h3⟩ := pull_spec b2 5 t (by decide) (by decide)
  by_cases c : x3 = 0
  · exact ⟨x2, b3, q2, by simp [f_v_law_angle, runF, b_v_law_angle, h1, h2, h3, c]⟩
  · exact ⟨x1 - 20, b3, by omega, by simp [f_v_law_angle, runF, b_v_law_angle, h1, h2, h3, c]⟩
end TG

set_option linter.all false
set_option maxRecDepth 100000
namespace TG
open PySem L2
theorem drops_spec (b : Bag) (t : S) : ∃ (l : List Int) (b' : Bag), 1 ≤ l.length ∧ l.length ≤ 9 ∧ (∀ x ∈ l, 0 ≤ x ∧ x ≤ 99) ∧ f_v_law_drops [.r 0] (b.cell :: t) = .ok (.w (.d (.tup (l.map D.int)))) (b'.cell :: t) := by
  obtain ⟨x1, b1, p1, q1, e1⟩ := pull_spec b 9 t (by omega) (by omega)
  obtain ⟨x2, b2, p2, q2, e2⟩ := pull_spec b1 5 t (by omega) (by omega)
  obtain ⟨x3, b3, p3, q3, e3⟩ := pull_spec b2 4 t (by omega) (by omega)
  obtain ⟨w, ⟨w0, w1⟩, ew⟩ := wide_spec x3 p3 q3 1 3 9 100 (fun w => 0 < w ∧ w ≤ 100) (by decide) (by decide) (by decide) (by decide)
  have hn : ∃ n : Int, 1 ≤ n ∧ n ≤ 9 ∧ atI (wD [.int 1, .int 3, .int 2, .int (1 + x1), .int 5]) x2 = some (.d (.int n)) := by
    rcases fifth x2 p2 q2 with rfl | rfl | rfl | rfl | rfl
    · exact ⟨1, by decide, by decide, rfl⟩
    · exact ⟨3, by decide, by decide, rfl⟩
    · exact ⟨2, by decide, by decide, rfl⟩
    · exact ⟨1 + x1, by omega, by omega, rfl⟩
    · exact ⟨5, by decide, by decide, rfl⟩
  obtain ⟨n, n0, n1, en⟩ := hn
  obtain ⟨vs, b4, f1, f2, f3⟩ := lcM_draw (tgName 3) eYes (eCall f_v_law_pull (eCons (eVar 0) (eCons (eVar 2) eNil))) (wipeR [.w (.r 0), .w (.d (.int n)), .w (.d (.int w)), .no] [3]) (fun v => ∃ i, v = .d (.int i) ∧ 0 ≤ i ∧ i ≤ 99) ((List.range n.toNat).map fun i : Nat => W.d (.int (i : Int))) (by
      intro w' hw
      refine ⟨_, rfl, fun s => rfl, ?_⟩
      intro b t
      obtain ⟨x, b', _, _, e⟩ := pull_spec b w t w0 (by omega)
      exact ⟨_, b', ⟨x, rfl, by omega, by omega⟩, by simp [wipeR, e]⟩) b3 t
  obtain ⟨l, rfl, hl, hl2⟩ := ints_of _ vs f2
  simp at f1
  refine ⟨l, b4, by omega, by omega, hl2, ?_⟩
  have hr : n < 1000000000 ∧ -1000000000 < n := by omega
  have hL : n.toNat ≤ 16777216 := by omega
  simp [f_v_law_drops, runF, b_v_law_drops, e1, e2, e3] at en ew ⊢
  simp [en, ew, hr, hL, f3, e3]
theorem pair_spec (b : Bag) (t : S) : ∃ (l : List Int) (m : Int) (b' : Bag), 1 ≤ l.length ∧ l.length ≤ 9 ∧ (∀ x ∈ l, 0 ≤ x ∧ x ≤ 99) ∧ 0 ≤ m ∧ m < l.length ∧ f_v_law_pair [.r 0] (b.cell :: t) = .ok (.w (.d (.tup [.tup (l.map D.int), .int m]))) (b'.cell :: t) := by
  obtain ⟨l, b1, h1, h2, h3, e1⟩ := drops_spec b t
  obtain ⟨m, b2, p2, q2, e2⟩ := pull_spec b1 l.length t (by omega) (by omega)
  refine ⟨l, m, b2, h1, h2, h3, p2, q2, ?_⟩
  simp [f_v_law_pair, runF, b_v_law_pair, e1, e2]
end TG

set_option linter.all false
set_option maxRecDepth 100000
namespace TG
open PySem L2
/-! ### exceptions -/
def tryK (sub : Str → Str → Option Bool) (hs : List (Str × Stm)) : RS → RS
  | .exc c x ρ' s' => (match hdF sub c hs with | some (some k) => noExc (k ρ' s') | some none => .exc c x ρ' s' | none => .no)
  | r => r
@[simp] theorem sRaise0_eq (c : Str) (ρ : Rho) (s : S) : sRaise0 c ρ s = .exc c none ρ s := (rfl)
@[simp] theorem sTry_eq (sub : Str → Str → Option Bool) (b : Stm) (hs : List (Str × Stm)) (ρ : Rho) (s : S) : sTry sub b hs ρ s = tryK sub hs (b ρ s) := by
  show (match b ρ s with
  | .exc c x ρ' s' => (match hdF sub c hs with | some (some k) => noExc (k ρ' s') | some none => .exc c x ρ' s' | none => .no)
  | r => r) = tryK sub hs (b ρ s)
  cases b ρ s <;> rfl
@[simp] theorem tryK_ret (sub : Str → Str → Option Bool) (hs : List (Str × Stm)) (v : RV) (s : S) : tryK sub hs (.ret v s) = .ret v s := (rfl)
@[simp] theorem tryK_nx (sub : Str → Str → Option Bool) (hs : List (Str × Stm)) (ρ : Rho) (s : S) : tryK sub hs (.nx ρ s) = .nx ρ s := (rfl)
theorem tryK_exc (sub : Str → Str → Option Bool) (hs : List (Str × Stm)) (c : Str) (x : Option D) (ρ : Rho) (s : S) (k : Stm) (h : hdF sub c hs = some (some k)) : tryK sub hs (.exc c x ρ s) = noExc (k ρ s) := by
  show (match hdF sub c hs with | some (some k) => noExc (k ρ s) | some none => .exc c x ρ s | none => .no) = _
  rw [h]
@[simp] theorem noExc_ret (v : RV) (s : S) : noExc (.ret v s) = .ret v s := (rfl)
@[simp] theorem noExc_nx (ρ : Rho) (s : S) : noExc (.nx ρ s) = .nx ρ s := (rfl)
@[simp] theorem fIsN_eq (neg : Bool) (x : W) (s : S) : fIsN neg x s = .ok (.d (.bl (match x with | .d .non => !neg | _ => neg))) s := (rfl)
end TG

set_option linter.all false
set_option maxRecDepth 100000
namespace TG
open PySem L2
/-! ### what is drawn, as it is known of a run -/
theorem wE_of {α : Type} {E : Str → Option D → S → Prop} {Q : α → S → Prop} {r : Res α} {a : α} {s : S} (e : r = .ok a s) (h : Q a s) : wE E Q r := by rw [e]; exact .ok h
/-- the bag at 0, the rest as it was -/
def BS (t s : S) : Prop := ∃ b : Bag, s = b.cell :: t
theorem bs {b : Bag} {t : S} : BS t (b.cell :: t) := ⟨b, rfl⟩
abbrev intsD (l : List Int) : W := .d (.tup (l.map .int))
theorem pull_wp (b : Bag) (n : Int) (t : S) (h0 : 0 < n) (h1 : n < 1073741824) : wE nE (fun v s => ∃ x b', v = .w (.d (.int x)) ∧ s = Bag.cell b' :: t ∧ 0 ≤ x ∧ x < n) (f_v_law_pull [.r 0, .d (.int n)] (b.cell :: t)) := by
  obtain ⟨x, b', p, q, e⟩ := pull_spec b n t h0 h1
  exact wE_of e ⟨x, b', rfl, rfl, p, q⟩
theorem rim_wp (b : Bag) (t : S) (most : Int) (h0 : 3 ≤ most) (h1 : most ≤ 48) : wE nE (fun v s => ∃ (l : List Int) (b' : Bag), v = .w (intsD l) ∧ s = b'.cell :: t ∧ 3 ≤ l.length ∧ l.length ≤ 48 ∧ (l.length : Int) ≤ most) (f_v_law_rim [.r 0, .d (.int most)] (b.cell :: t)) := by
  obtain ⟨l, b', p, q, e⟩ := rim_spec b t most h0 h1
  exact wE_of e ⟨l, b', rfl, rfl, p, by omega, q⟩
theorem angle_wp (b : Bag) (t : S) : wE nE (fun v s => ∃ (x : Int) (b' : Bag), v = .w (.d (.int x)) ∧ s = b'.cell :: t) (f_v_law_angle [.r 0] (b.cell :: t)) := by
  obtain ⟨x, b', _, e⟩ := angle_spec b t
  exact wE_of e ⟨x, b', rfl, rfl⟩
/-- drops and a middle -/
structure GoodF (l : List Int) (m : Int) : Prop where
  l1 : 1 ≤ l.length
  l9 : l.length ≤ 9
  dr : ∀ x ∈ l, 0 ≤ x ∧ x ≤ 99
  m0 : 0 ≤ m
  m1 : m < l.length
theorem pair_wp (b : Bag) (t : S) : wE nE (fun v s => ∃ (l : List Int) (m : Int) (b' : Bag), v = .w (.d (.tup [.tup (l.map .int), .int m])) ∧ s = b'.cell :: t ∧ GoodF l m) (f_v_law_pair [.r 0] (b.cell :: t)) := by
  obtain ⟨l, m, b', h1, h2, h3, h4, h5, e⟩ := pair_spec b t
  exact wE_of e ⟨l, m, b', rfl, rfl, ⟨h1, h2, h3, h4, h5⟩⟩
theorem flat_len {α : Type} (l : List α) : ∀ n : Nat, (List.replicate n l).flatten.length = n * l.length
  | 0 => by simp
  | n + 1 => by rw [List.replicate_succ, List.flatten_cons, List.length_append, flat_len l n, Nat.succ_mul, Nat.add_comm]
theorem flat_map {α β : Type} (f : α → β) (l : List α) : ∀ n : Nat, (List.replicate n l).flatten.map f = (List.replicate n (l.map f)).flatten
  | 0 => by simp
  | n + 1 => by rw [List.replicate_succ, List.flatten_cons, List.map_append, flat_map f l n, List.replicate_succ, List.flatten_cons]
theorem badRim_spec (b : Bag) (t : S) (l : List Int) (h0 : 3 ≤ l.length) (h1 : l.length ≤ 48) : ∃ (l' : List Int) (b' : Bag), (l'.length < 3 ∨ 48 < l'.length) ∧ l'.length ≤ 2000 ∧ f_v_law_bad_rim [.r 0, .d (.tup (l.map .int))] (b.cell :: t) = .ok (.w (.d (.tup (l'.map .int)))) (b'.cell :: t) := by
  obtain ⟨x1, b1, p1, q1, e1⟩ := pull_spec b 2 t (by decide) (by decide)
  by_cases c : x1 = 0
  · obtain ⟨x2, b2, p2, q2, e2⟩ := pull_spec b1 3 t (by decide) (by decide)
    have hc : cut (l.map D.int) none (some x2) = (l.take x2.toNat).map D.int := by
      rw [List.map_take]
      unfold cut HT.sIx
      simp
      rcases third x2 p2 q2 with rfl | rfl | rfl <;> simp <;> omega
    refine ⟨l.take x2.toNat, b2, .inl (by rw [List.length_take]; omega), by rw [List.length_take]; omega, ?_⟩
    simp [f_v_law_bad_rim, runF, b_v_law_bad_rim, e1, c, e2, hc]
  · have hc : cut (l.map D.int) none (some 1) = (l.take 1).map D.int := by
      rw [List.map_take]
      unfold cut HT.sIx
      simp
    obtain ⟨big, hbig⟩ : ∃ big, big = (List.replicate 16 (l ++ l)).flatten := ⟨_, rfl⟩
    have hbl : big.length = 32 * l.length := by rw [hbig, flat_len, List.length_append]; omega
    have hbm : (List.replicate (Int.toNat 16) (l.map D.int ++ l.map D.int)).flatten = big.map D.int := by
      rw [hbig, flat_map, List.map_append]; rfl
    have ht : (l.take 1).length ≤ 1 := by rw [List.length_take]; omega
    have hne : l.map D.int ++ l.map D.int ≠ [] := by
      intro e
      have := congrArg List.length e
      rw [List.length_append, List.length_map, List.length_nil] at this
      omega
    have hmul : ∀ s, fMul (.d (.tup (l.map D.int ++ l.map D.int))) (.d (.int 16)) s = .ok (.d (.tup (big.map D.int))) s := by
      intro s
      unfold fMul
      rw [asInt_tup, asInt_int, asTup_tup]
      simp only
      rw [if_pos ⟨hne, by decide, by decide, by rw [List.length_append, List.length_map]; omega⟩, hbm]
    have hadd1 : ∀ s, fAdd (.d (.tup (l.map D.int))) (.d (.tup (l.map D.int))) s = .ok (.d (.tup (l.map D.int ++ l.map D.int))) s := by
      intro s
      rw [fAdd_tup, if_pos (by rw [List.length_map]; omega)]
    have hadd2 : ∀ s, fAdd (.d (.tup (big.map D.int))) (.d (.tup ((l.take 1).map D.int))) s = .ok (.d (.tup ((big ++ l.take 1).map D.int))) s := by
      intro s
      rw [fAdd_tup, if_pos (by rw [List.length_map, List.length_map]; omega), List.map_append]
    refine ⟨big ++ l.take 1, b1, .inr (by rw [List.length_append]; omega), by rw [List.length_append]; omega, ?_⟩
    simp [f_v_law_bad_rim, runF, b_v_law_bad_rim, e1, c, hc, hmul, hadd1, hadd2, -List.map_append, -fAdd_tup, -List.map_take]
theorem badRim_wp (b : Bag) (t : S) (l : List Int) (h0 : 3 ≤ l.length) (h1 : l.length ≤ 48) : wE nE (fun v s => ∃ (l' : List Int) (b' : Bag), v = .w (intsD l') ∧ s = b'.cell :: t ∧ (l'.length < 3 ∨ 48 < l'.length) ∧ l'.length ≤ 2000) (f_v_law_bad_rim [.r 0, .d (.tup (l.map .int))] (b.cell :: t)) := by
  obtain ⟨l', b', p, q, e⟩ := badRim_spec b t l h0 h1
  exact wE_of e ⟨l', b', rfl, rfl, p, q⟩
/-- the law begins: the bag is made -/
theorem bag_wp (ns : List Int) (h : ns.length ≤ 63) (s : S) : wE nE (fun v s' => ∃ (b : Bag) (z : List W), v = .own z ∧ Cell.lst z = b.cell ∧ s' = s) (f_v_law_bag [.d (.scr (ns.map .int))] s) := by
  obtain ⟨b, z, hz, e⟩ := bag_spec ns h s
  exact wE_of e ⟨b, z, rfl, hz, rfl⟩
theorem three (x : Int) (h0 : 0 ≤ x) (h1 : x < 3) (p q r : Int) : ∃ y, (y = p ∨ y = q ∨ y = r) ∧ atI (wD [.int p, .int q, .int r]) x = some (.d (.int y)) := by
  rcases third x h0 h1 with rfl | rfl | rfl
  · exact ⟨p, .inl rfl, rfl⟩
  · exact ⟨q, .inr (.inl rfl), rfl⟩
  · exact ⟨r, .inr (.inr rfl), rfl⟩
end TG

set_option linter.all false
set_option maxRecDepth 100000
namespace TG
open PySem L2
/-- a foot -/
def footD (l : List Int) (m : Int) : D := .ins "Foot" [("drops", .tup (l.map .int)), ("middle", .int m)]
@[simp] theorem fld_drops (l : List Int) (m : Int) (s : S) : fldOf "Foot" "drops" (.d (footD l m)) s = some (.d (.tup (l.map .int))) := rfl
@[simp] theorem fld_middle (l : List Int) (m : Int) (s : S) : fldOf "Foot" "middle" (.d (footD l m)) s = some (.d (.int m)) := rfl
def tchD (n : Int) (l : List Int) (m a : Int) : List D := l.mapIdx fun i d => .tup [.int ((a + (i : Nat) - m).fmod n), .int d]
def tchW (n m a : Int) : W → W
  | .d (.tup [.int i, .int d]) => .d (.tup [.int ((a + i - m).fmod n), .int d])
  | w => w
theorem enum_tch (n m a : Int) (l : List Int) : (enumD (l.map .int)).map (tchW n m a) = wD (tchD n l m a) := by
  unfold enumD tchD wD
  apply List.ext_getElem?
  intro i
  simp [List.getElem?_mapIdx]
  cases l[i]? <;> rfl
theorem enum_mem {w : W} {l : List Int} (hw : w ∈ enumD (l.map .int)) : ∃ (i : Nat) (d : Int), w = .d (.tup [.int i, .int d]) ∧ l[i]? = some d := by
  obtain ⟨i, hi⟩ := List.mem_iff_getElem?.mp hw
  unfold enumD at hi
  simp [List.getElem?_mapIdx] at hi
  obtain ⟨d, h1, h2⟩ := hi
  exact ⟨i, d, h2.symm, h1⟩
theorem touched_eq (n : Int) (l : List Int) (m a : Int) (s : S) (hn : n ≠ 0) (hl : l.length ≤ 1000) : f_touched [.d (.int n), .d (footD l m), .d (.int a)] s = .ok (.own (wD (tchD n l m a))) s := by
  have kn : ∀ x, kMod x n = true := fun x => kMod_ne hn
  obtain ⟨ρ2, s2, e, ⟨hs, x4, x5, hρ⟩⟩ := forE_pre (tgTup 2 (tgCons (tgName 4) (tgCons (tgName 5) tgNil))) (sApp 3 (eTup (eCons (eBin fMod (eBin fSub (eBin fAdd (eVar 2) (eVar 4)) (eFld "Foot" "middle" (eVar 1))) (eVar 0)) (eCons (eVar 5) eNil))))
    (enumD (l.map .int)) (fun pre ρ s' => s' = s ∧ ∃ x4 x5, ρ = [.w (.d (.int n)), .w (.d (footD l m)), .w (.d (.int a)), .own (pre.map (tchW n m a)), x4, x5]) (by
      intro pre w r hz ρ s' ⟨hs, x4, x5, hρ⟩
      subst hs hρ
      obtain ⟨i, d, rfl, _⟩ := enum_mem (show w ∈ enumD (l.map .int) by rw [hz]; simp)
      have hc : pre.length < 16777216 := by
        have := congrArg List.length hz
        simp [enumD] at this
        omega
      refine ⟨_, by simp; rfl, ?_⟩
      refine ⟨_, _, by simp [kn, hc]; rfl, rfl, ?_⟩
      simp [tchW]) [.w (.d (.int n)), .w (.d (footD l m)), .w (.d (.int a)), .own [], .no, .no] s ⟨rfl, _, _, rfl⟩
  subst hs hρ
  rw [enum_tch] at e
  simp [f_touched, runF, b_touched, e] at e ⊢

/-- the greatest of some numbers -/
def maxI (l : List Int) : Int := l.max?.getD 0
theorem maxI_some {l : List Int} (h : l ≠ []) : l.max? = some (maxI l) := by
  cases l with
  | nil => exact absurd rfl h
  | cons a r => rfl
def cellV (rim : List Int) (c : Int) : Int := rim[(c.fmod rim.length).toNat]?.getD 0
/-- the lift: of a rim, of drops, of a middle, at an angle -/
def liftV (rim l : List Int) (m a : Int) : Int := maxI (l.mapIdx fun i d => cellV rim (a + (i : Nat) - m) - d)
theorem item_tup (rim : List Int) (c : Int) (h : 0 < rim.length) (h0 : 0 ≤ c) (h1 : c < rim.length) : atI (wD (rim.map .int)) c = some (.d (.int (cellV rim c))) := by
  rw [atI_nat _ _ h0 (by simpa using h1)]
  have hc : c.fmod rim.length = c := by rw [Int.fmod_eq_emod_of_nonneg _ (by omega)]; exact Int.emod_eq_of_lt h0 h1
  have hl : c.toNat < rim.length := by omega
  simp [wD, cellV, hc, hl]
theorem tch_lift (rim l : List Int) (m a : Int) (h : 0 < rim.length) (g : W → W) (hg : ∀ c d : Int, 0 ≤ c → c < rim.length → g (.d (.tup [.int c, .int d])) = .d (.int (cellV rim c - d))) :
    (wD (tchD rim.length l m a)).map g = wD ((l.mapIdx fun i d => cellV rim (a + (i : Nat) - m) - d).map .int) := by
  unfold tchD wD
  apply List.ext_getElem?
  intro i
  simp [List.getElem?_mapIdx]
  cases l[i]? with
  | none => rfl
  | some d =>
    have hr := fmod_rng (a + i - m) rim.length (by omega)
    simp [hg _ _ hr.1 hr.2, cellV, fmod_fmod _ _ (show (0 : Int) < rim.length by omega)]
theorem tch_mem {n : Int} {l : List Int} {m a : Int} {w : W} (hn : 0 < n) (h : w ∈ wD (tchD n l m a)) : ∃ c d, 0 ≤ c ∧ c < n ∧ w = .d (.tup [.int c, .int d]) := by
  obtain ⟨i, hi⟩ := List.mem_iff_getElem?.mp h
  unfold tchD wD at hi
  simp [List.getElem?_mapIdx] at hi
  obtain ⟨d, h1, h2⟩ := hi
  exact ⟨_, d, (fmod_rng _ n hn).1, (fmod_rng _ n hn).2, h2.symm⟩
def liftG (rim : List Int) : W → W
  | .d (.tup [.int c, .int d]) => .d (.int (cellV rim c - d))
  | w => w
theorem liftOn_eq (rim l : List Int) (m a : Int) (s : S) (h : 0 < rim.length) (hl : 1 ≤ l.length) (hl' : l.length ≤ 1000) :
    f_lift_on [.d (.tup (rim.map .int)), .d (footD l m), .d (.int a)] s = .ok (.w (.d (.int (liftV rim l m a)))) s := by
  have hT := touched_eq rim.length l m a s (by omega) hl'
  have e3 := lcM_map (tgTup 2 (tgCons (tgName 3) (tgCons (tgName 4) tgNil))) eYes (eBin fSub (eBin fIx (eVar 0) (eVar 3)) (eVar 4)) (wipeR [.w (.d (.tup (rim.map .int))), .w (.d (footD l m)), .w (.d (.int a)), .no, .no] [3, 4]) (liftG rim) s (wD (tchD rim.length l m a)) (by
    intro w hw
    obtain ⟨c, d, h0, h1, rfl⟩ := tch_mem (by omega) hw
    refine ⟨_, by simp [wipeR]; rfl, rfl, ?_⟩
    simp [item_tup rim c h h0 h1, liftG])
  rw [tch_lift rim l m a h _ (fun c d _ _ => rfl)] at e3
  have hlen : (tchD rim.length l m a).length ≤ 16777216 := by simp [tchD]; omega
  have hne : (l.mapIdx fun i d => cellV rim (a + (i : Nat) - m) - d) ≠ [] := by
    intro e
    have := congrArg List.length e
    simp at this
    subst this
    simp at hl
  simp only [f_lift_on, runF, b_lift_on]
  simp [hT, hlen, e3, maxI_some hne]
  rfl
theorem lookRim_eq (rim : List Int) (s : S) (h : 3 ≤ rim.length) (h' : rim.length ≤ 48) : f_look_rim [.d (.tup (rim.map .int))] s = .ok (.w (.d .non)) s := by
  have h1 : (3 : Int) ≤ rim.length := by omega
  have h2 : (rim.length : Int) ≤ 48 := by omega
  simp [f_look_rim, runF, b_look_rim, f_is_rim, b_is_rim, h1, h2]
theorem lift_eq (rim l : List Int) (m a : Int) (s : S) (h : 3 ≤ rim.length) (h' : rim.length ≤ 48) (hl : 1 ≤ l.length) (hl' : l.length ≤ 1000) :
    f_lift [.d (.tup (rim.map .int)), .d (footD l m), .d (.int a)] s = .ok (.w (.d (.int (liftV rim l m a)))) s := by
  simp [f_lift, runF, b_lift, lookRim_eq rim s h h', liftOn_eq rim l m a s (by omega) hl hl']
def motV (rim l : List Int) (m : Int) : List Int := (List.range rim.length).map fun a : Nat => liftV rim l m a
def motG (rim l : List Int) (m : Int) : W → W
  | .d (.int a) => .d (.int (liftV rim l m a))
  | w => w
theorem motion_eq (rim l : List Int) (m : Int) (s : S) (h : 3 ≤ rim.length) (h' : rim.length ≤ 48) (hl : 1 ≤ l.length) (hl' : l.length ≤ 1000) :
    f_motion [.d (.tup (rim.map .int)), .d (footD l m)] s = .ok (.w (.d (.tup ((motV rim l m).map .int)))) s := by
  have e3 := lcM_map (tgName 2) eYes (eCall f_lift_on (eCons (eVar 0) (eCons (eVar 1) (eCons (eVar 2) eNil)))) (wipeR [.w (.d (.tup (rim.map .int))), .w (.d (footD l m)), .no] [2]) (motG rim l m) s ((List.range rim.length).map fun i : Nat => W.d (.int (i : Int))) (by
    intro w hw
    obtain ⟨i, hi, rfl⟩ := List.mem_map.mp hw
    refine ⟨_, rfl, rfl, ?_⟩
    simp [wipeR, liftOn_eq rim l m _ s (by omega) hl hl']
    rfl)
  have e4 : ((List.range rim.length).map fun i : Nat => W.d (.int (i : Int))).map (motG rim l m) = wD ((motV rim l m).map .int) := by
    simp [motV, wD, motG]
  rw [e4] at e3
  have hL : rim.length ≤ 16777216 := by omega
  have hr := rng1_nat rim.length s (by omega)
  simp only [f_motion, runF, b_motion]
  simp [lookRim_eq rim s h h', hr, hL, e3, -rng1_eq]
/-- lifts come again with the rim -/
theorem liftV_congr (rim l : List Int) (m a b : Int) (h : 0 < rim.length) (e : a % (rim.length : Int) = b % (rim.length : Int)) : liftV rim l m a = liftV rim l m b := by
  unfold liftV cellV
  have : ∀ i : Nat, (a + i - m).fmod rim.length = (b + i - m).fmod rim.length := by
    intro i
    rw [Int.fmod_eq_emod_of_nonneg _ (by omega), Int.fmod_eq_emod_of_nonneg _ (by omega)]
    have : a + i - m = a + (i - m) := by omega
    rw [this, show b + i - m = b + (i - m) by omega]
    rw [Int.add_emod, e, ← Int.add_emod]
  simp [this]
/-- a foot is made -/
theorem goodDrops_eq (l : List Int) (s : S) (h : 1 ≤ l.length) (h' : l.length ≤ 9) (hl : ∀ x ∈ l, 0 ≤ x ∧ x ≤ 99) : f_good_drops [.d (.tup (l.map .int))] s = .ok (.w (.d (.bl true))) s := by
  have e3 := lcM_map (tgName 1) eYes (eChain fLe fLe (eC (.int 0)) (eVar 1) (eC (.int 99))) (wipeR [.w (.d (.tup (l.map .int))), .no] [1]) (fun _ => .d (.bl true)) s (wD (l.map .int)) (by
    intro w hw
    unfold wD at hw
    obtain ⟨d, hd, rfl⟩ := List.mem_map.mp hw
    obtain ⟨i, hi, rfl⟩ := List.mem_map.mp hd
    refine ⟨_, rfl, rfl, ?_⟩
    simp [wipeR, (hl i hi).1, (hl i hi).2])
  have e4 : (wD (l.map .int)).map (fun _ => W.d (.bl true)) = wD ((List.replicate l.length true).map .bl) := by
    simp [wD, List.eq_replicate_iff]
  rw [e4] at e3
  have hL : l.length ≤ 16777216 := by omega
  have h1 : (1 : Int) ≤ l.length := by omega
  have h2 : (l.length : Int) ≤ 9 := by omega
  have h3 := fAll_bls (List.replicate l.length true) s
  simp at h3 e3
  simp [f_good_drops, runF, b_good_drops, h1, h2, hL, e3, h3]
theorem goodFoot_eq (l : List Int) (m : Int) (s : S) (h : 1 ≤ l.length) (h' : l.length ≤ 9) (hl : ∀ x ∈ l, 0 ≤ x ∧ x ≤ 99) (h0 : 0 ≤ m) (h1 : m < l.length) : f_good_foot [.d (.tup (l.map .int)), .d (.int m)] s = .ok (.w (.d (.bl true))) s := by
  simp [f_good_foot, runF, b_good_foot, goodDrops_eq l s h h' hl, h0, h1]
theorem footInit_eq (l : List Int) (m : Int) (s : S) (h : 1 ≤ l.length) (h' : l.length ≤ 9) (hl : ∀ x ∈ l, 0 ≤ x ∧ x ≤ 99) (h0 : 0 ≤ m) (h1 : m < l.length) :
    f_Foot_init [.r s.length, .d (.tup (l.map .int)), .d (.int m)] (s ++ [.ins "Foot" []]) = .ok (.w (.d .non)) (s ++ [.ins "Foot" [("drops", .d (.tup (l.map .int))), ("middle", .d (.int m))]]) := by
  have e1 : setF "Foot" "drops" (.r s.length) (.d (.tup (l.map .int))) (s ++ [.ins "Foot" []]) = some (s ++ [.ins "Foot" [("drops", .d (.tup (l.map .int)))]]) := by
    simp [setF, putW]
  have e2 : setF "Foot" "middle" (.r s.length) (.d (.int m)) (s ++ [.ins "Foot" [("drops", .d (.tup (l.map .int)))]]) = some (s ++ [.ins "Foot" [("drops", .d (.tup (l.map .int))), ("middle", .d (.int m))]]) := by
    simp [setF, putW]
    decide
  simp [f_Foot_init, runF, b_Foot_init, goodFoot_eq l m _ h h' hl h0 h1, e1, e2]
theorem foot_made (l : List Int) (m : Int) (s : S) (h : 1 ≤ l.length) (h' : l.length ≤ 9) (hl : ∀ x ∈ l, 0 ≤ x ∧ x ≤ 99) (h0 : 0 ≤ m) (h1 : m < l.length) :
    madeD "Foot" s (f_Foot_init [.r s.length, .d (.tup (l.map .int)), .d (.int m)] (s ++ [.ins "Foot" []])) = .ok (.d (footD l m)) s := by
  rw [footInit_eq l m s h h' hl h0 h1]
  simp [madeD, allDataF, footD]
end TG

set_option linter.all false
set_option maxRecDepth 100000
namespace TG
open PySem L2
/-! ### data compared -/
mutual
def D.plain : D → Bool
  | .non => true | .bl _ => true | .int _ => true | .str x => (PyData.str x).canLay0
  | .tup l => D.plains l | .lst l => D.plains l
  | _ => false
def D.plains : List D → Bool
  | [] => true
  | x :: r => D.plain x && D.plains r
end
mutual
def D.dep : D → Nat
  | .tup l => D.deps l + 1 | .lst l => D.deps l + 1
  | _ => 0
def D.deps : List D → Nat
  | [] => 0
  | x :: r => max (D.dep x) (D.deps r)
end
mutual
theorem plain_py : ∀ {d : D}, d.plain = true → d.py.canLay0 = true ∧ d.py.depth = d.dep ∧ PyData.eqv d.py d.py = true
  | .non, _ => ⟨rfl, rfl, rfl⟩
  | .bl b, _ => ⟨rfl, rfl, by simp [D.py, PyData.eqv]⟩
  | .int i, _ => ⟨rfl, rfl, by simp [D.py, PyData.eqv]⟩
  | .str x, h => ⟨h, rfl, by simp [D.py, PyData.eqv]⟩
  | .tup l, h => by
    have q := plains_py (l := l) (by simpa [D.plain] using h)
    exact ⟨by simpa [D.py, PyData.canLay0] using q.1, by simp [D.py, PyData.depth, D.dep, q.2.1], by simpa [D.py, PyData.eqv] using q.2.2⟩
  | .lst l, h => by
    have q := plains_py (l := l) (by simpa [D.plain] using h)
    exact ⟨by simpa [D.py, PyData.canLay0] using q.1, by simp [D.py, PyData.depth, D.dep, q.2.1], by simpa [D.py, PyData.eqv] using q.2.2⟩
  | .dic _, h => by cases h
  | .ins _ _, h => by cases h
  | .scr _, h => by cases h
theorem plains_py : ∀ {l : List D}, D.plains l = true → PyData.canLayAll0 (D.pys l) = true ∧ PyData.depthAll (D.pys l) = D.deps l ∧ PyData.eqvAll (D.pys l) (D.pys l) = true
  | [], _ => ⟨rfl, rfl, rfl⟩
  | x :: r, h => by
    simp only [D.plains, Bool.and_eq_true] at h
    have q1 := plain_py h.1
    have q2 := plains_py h.2
    exact ⟨by simp [D.pys, PyData.canLayAll0, q1.1, q2.1], by simp [D.pys, PyData.depthAll, D.deps, q1.2.1, q2.2.1], by simp [D.pys, PyData.eqvAll, q1.2.2, q2.2.2]⟩
end
theorem shaped_of {d : D} (h : d.plain = true) (k : d.dep ≤ 64) : SeqAt.shaped d.py = true := by
  have q := plain_py h
  simp [SeqAt.shaped, q.1, q.2.1, k]
theorem fEq_refl (neg : Bool) (d : D) (s : S) (h : d.plain = true) (k : d.dep ≤ 64) : fEq neg (.d d) (.d d) s = .ok (.d (.bl (!neg))) s := by
  have q := plain_py h
  cases neg <;> simp [fEq, asData, eqD, shaped_of h k, q.2.2]
@[simp] theorem fEq_bl (neg : Bool) (a b : Bool) (s : S) : fEq neg (.d (.bl a)) (.d (.bl b)) s = .ok (.d (.bl (if neg then !(a == b) else a == b))) s := by
  simp [fEq, asData, eqD, D.py, SeqAt.shaped, PyData.canLay0, PyData.depth, PyData.eqv]
@[simp] theorem plain_int (i : Int) : (D.int i).plain = true := rfl
@[simp] theorem plain_bl (i : Bool) : (D.bl i).plain = true := rfl
@[simp] theorem plain_non : D.non.plain = true := rfl
@[simp] theorem plain_tup (l : List D) : (D.tup l).plain = D.plains l := by rw [D.plain]
@[simp] theorem plain_lst (l : List D) : (D.lst l).plain = D.plains l := by rw [D.plain]
theorem plains_iff {l : List D} : D.plains l = true ↔ ∀ x ∈ l, x.plain = true := by
  induction l with
  | nil => simp [D.plains]
  | cons a r ih => simp [D.plains, ih]
theorem deps_le {l : List D} {n : Nat} : D.deps l ≤ n ↔ ∀ x ∈ l, x.dep ≤ n := by
  induction l with
  | nil => simp [D.deps]
  | cons a r ih => simp [D.deps, ih, Nat.max_le]
@[simp] theorem plains_ints (l : List Int) : D.plains (l.map D.int) = true := plains_iff.mpr (by simp)
theorem deps_ints (l : List Int) : D.deps (l.map D.int) = 0 := Nat.le_zero.mp (deps_le.mpr (by simp [D.dep]))
theorem dep_tup (l : List D) : (D.tup l).dep = D.deps l + 1 := by rw [D.dep]
theorem dep_lst (l : List D) : (D.lst l).dep = D.deps l + 1 := by rw [D.dep]
/-! ### the kinds -/
@[simp] theorem kb_it : kitB "int" "tuple" = some false := by decide +kernel
@[simp] theorem kb_il : kitB "int" "list" = some false := by decide +kernel
@[simp] theorem kb_ib : kitB "int" "bool" = some false := by decide +kernel
@[simp] theorem kb_ii : kitB "int" "int" = some true := by decide +kernel
@[simp] theorem kb_bt : kitB "bool" "tuple" = some false := by decide +kernel
@[simp] theorem kb_bl : kitB "bool" "list" = some false := by decide +kernel
@[simp] theorem kb_bb : kitB "bool" "bool" = some true := by decide +kernel
@[simp] theorem kb_bi : kitB "bool" "int" = some true := by decide +kernel
@[simp] theorem kb_nt : kitB "NoneType" "tuple" = some false := by decide +kernel
@[simp] theorem kb_nl : kitB "NoneType" "list" = some false := by decide +kernel
@[simp] theorem kb_nb : kitB "NoneType" "bool" = some false := by decide +kernel
@[simp] theorem kb_ni : kitB "NoneType" "int" = some false := by decide +kernel
@[simp] theorem kb_st : kitB "str" "tuple" = some false := by decide +kernel
@[simp] theorem kb_sl : kitB "str" "list" = some false := by decide +kernel
@[simp] theorem kb_sb : kitB "str" "bool" = some false := by decide +kernel
@[simp] theorem kb_si : kitB "str" "int" = some false := by decide +kernel
@[simp] theorem kb_tt : kitB "tuple" "tuple" = some true := by decide +kernel
@[simp] theorem kb_tl : kitB "tuple" "list" = some false := by decide +kernel
@[simp] theorem kb_tb : kitB "tuple" "bool" = some false := by decide +kernel
@[simp] theorem kb_ti : kitB "tuple" "int" = some false := by decide +kernel
@[simp] theorem kb_lt : kitB "list" "tuple" = some false := by decide +kernel
@[simp] theorem kb_ll : kitB "list" "list" = some true := by decide +kernel
@[simp] theorem kb_lb : kitB "list" "bool" = some false := by decide +kernel
@[simp] theorem kb_li : kitB "list" "int" = some false := by decide +kernel
@[simp] theorem fIsi_eq (t : String) (x : W) (s : S) : fIsi t x s = match tyW x s with | some a => (match kitB a t with | some b => .ok (.d (.bl b)) s | none => .no) | none => .no := (rfl)
@[simp] theorem fIsi2_eq (t u : String) (x : W) (s : S) : fIsi2 t u x s = match tyW x s with | some a => (match kitB a t, kitB a u with | some b, some c => .ok (.d (.bl (b || c))) s | _, _ => .no) | none => .no := (rfl)
@[simp] theorem tyW_d (d : D) (s : S) : tyW (.d d) s = tyD d := (rfl)
@[simp] theorem tyD_non : tyD .non = some "NoneType" := (rfl)
@[simp] theorem tyD_bl (b : Bool) : tyD (.bl b) = some "bool" := (rfl)
@[simp] theorem tyD_int (b : Int) : tyD (.int b) = some "int" := (rfl)
@[simp] theorem tyD_str (b : Str) : tyD (.str b) = some "str" := (rfl)
@[simp] theorem tyD_tup (b : List D) : tyD (.tup b) = some "tuple" := (rfl)
@[simp] theorem tyD_lst (b : List D) : tyD (.lst b) = some "list" := (rfl)
/-! a thing is like itself -/
mutual
def D.slim : D → Bool
  | .tup l => decide (l.length ≤ 1000) && D.slims l
  | .lst l => decide (l.length ≤ 1000) && D.slims l
  | _ => true
def D.slims : List D → Bool
  | [] => true
  | x :: r => D.slim x && D.slims r
end
theorem slims_iff {l : List D} : D.slims l = true ↔ ∀ x ∈ l, x.slim = true := by
  induction l with
  | nil => simp [D.slims]
  | cons a r ih => simp [D.slims, ih]
theorem all_true (n : Nat) (s : S) : fAll (.d (.lst (List.replicate n (D.bl true)))) s = .ok (.d (.bl true)) s := by
  have h := fAll_bls (List.replicate n true) s
  simpa using h
theorem like_many (n : Nat) (l : List D) (x y : D) (hx : ∀ s, asSeq (.d x) s = some (wD l)) (s : S) (ih : ∀ d ∈ l, f_v_law_like n [.d d, .d d] s = .ok (.w (.d (.bl true))) s) :
    lcM (tgName 2) eYes (eCall (f_v_law_like n) (eCons (eBin fIx (eVar 0) (eVar 2)) (eCons (eBin fIx (eVar 1) (eVar 2)) eNil))) (wipeR [.w (.d x), .w (.d x), .no] [2]) ((List.range l.length).map fun i : Nat => W.d (.int (i : Int))) s = .ok (wD (List.replicate l.length (.bl true))) s := by
  rw [lcM_map (g := fun _ => .d (.bl true))]
  · simp [wD, List.eq_replicate_iff]
  · intro w hw
    obtain ⟨i, hi, rfl⟩ := List.mem_map.mp hw
    have hi := List.mem_range.mp hi
    refine ⟨_, rfl, rfl, ?_⟩
    have e : (wD l)[i]? = some (.d l[i]) := by simp [wD, hi]
    simp [wipeR, hx, e, ih l[i] (List.getElem_mem hi)]
theorem like_refl : ∀ (n : Nat) (d : D) (s : S), d.plain = true → d.slim = true → d.dep < n → n ≤ 64 → f_v_law_like n [.d d, .d d] s = .ok (.w (.d (.bl true))) s
  | 0, _, _, _, _, h, _ => by omega
  | n + 1, d, s, hp, hs, hd, hn => by
    have rf := fun neg => fEq_refl neg d s hp (by omega)
    rw [show f_v_law_like (n + 1) = runF 2 3 (b_v_law_like (f_v_law_like n)) from rfl]
    cases d with
    | non => simp [runF, b_v_law_like, rf]
    | bl b => simp [runF, b_v_law_like]
    | int i => simp [runF, b_v_law_like]
    | str x => simp [runF, b_v_law_like, rf]
    | tup l =>
      rw [D.slim, Bool.and_eq_true] at hs
      have hl : l.length ≤ 1000 := of_decide_eq_true hs.1
      rw [dep_tup] at hd
      have ih := like_many n l (.tup l) (.tup l) (fun _ => rfl) s fun d hdl => like_refl n d s (plains_iff.mp (by simpa using hp) d hdl) (slims_iff.mp hs.2 d hdl) (by have := deps_le.mp (Nat.le_refl (D.deps l)) d hdl; omega) (by omega)
      have hL : l.length ≤ 16777216 := by omega
      simp [runF, b_v_law_like, rng1_nat _ _ hl, hL, ih, all_true, -rng1_eq]
    | lst l =>
      rw [D.slim, Bool.and_eq_true] at hs
      have hl : l.length ≤ 1000 := of_decide_eq_true hs.1
      rw [dep_lst] at hd
      have ih := like_many n l (.lst l) (.lst l) (fun _ => rfl) s fun d hdl => like_refl n d s (plains_iff.mp (by simpa using hp) d hdl) (slims_iff.mp hs.2 d hdl) (by have := deps_le.mp (Nat.le_refl (D.deps l)) d hdl; omega) (by omega)
      have hL : l.length ≤ 16777216 := by omega
      simp [runF, b_v_law_like, rng1_nat _ _ hl, hL, ih, all_true, -rng1_eq]
    | dic _ => cases hp
    | ins _ _ => cases hp
    | scr _ => cases hp
end TG

set_option linter.all false
set_option maxRecDepth 100000
namespace TG
open PySem L2
/-! ### the law's own lift -/
theorem tch_range (n m a : Int) (l : List Int) : ((List.range l.length).map fun i : Nat => D.tup [.int ((a + i - m).fmod n), .int (l.getD i 0)]) = tchD n l m a := by
  unfold tchD
  apply List.ext_getElem?
  intro i
  simp only [List.getElem?_map, List.getElem?_mapIdx]
  by_cases hi : i < l.length
  · simp [hi]
  · simp [hi]
theorem spots_eq (n : Nat) (l : List Int) (m a : Int) (s : S) (hn : 0 < n) (hl : l.length ≤ 1000) : f_v_law_spots [.d (.int n), .d (.tup (l.map .int)), .d (.int m), .d (.int a)] s = .ok (.own (wD (tchD n l m a))) s := by
  have kn : ∀ x, kMod x (n : Nat) = true := fun x => kMod_ne (by omega)
  have hL : l.length ≤ 16777216 := Nat.le_trans hl (by decide)
  have hr := rng1_nat l.length s hl
  rw [f_v_law_spots, runF_eq]
  simp [b_v_law_spots, hr, hL, -rng1_eq]
  rw [lcM_fn' (v := fun i : Nat => .tup [.int ((a + i - m).fmod n), .int (l.getD i 0)])]
  · rw [tch_range]
    simp
  · intro i hi
    have hi := List.mem_range.mp hi
    refine ⟨_, rfl, ?_⟩
    have e : ∀ h, (wD (l.map D.int))[i]'h = .d (.int l[i]) := by intro h; simp [wD]
    simp [wipeR, kn, e, hi]
theorem max_fold : ∀ (l : List Int) (x : Int), (l.foldl (fun b y => if y > b then y else b) x) = ((x :: l).max?).getD 0
  | [], x => by simp
  | y :: r, x => by
    rw [List.foldl_cons, max_fold r]
    have : (if y > x then y else x) = max x y := by
      rw [Int.max_def]; split <;> split <;> omega
    rw [this]
    simp [List.max?_cons]
    cases r.max? with
    | none => simp
    | some z => simp [Int.max_assoc]
def bestV : List Int → Option Int
  | [] => none
  | x :: r => some (r.foldl (fun b y => if y > b then y else b) x)
theorem bestV_app (l : List Int) (y : Int) : bestV (l ++ [y]) = some (match bestV l with | none => y | some b => if y > b then y else b) := by
  cases l with
  | nil => rfl
  | cons x r => simp [bestV, List.foldl_append]
theorem bestV_max {l : List Int} (h : l ≠ []) : bestV l = some (maxI l) := by
  cases l with
  | nil => exact absurd rfl h
  | cons x r => rw [bestV, max_fold]; rfl
def optD : Option Int → D
  | none => .non
  | some i => .int i
theorem ride_eq (rim l : List Int) (m a : Int) (s : S) (h : 0 < rim.length) (hl : 1 ≤ l.length) (hl' : l.length ≤ 1000) :
    f_v_law_ride [.d (.tup (rim.map .int)), .d (.tup (l.map .int)), .d (.int m), .d (.int a)] s = .ok (.w (.d (.int (liftV rim l m a)))) s := by
  have e1 := spots_eq rim.length l m a s h hl'
  have e2 : wD (tchD rim.length l m a) = (List.range l.length).map fun i : Nat => W.d (.tup [.int ((a + i - m).fmod rim.length), .int (l.getD i 0)]) := by
    rw [← tch_range]
    unfold wD
    rw [List.map_map]
    rfl
  refine eq_wE ?_
  rw [f_v_law_ride]
  refine wE_fn (by rfl) ?_
  simp [b_v_law_ride, e1]
  rw [e2]
  refine wS_mid (fun ρ s' => s' = s ∧ ∃ x5 x6, ρ = [.w (intsD rim), .w (intsD l), .w (.d (.int m)), .w (.d (.int a)), .w (.d (.int (liftV rim l m a))), x5, x6]) ?_ ?_
  · refine forE_at (fun pre ρ s' => s' = s ∧ ∃ x5 x6, ρ = [.w (intsD rim), .w (intsD l), .w (.d (.int m)), .w (.d (.int a)), .w (.d (optD (bestV (pre.map fun i : Nat => cellV rim (a + i - m) - l.getD i 0)))), x5, x6]) ⟨rfl, _, _, rfl⟩ ?_ ?_
    · rintro pre i r hz ρ s' ⟨rfl, x5, x6, rfl⟩
      have hi : i < l.length := List.mem_range.mp (by rw [hz]; simp)
      have hf := fmod_rng (a + i - m) rim.length (by omega)
      have hc := item_tup rim ((a + i - m).fmod rim.length) h hf.1 hf.2
      have hcc : cellV rim ((a + i - m).fmod rim.length) = cellV rim (a + i - m) := by
        unfold cellV; rw [fmod_fmod _ _ (by omega)]
      rw [hcc] at hc
      rw [List.map_append, List.map_singleton, bestV_app]
      generalize bestV (pre.map fun i : Nat => cellV rim (a + i - m) - l.getD i 0) = o
      refine ⟨_, by simp; rfl, ?_⟩
      cases o with
      | none => simp [optD, hc, hi]
      | some b =>
        by_cases hg : b < cellV rim (a + i - m) - l[i]
        · simp [optD, hc, hg, hi]
        · simp [optD, hc, hg, hi]
    · rintro ρ s' ⟨rfl, x5, x6, rfl⟩
      have hne : (List.range l.length).map (fun i : Nat => cellV rim (a + i - m) - l.getD i 0) ≠ [] := by
        intro e
        have := congrArg List.length e
        rw [List.length_map, List.length_range, List.length_nil] at this
        omega
      refine ⟨rfl, x5, x6, ?_⟩
      have e3 : ((List.range l.length).map fun i : Nat => cellV rim (a + i - m) - l.getD i 0) = l.mapIdx fun i d => cellV rim (a + (i : Nat) - m) - d := by
        apply List.ext_getElem?
        intro i
        simp only [List.getElem?_map, List.getElem?_mapIdx]
        by_cases hi : i < l.length
        · simp [hi]
        · simp [hi]
      rw [bestV_max hne, e3]
      rfl
  · rintro ρ s' ⟨rfl, x5, x6, rfl⟩
    simp
end TG

set_option linter.all false
set_option maxRecDepth 100000
namespace TG
open PySem L2
@[simp] theorem eSortSet_eq (a : Cmp (List W)) (ρ : Rho) (s : S) : eSortSet a ρ s = (a ρ s).bind kSortSet := (rfl)
@[simp] theorem kSortSet_eq (x : W) (s : S) : kSortSet [x] s = match asIntsL x s with | some l => if l.length < 64 then .ok (wD ((sortD l).map D.int)) s else .no | none => .no := (rfl)
@[simp] theorem sRetC_eq (f : Sem1) (a : Cmp (List W)) (ρ : Rho) (s : S) : sRetC f a ρ s = ebS (a ρ s) ρ (kRetC f) := (rfl)
@[simp] theorem kRetC_eq (f : Sem1) (ws : List W) (ρ : Rho) (s : S) : kRetC f ws ρ s = match f ws s with
  | .ok rv s' => .ret rv s'
  | .exc c x s' => .exc c x ρ s'
  | .no => .no := (rfl)
@[simp] theorem eIxO_eq (i : Nat) (e : Cmp W) (ρ : Rho) (s : S) : eIxO i e ρ s = match (ρ[i]? : Option EV) with | some (.own l) => (e ρ s).bind (kIxO l) | _ => .no := (rfl)
@[simp] theorem kIxO_eq (l : List W) (y : W) (s : S) : kIxO l y s = match asInt y with | some k => (match atI l k with | some w => .ok w s | none => .no) | none => .no := (rfl)
@[simp] theorem eLenO_eq (i : Nat) (ρ : Rho) (s : S) : eLenO i ρ s = match (ρ[i]? : Option EV) with | some (.own l) => .ok (.d (.int l.length)) s | _ => .no := (rfl)
@[simp] theorem kSetIO2_eq (i : Nat) (l : List W) (x z : W) (ρ : Rho) (s : S) : kSetIO2 i l x z ρ s = match asInt z with | some k => (match ixN l.length k with | some j => .nx (ρ.set i (.own (l.set j x))) s | none => .no) | none => .no := (rfl)
@[simp] theorem kSetIO_eq (i : Nat) (k : Cmp W) (x : W) (ρ : Rho) (s : S) : kSetIO i k x ρ s = match (ρ[i]? : Option EV) with | some (.own l) => ebS (k ρ s) ρ (kSetIO2 i l x) | _ => .no := (rfl)
@[simp] theorem sSetIO_eq (i : Nat) (k v : Cmp W) (ρ : Rho) (s : S) : sSetIO i k v ρ s = ebS (v ρ s) ρ (kSetIO i k) := (rfl)
@[simp] theorem kExt_eq (i : Nat) (l : List W) (y : W) (ρ : Rho) (s : S) : kExt i l y ρ s = match asLst y s with | some zs => if l.length + zs.length ≤ 16777216 then .nx (ρ.set i (.own (l ++ zs))) s else .no | none => .no := (rfl)
@[simp] theorem sExt_eq (i : Nat) (e : Cmp W) (ρ : Rho) (s : S) : sExt i e ρ s = match (ρ[i]? : Option EV) with | some (.own l) => ebS (e ρ s) ρ (kExt i l) | _ => .no := (rfl)
@[simp] theorem kAppC2_eq (x y : W) (ρ : Rho) (s : S) : kAppC2 x y ρ s = match appC x y s with | some s' => .nx ρ s' | none => .no := (rfl)
@[simp] theorem kAppC_eq (e : Cmp W) (x : W) (ρ : Rho) (s : S) : kAppC e x ρ s = if isCL x s = true then ebS (e ρ s) ρ (kAppC2 x) else .no := (rfl)
@[simp] theorem sAppC_eq (o e : Cmp W) (ρ : Rho) (s : S) : sAppC o e ρ s = ebS (o ρ s) ρ (kAppC e) := (rfl)
@[simp] theorem appC_eq (n : Nat) (v : W) (s : S) : appC (.r n) v s = match s[n]? with | some (.lst l) => if l.length < 16777216 then some (s.set n (.lst (l ++ [v]))) else none | _ => none := (rfl)
@[simp] theorem isCL_eq (n : Nat) (s : S) : isCL (.r n) s = match s[n]? with | some (.lst _) => true | _ => false := (rfl)
@[simp] theorem kProm_eq (rv : RV) (s : S) : kProm rv s = match rv with
  | .w x => .ok x s
  | .own l => .ok (.r s.length) (s ++ [.lst l])
  | .ownD l => .ok (.r s.length) (s ++ [.dic l]) := (rfl)
@[simp] theorem kCallC_eq (f : Sem1) (ws : List W) (s : S) : kCallC f ws s = (f ws s).bind kProm := (rfl)
@[simp] theorem eCallC_eq (f : Sem1) (a : Cmp (List W)) (ρ : Rho) (s : S) : eCallC f a ρ s = (a ρ s).bind (kCallC f) := (rfl)
@[simp] theorem tyW_r (n : Nat) (s : S) : tyW (.r n) s = match s[n]? with | some (.lst _) => some "list" | some (.dic _) => some "dict" | _ => none := (rfl)
/-! ### the cells that bear -/
def spotL (n : Int) (l : List Int) (m a : Int) : List (Int × Int) := (List.range l.length).map fun i : Nat => ((a + i - m).fmod n, l.getD i 0)
def pairD (p : Int × Int) : D := .tup [.int p.1, .int p.2]
theorem spot_D (n m a : Int) (l : List Int) : wD (tchD n l m a) = (spotL n l m a).map fun p => W.d (pairD p) := by
  rw [← tch_range]
  unfold wD spotL
  rw [List.map_map, List.map_map]
  rfl
theorem spotL_len (n m a : Int) (l : List Int) : (spotL n l m a).length = l.length := by simp [spotL]
theorem spotL_rng {n : Int} (hn : 0 < n) {m a : Int} {l : List Int} {p : Int × Int} (h : p ∈ spotL n l m a) : 0 ≤ p.1 ∧ p.1 < n := by
  obtain ⟨i, _, rfl⟩ := List.mem_map.mp h
  exact fmod_rng _ _ hn
def bearL (rim l : List Int) (m a : Int) : List Int := ((spotL rim.length l m a).filter fun p => cellV rim p.1 - p.2 == liftV rim l m a).map (·.1)
def bearV (rim l : List Int) (m a : Int) : List Int := sortD (bearL rim l m a)
theorem bearL_len (rim l : List Int) (m a : Int) : (bearL rim l m a).length ≤ l.length := by
  unfold bearL
  rw [List.length_map]
  exact Nat.le_trans (List.length_filter_le _ _) (by rw [spotL_len]; exact Nat.le_refl _)
theorem bearLc_eq (rim l : List Int) (m a : Int) (s : S) (t : Tgt) (tst : Cmp Bool) (e : Cmp W) (ρ : Rho) (h : 0 < rim.length)
    (ht : ∀ c d : Int, 0 ≤ c → c < rim.length → ∃ ρ1, t (.d (.tup [.int c, .int d])) ρ = some ρ1 ∧ tst ρ1 s = .ok (cellV rim c - d == liftV rim l m a) s ∧ e ρ1 s = .ok (.d (.int c)) s) :
    lcM t tst e ρ (wD (tchD rim.length l m a)) s = .ok (wD ((bearL rim l m a).map .int)) s := by
  rw [spot_D, lcM_fn (p := fun p : Int × Int => cellV rim p.1 - p.2 == liftV rim l m a) (v := fun p : Int × Int => .int p.1)]
  · unfold bearL
    rw [List.map_map]
    rfl
  · intro p hp
    have hr := spotL_rng (by omega) hp
    obtain ⟨ρ1, e1, e2, e3⟩ := ht p.1 p.2 hr.1 hr.2
    exact ⟨ρ1, e1, e2, fun _ => e3⟩
theorem bearOn_eq (rim l : List Int) (m a : Int) (s : S) (h : 0 < rim.length) (hl : 1 ≤ l.length) (hl' : l.length < 64) :
    f_bearing_on [.d (.tup (rim.map .int)), .d (footD l m), .d (.int a)] s = .ok (.own (wD ((bearV rim l m a).map .int))) s := by
  have hT := touched_eq rim.length l m a s (by omega) (by omega)
  have hlen : (tchD rim.length l m a).length ≤ 16777216 := by simp [tchD]; omega
  have hb : (bearL rim l m a).length < 64 := by have := bearL_len rim l m a; omega
  rw [f_bearing_on, runF_eq]
  simp [b_bearing_on, liftOn_eq rim l m a s h hl (by omega), hT, hlen, wipeR]
  rw [bearLc_eq rim l m a s _ _ _ _ h]
  · simp [hb, bearV]
  · intro c d h0 h1
    exact ⟨_, by simp; rfl, by simp [item_tup rim c h h0 h1], by simp⟩
theorem bearing_eq (rim l : List Int) (m a : Int) (s : S) (h : 3 ≤ rim.length) (h' : rim.length ≤ 48) (hl : 1 ≤ l.length) (hl' : l.length < 64) :
    f_bearing [.d (.tup (rim.map .int)), .d (footD l m), .d (.int a)] s = .ok (.own (wD ((bearV rim l m a).map .int))) s := by
  rw [f_bearing, runF_eq]
  simp [b_bearing, lookRim_eq rim s h h', bearOn_eq rim l m a s (by omega) hl hl']
theorem lookRim_bad (rim : List Int) (s : S) (h : rim.length < 3 ∨ 48 < rim.length) : f_look_rim [.d (.tup (rim.map .int))] s = .exc "BadRim" none s := by
  by_cases h1 : (3 : Int) ≤ rim.length
  · have h2 : ¬ (rim.length : Int) ≤ 48 := by omega
    simp [f_look_rim, runF, b_look_rim, f_is_rim, b_is_rim, h1, h2]
  · simp [f_look_rim, runF, b_look_rim, f_is_rim, b_is_rim, h1]
theorem good_or_bad (rim : List Int) : (3 ≤ rim.length ∧ rim.length ≤ 48) ∨ (rim.length < 3 ∨ 48 < rim.length) := by omega
theorem like_int (i : Int) (s : S) : f_v_law_like 12 [.d (.int i), .d (.int i)] s = .ok (.w (.d (.bl true))) s := like_refl 12 _ s rfl rfl (by simp [D.dep]) (by decide)
theorem like_ints (l : List Int) (s : S) (h : l.length ≤ 1000) : f_v_law_like 12 [intsD l, intsD l] s = .ok (.w (.d (.bl true))) s :=
  like_refl 12 _ s (by simp) (by rw [D.slim, Bool.and_eq_true]; exact ⟨by simpa using h, slims_iff.mpr (by simp [D.slim])⟩) (by rw [dep_tup, deps_ints]; decide) (by decide)
theorem like_str (x : Str) (s : S) (h : (PyData.str x).canLay0 = true) : f_v_law_like 12 [.d (.str x), .d (.str x)] s = .ok (.w (.d (.bl true))) s := like_refl 12 _ s h rfl (by simp [D.dep]) (by decide)
/-- a list in a cell is like the same as data -/
theorem like_cell (n : Nat) (l : List D) (s : S) (hs : s[n]? = some (.lst (wD l))) (hp : D.plains l = true) (hsl : D.slims l = true) (hd : D.deps l < 11) (hl : l.length ≤ 1000) :
    f_v_law_like 12 [.r n, .d (.lst l)] s = .ok (.w (.d (.bl true))) s := by
  have hL : l.length ≤ 16777216 := by omega
  rw [show f_v_law_like 12 = runF 2 3 (b_v_law_like (f_v_law_like 11)) from rfl, runF_eq]
  simp [b_v_law_like, hs, rng1_nat _ _ hl, hL, wipeR, -rng1_eq]
  rw [lcM_fn' (v := fun _ : Nat => .bl true)]
  · have e : (List.range l.length).map (fun _ => D.bl true) = List.replicate l.length (D.bl true) := by simp [List.eq_replicate_iff]
    rw [e]
    simp [all_true]
  · intro i hi
    have hi := List.mem_range.mp hi
    refine ⟨_, rfl, ?_⟩
    have e : (wD l)[i]? = some (.d l[i]) := by simp [wD, hi]
    have hdi := deps_le.mp (Nat.le_refl (D.deps l)) l[i] (List.getElem_mem hi)
    simp [hs, e, like_refl 11 l[i] s (plains_iff.mp hp _ (List.getElem_mem hi)) (slims_iff.mp hsl _ (List.getElem_mem hi)) (by omega) (by decide)]
theorem plains_strs1 (x : Str) (h : (PyData.str x).canLay0 = true) : D.plains [.str x] = true := by simp [D.plains, D.plain, h]
end TG

set_option linter.all false
set_option maxRecDepth 100000
namespace TG
open PySem L2
/-! the same Foot is equal to itself -/
theorem isFootD_iff {d : D} (h : isFootD d = true) : ∃ (l : List D) (m : Int), d = .ins "Foot" [("drops", .tup l), ("middle", .int m)] ∧ ∀ x ∈ l, ∃ i, x = .int i := by
  unfold isFootD at h
  split at h
  · rename_i c f l g m
    simp only [Bool.and_eq_true, decide_eq_true_eq, List.all_eq_true] at h
    obtain ⟨⟨⟨rfl, rfl⟩, rfl⟩, h⟩ := h
    refine ⟨l, m, rfl, fun x hx => ?_⟩
    have := h x hx
    split at this
    · exact ⟨_, rfl⟩
    · cases this
  · cases h
theorem ints_at {l : List D} (h : ∀ x ∈ l, ∃ i, x = .int i) : ∃ k : List Int, l = k.map .int := by
  induction l with
  | nil => exact ⟨[], rfl⟩
  | cons a r ih =>
    obtain ⟨k, rfl⟩ := ih fun x hx => h x (List.mem_cons_of_mem _ hx)
    obtain ⟨i, rfl⟩ := h a (List.mem_cons_self ..)
    exact ⟨i :: k, rfl⟩
theorem foot_eq_self (d : D) (h : isFootD d = true) : f_Foot_eq [.d d, .d d] [] = .ok (.w (.d (.bl true))) [] := by
  obtain ⟨l, m, rfl, hl⟩ := isFootD_iff h
  obtain ⟨k, rfl⟩ := ints_at hl
  have h1 : ∀ s, fEq false (.d (.tup (k.map .int))) (.d (.tup (k.map .int))) s = .ok (.d (.bl (!false))) s := fun s => fEq_refl false _ s (by simp) (by rw [dep_tup, deps_ints]; decide)
  have h2 : ∀ s, fIsO "Foot" (.d (footD k m)) s = .ok (.d (.bl true)) s := fun s => by simp [fIsO, footD]
  show f_Foot_eq [.d (footD k m), .d (footD k m)] [] = _
  rw [f_Foot_eq, runF_eq]
  simp [b_Foot_eq, h1, h2]
theorem eqk_foot (l : List Int) (m : Int) : (footD l m).eqk = true := by
  simp [footD, D.eqk, isFootD]
theorem lay_foot (l : List Int) (m : Int) : (footD l m).lay = 0 := by
  simp [footD, D.lay]
theorem eqks_iff {l : List D} : D.eqks l = true ↔ ∀ x ∈ l, x.eqk = true := by
  induction l with
  | nil => simp [D.eqks]
  | cons a r ih => simp [D.eqks, ih]
theorem lays_le {l : List D} {n : Nat} : D.lays l ≤ n ↔ ∀ x ∈ l, x.lay ≤ n := by
  induction l with
  | nil => simp [D.lays]
  | cons a r ih => simp [D.lays, ih, Nat.max_le]
theorem fNeF_self {l : List D} (s : S) (h : ∀ x ∈ l, x.eqk = true) (k : ∀ x ∈ l, x.lay ≤ 4) : fNeF (.d (.lst l)) (.d (.lst l)) s = .ok (.d (.bl false)) s := by
  have q : True ∧ D.eqks l = true ∧ D.lays l ≤ 4 := ⟨trivial, eqks_iff.mpr h, lays_le.mpr k⟩
  simp [fNeF, q]
end TG

set_option linter.all false
set_option maxRecDepth 100000
namespace TG
open PySem L2
@[simp] theorem kZipS_eq (l r : List D) (s : S) : kZipS [.d (.tup l), .d (.tup r)] s = if l.length = r.length then .ok (zipD l r) s else .no := (rfl)
@[simp] theorem eZipS_eq (a : Cmp (List W)) (ρ : Rho) (s : S) : eZipS a ρ s = (a ρ s).bind kZipS := (rfl)
def isRimB (l : List Int) : Bool := decide (3 ≤ l.length) && decide (l.length ≤ 48)
theorem isRim_eq (l : List Int) (s : S) : f_is_rim [.d (.tup (l.map .int))] s = .ok (.w (.d (.bl (isRimB l)))) s := by
  unfold isRimB
  by_cases h : 3 ≤ l.length
  · have h1 : (3 : Int) ≤ l.length := by omega
    by_cases h' : l.length ≤ 48
    · have h2 : (l.length : Int) ≤ 48 := by omega
      simp [f_is_rim, runF, b_is_rim, h, h1, h2, h']
    · have h2 : ¬ (l.length : Int) ≤ 48 := by omega
      simp [f_is_rim, runF, b_is_rim, h, h1, h2, h']
  · have h1 : ¬ (3 : Int) ≤ l.length := by omega
    simp [f_is_rim, runF, b_is_rim, h, h1]
def wthB (l r : List Int) : Bool := (l.zip r).all fun p => decide (p.1 ≤ p.2)
theorem zipD_ints (l r : List Int) : zipD (l.map .int) (r.map .int) = (l.zip r).map fun p => W.d (.tup [.int p.1, .int p.2]) := by
  unfold zipD
  rw [List.zip_map, List.map_map]
  rfl
theorem lies_eq (l r : List Int) (s : S) (h : l.length = r.length) (hl : l.length ≤ 1000) : f_lies_within [.d (.tup (l.map .int)), .d (.tup (r.map .int))] s = .ok (.w (.d (.bl (wthB l r)))) s := by
  rw [f_lies_within, runF_eq]
  have hL : (zipD (l.map .int) (r.map .int)).length ≤ 16777216 := by simp [zipD]; omega
  simp [b_lies_within, h, hL, wipeR]
  rw [zipD_ints, lcM_fn' (v := fun p : Int × Int => .bl (decide (p.1 ≤ p.2)))]
  · have ha := fAll_bls ((l.zip r).map fun p : Int × Int => decide (p.1 ≤ p.2)) s
    rw [List.map_map, List.all_map] at ha
    have e : (l.zip r).map (D.bl ∘ fun p : Int × Int => decide (p.1 ≤ p.2)) = (l.zip r).map fun p : Int × Int => D.bl (decide (p.1 ≤ p.2)) := rfl
    rw [e] at ha
    simp [ha]
    rfl
  · intro p hp
    exact ⟨_, by simp; rfl, by simp⟩
theorem within_eq (l r : List Int) (s : S) (h3 : 3 ≤ l.length) (h4 : l.length ≤ 48) (k3 : 3 ≤ r.length) (k4 : r.length ≤ 48) :
    f_within [.d (.tup (l.map .int)), .d (.tup (r.map .int))] s = if l.length = r.length then .ok (.w (.d (.bl (wthB l r)))) s else .exc "BadSize" none s := by
  rw [f_within, runF_eq]
  by_cases h : l.length = r.length
  · simp [b_within, lookRim_eq l s h3 h4, lookRim_eq r s k3 k4, h, lies_eq l r s h (by omega)]
  · have hb : ¬ ((l.length : Nat) : Int) = ((r.length : Nat) : Int) := by omega
    simp [b_within, lookRim_eq l s h3 h4, lookRim_eq r s k3 k4, h, hb]
theorem within_bad1 (l : List Int) (y : W) (s : S) (h : l.length < 3 ∨ 48 < l.length) : f_within [.d (.tup (l.map .int)), y] s = .exc "BadRim" none s := by
  rw [f_within, runF_eq]
  simp [b_within, lookRim_bad l s h]
theorem within_bad2 (l r : List Int) (s : S) (h3 : 3 ≤ l.length) (h4 : l.length ≤ 48) (h : r.length < 3 ∨ 48 < r.length) : f_within [.d (.tup (l.map .int)), .d (.tup (r.map .int))] s = .exc "BadRim" none s := by
  rw [f_within, runF_eq]
  simp [b_within, lookRim_eq l s h3 h4, lookRim_bad r s h]
def due01 (l r : List Int) : D := if isRimB l && isRimB r then (if l.length = r.length then .bl (wthB l r) else .str "BadSize") else .str "BadRim"
theorem isRimB_t {l : List Int} (h : isRimB l = true) : 3 ≤ l.length ∧ l.length ≤ 48 := by
  unfold isRimB at h
  simpa using h
theorem isRimB_f {l : List Int} (h : isRimB l = false) : l.length < 3 ∨ 48 < l.length := by
  unfold isRimB at h
  simp at h
  omega
theorem told01 (l r : List Int) (s : S) : f_v_law_told_4 [.d (.tup (l.map .int)), .d (.tup (r.map .int))] s = .ok (.w (.d (due01 l r))) s := by
  have hx : ∀ ρ s, tryK (subT [("BadRim", "BadRim", true), ("BadSize", "BadRim", false), ("BadRim", "BadSize", false), ("BadSize", "BadSize", true)]) [("BadRim", sRet (eC (.str "BadRim"))), ("BadSize", sRet (eC (.str "BadSize")))] (.exc "BadRim" none ρ s) = .ret (.w (.d (.str "BadRim"))) s := by
    intro ρ s
    rw [tryK_exc _ _ _ _ _ _ (sRet (eC (.str "BadRim")))]
    · rfl
    · rfl
  have hy : ∀ ρ s, tryK (subT [("BadRim", "BadRim", true), ("BadSize", "BadRim", false), ("BadRim", "BadSize", false), ("BadSize", "BadSize", true)]) [("BadRim", sRet (eC (.str "BadRim"))), ("BadSize", sRet (eC (.str "BadSize")))] (.exc "BadSize" none ρ s) = .ret (.w (.d (.str "BadSize"))) s := by
    intro ρ s
    rw [tryK_exc _ _ _ _ _ _ (sRet (eC (.str "BadSize")))]
    · rfl
    · rfl
  rw [f_v_law_told_4, runF_eq]
  cases h1 : isRimB l with
  | false => simp [b_v_law_told_4, within_bad1 l _ s (isRimB_f h1), hx, due01, h1]
  | true =>
    obtain ⟨h3, h4⟩ := isRimB_t h1
    cases h2 : isRimB r with
    | false => simp [b_v_law_told_4, within_bad2 l r s h3 h4 (isRimB_f h2), hx, due01, h1, h2]
    | true =>
      obtain ⟨k3, k4⟩ := isRimB_t h2
      have e := within_eq l r s h3 h4 k3 k4
      by_cases h : l.length = r.length
      · rw [if_pos h] at e
        simp [b_v_law_told_4, e, hx, due01, h1, h2, h]
      · rw [if_neg h] at e
        simp [b_v_law_told_4, e, hy, due01, h1, h2, h]
theorem like_due01 (l r : List Int) (s : S) : f_v_law_like 12 [.d (due01 l r), .d (due01 l r)] s = .ok (.w (.d (.bl true))) s := by
  refine like_refl 12 _ s ?_ ?_ ?_ (by decide)
  · unfold due01; split
    · split
      · rfl
      · show (PyData.str "BadSize").canLay0 = true; decide +kernel
    · show (PyData.str "BadRim").canLay0 = true; decide +kernel
  · unfold due01; split
    · split <;> rfl
    · rfl
  · unfold due01; split
    · split <;> simp [D.dep]
    · simp [D.dep]
theorem like_bl (b : Bool) (s : S) : f_v_law_like 12 [.d (.bl b), .d (.bl b)] s = .ok (.w (.d (.bl true))) s := like_refl 12 _ s rfl rfl (by simp [D.dep]) (by decide)
/-- no place is above -/
theorem none_above (l r : List Int) (h : l.length = r.length) : ((((List.range l.length).filter fun i : Nat => decide (r.getD i 0 < l.getD i 0)).length : Int) == 0) = wthB l r := by
  rw [Bool.eq_iff_iff]
  unfold wthB
  simp only [beq_iff_eq, List.all_eq_true, decide_eq_true_eq]
  constructor
  · intro h0 p hp
    have h0' : ((List.range l.length).filter fun i : Nat => decide (r.getD i 0 < l.getD i 0)) = [] := List.eq_nil_of_length_eq_zero (by omega)
    obtain ⟨i, hi⟩ := List.mem_iff_getElem?.mp hp
    obtain ⟨h1, h2⟩ := List.getElem?_zip_eq_some.mp hi
    have hil : i < l.length := (List.getElem?_eq_some_iff.mp h1).1
    have := List.filter_eq_nil_iff.mp h0' i (List.mem_range.mpr hil)
    simp [List.getD_eq_getElem?_getD, h1, h2] at this
    exact this
  · intro h0
    have : ((List.range l.length).filter fun i : Nat => decide (r.getD i 0 < l.getD i 0)) = [] := by
      rw [List.filter_eq_nil_iff]
      intro i hi
      have hi := List.mem_range.mp hi
      have := h0 (l[i], r[i]) (List.mem_iff_getElem?.mpr ⟨i, List.getElem?_zip_eq_some.mpr ⟨by simp, by simp⟩⟩)
      simp [List.getD_eq_getElem?_getD, hi, show i < r.length by omega]
      exact this
    rw [this]
    rfl
def I01 (ns : List Int) (ρ : Rho) (s : S) : Prop := (∃ x2 x3 x4 x5 x6 x7 x8 x9 : EV, ρ = [.w (.d (.scr (ns.map .int))), .w (.r 0), x2, x3, x4, x5, x6, x7, x8, x9]) ∧ BS [] s
theorem len_all2 {α β : Type} {l : List α} {r : List β} {z : List (α × β)} (h : z.length = l.length) : z.length = l.length := h
/-- what is made of a list's numbers with draws -/
theorem draws_wp (l : List Int) (tg : Tgt) (e : Cmp W) (ρ : Rho) (b : Bag) (t : S) (h : ∀ (x : Int) (b : Bag), ∃ ρ1, tg (.d (.int x)) ρ = some ρ1 ∧ wE nE (fun w s' => ∃ y : Int, w = .d (.int y) ∧ BS t s') (e ρ1 (b.cell :: t))) :
    wE nE (fun ws s' => ∃ r : List Int, ws = wD (r.map .int) ∧ r.length = l.length ∧ BS t s') (lcM tg eYes e ρ (wD (l.map .int)) (b.cell :: t)) := by
  have e1 : wD (l.map D.int) = l.map fun x => W.d (.int x) := by simp [wD]
  rw [e1]
  refine wE_imp (lcM_gen (g := fun x => W.d (.int x)) D.int (fun _ _ => True) (BS t) (l := l) (fun x _ s hs => ?_) bs) ?_
  · obtain ⟨b, rfl⟩ := hs
    obtain ⟨ρ1, e1, e2⟩ := h x b
    exact ⟨ρ1, e1, rfl, wE_imp e2 fun w s' ⟨y, hy, hs⟩ => ⟨y, hy, trivial, hs⟩⟩
  · rintro ws s' ⟨r, hr, hl, _, hs⟩
    exact ⟨r, hr, hl, hs⟩
theorem five (x : Int) (h0 : 0 ≤ x) (h1 : x < 5) : ∃ y : Int, atI (wD [.int 0, .int 0, .int 0, .int (-1), .int 1]) x = some (.d (.int y)) := by
  rcases fifth x h0 h1 with rfl | rfl | rfl | rfl | rfl
  · exact ⟨0, rfl⟩
  · exact ⟨0, rfl⟩
  · exact ⟨0, rfl⟩
  · exact ⟨-1, rfl⟩
  · exact ⟨1, rfl⟩
theorem at_two0 (x y : W) : atI [x, y] 0 = some x := rfl
theorem at_two1 (x y : W) : atI [x, y] 1 = some y := rfl
theorem pure_k01 (ns : List Int) (hl : ns.length ≤ 63) : ∃ s', f_law_k01 [.d (.scr (ns.map D.int))] [] = .ok (.w (.d (.bl true))) s' := by
  refine of_wE ?_
  rw [f_law_k01]
  refine wE_fn (by rfl) ?_
  simp [b_law_k01]
  refine wS_use (bag_wp ns hl _) ?_
  rintro _ _ ⟨b, z, rfl, hz, rfl⟩
  simp [wipeR, -rng1_eq]
  rw [hz]
  clear hz
  refine wS_mid (I01 ns) ?_ ?_
  · refine forE_inv (I01 ns) ?_ ⟨⟨_, _, _, _, _, _, _, _, rfl⟩, bs⟩ fun _ _ h => h
    rintro w hw ρ s ⟨⟨x2, x3, x4, x5, x6, x7, x8, x9, rfl⟩, b, rfl⟩
    refine ⟨_, rfl, ?_⟩
    simp
    refine wS_use (rim_wp _ _ _ (by decide) (by decide)) ?_
    rintro _ _ ⟨one, b, rfl, rfl, r3, r48, rm⟩
    simp [wipeR, -rng1_eq]
    have hL1 : one.length ≤ 16777216 := by omega
    simp [hL1, wipeR, -rng1_eq]
    refine wS_use (draws_wp one _ _ _ _ _ fun x b => ⟨_, rfl, ?_⟩) ?_
    · simp
      refine wE_use (pull_wp _ _ _ (by decide) (by decide)) ?_
      rintro _ _ ⟨x, b, rfl, rfl, h0, h1⟩
      simp [wipeR, -rng1_eq]
      obtain ⟨y, hy⟩ := five x h0 h1
      simp at hy
      simp [hy]
      exact bs
    rintro _ _ ⟨two, rfl, hl2, b, rfl⟩
    simp
    -- the second one anew
    refine wS_midE (Hold fun ρ s => (∃ two : List Int, 3 ≤ two.length ∧ two.length ≤ 48 ∧ ∃ x8, ρ = [.w (.d (.scr (ns.map .int))), .w (.r 0), .w w, .w (intsD one), .w (intsD two), x5, x6, x7, x8, x9]) ∧ BS [] s) ?_ ?_
    · refine wS_use (pull_wp _ _ _ (by decide) (by decide)) ?_
      rintro _ _ ⟨x, b, rfl, rfl, h0, h1⟩
      simp [wipeR, -rng1_eq]
      by_cases c : x = 0
      · simp [c, hL1, wipeR, -rng1_eq]
        refine wS_use (draws_wp one _ _ _ _ _ fun x b => ⟨_, rfl, ?_⟩) ?_
        · simp
          refine wE_use (pull_wp _ _ _ (by decide) (by decide)) ?_
          rintro _ _ ⟨x, b, rfl, rfl, h0, h1⟩
          simp [wipeR, -rng1_eq]
          exact bs
        rintro _ _ ⟨two, rfl, hl2, b, rfl⟩
        simp
        exact hold ⟨⟨two, by omega, by omega, _, rfl⟩, bs⟩
      · simp [c]
        exact hold ⟨⟨two, by omega, by omega, _, rfl⟩, bs⟩
    rintro ρ s ⟨⟨two, t3, t48, x8, rfl⟩, b, rfl⟩
    simp
    refine wS_midE (Hold fun ρ s => (∃ two : List Int, 3 ≤ two.length ∧ two.length ≤ 48 ∧ ρ = [.w (.d (.scr (ns.map .int))), .w (.r 0), .w w, .w (intsD one), .w (intsD two), x5, x6, x7, x8, x9]) ∧ BS [] s) ?_ ?_
    · refine wS_use (pull_wp _ _ _ (by decide) (by decide)) ?_
      rintro _ _ ⟨x, b, rfl, rfl, h0, h1⟩
      simp [wipeR, -rng1_eq]
      by_cases c : x = 0
      · simp [c]
        refine wS_use (rim_wp _ _ _ (by decide) (by decide)) ?_
        rintro _ _ ⟨two, b, rfl, rfl, t3, t48, tm⟩
        simp [wipeR, -rng1_eq]
        exact hold ⟨⟨two, by omega, by omega, rfl⟩, bs⟩
      · simp [c]
        exact hold ⟨⟨two, by omega, by omega, rfl⟩, bs⟩
    rintro ρ s ⟨⟨two, t3, t48, rfl⟩, b, rfl⟩
    simp
    refine wS_midE (Hold fun ρ s => (∃ one : List Int, one.length ≤ 2000 ∧ ρ = [.w (.d (.scr (ns.map .int))), .w (.r 0), .w w, .w (intsD one), .w (intsD two), x5, x6, x7, x8, x9]) ∧ BS [] s) ?_ ?_
    · refine wS_use (pull_wp _ _ _ (by decide) (by decide)) ?_
      rintro _ _ ⟨x, b, rfl, rfl, h0, h1⟩
      simp [wipeR, -rng1_eq]
      by_cases c : x = 0
      · simp [c]
        refine wS_use (badRim_wp _ _ _ r3 r48) ?_
        rintro _ _ ⟨one, b, rfl, rfl, q3, q48⟩
        simp [wipeR, -rng1_eq]
        exact hold ⟨⟨one, q48, rfl⟩, bs⟩
      · simp [c]
        exact hold ⟨⟨one, by omega, rfl⟩, bs⟩
    rintro ρ s ⟨⟨one, o2, rfl⟩, b, rfl⟩
    simp
    refine wS_midE (Hold fun ρ s => (∃ two : List Int, two.length ≤ 2000 ∧ ρ = [.w (.d (.scr (ns.map .int))), .w (.r 0), .w w, .w (intsD one), .w (intsD two), x5, x6, x7, x8, x9]) ∧ BS [] s) ?_ ?_
    · refine wS_use (pull_wp _ _ _ (by decide) (by decide)) ?_
      rintro _ _ ⟨x, b, rfl, rfl, h0, h1⟩
      simp [wipeR, -rng1_eq]
      by_cases c : x = 0
      · simp [c]
        refine wS_use (badRim_wp _ _ _ t3 t48) ?_
        rintro _ _ ⟨two, b, rfl, rfl, q3, q48⟩
        simp [wipeR, -rng1_eq]
        exact hold ⟨⟨two, q48, rfl⟩, bs⟩
      · simp [c]
        exact hold ⟨⟨two, by omega, rfl⟩, bs⟩
    rintro ρ s ⟨⟨two, o3, rfl⟩, b, rfl⟩
    have hgood : ∀ (ρ : Rho) (s : S) (j : Nat), (∀ w : W, (ρ.set j (.w w))[j]? = some (.w w)) → lcM (tgName j) eYes (eChain fLe fLe (eC (.int 3)) (eArgs (c1 fLen) (eCons (eVar j) eNil)) (eC (.int 48))) ρ [intsD one, intsD two] s = .ok [.d (.bl (isRimB one)), .d (.bl (isRimB two))] s := by
      intro ρ s j hj
      have h := lcM_fn' (g := fun l : List Int => intsD l) (tg := tgName j) (e := eChain fLe fLe (eC (.int 3)) (eArgs (c1 fLen) (eCons (eVar j) eNil)) (eC (.int 48))) (ρ := ρ) (s := s) (fun l : List Int => .bl (isRimB l)) (l := [one, two]) (by
        intro l _
        refine ⟨_, rfl, ?_⟩
        unfold isRimB
        by_cases h : 3 ≤ l.length
        · have h1 : (3 : Int) ≤ l.length := by omega
          by_cases h' : l.length ≤ 48
          · have h2 : (l.length : Int) ≤ 48 := by omega
            simp [hj, h, h1, h2, h']
          · have h2 : ¬ (l.length : Int) ≤ 48 := by omega
            simp [hj, h, h1, h2, h']
        · have h1 : ¬ (3 : Int) ≤ l.length := by omega
          simp [hj, h, h1])
      exact h
    have hall : ∀ s, fAll (.d (.lst [.bl (isRimB one), .bl (isRimB two)])) s = .ok (.d (.bl (isRimB one && isRimB two))) s := by
      intro s
      have := fAll_bls [isRimB one, isRimB two] s
      simpa using this
    simp
    rw [hgood _ _ _ (by intro w; simp [wipeR])]
    simp [hall, wipeR, -rng1_eq]
    refine wS_mid (Hold fun ρ s => (∃ x9 : EV, ρ = [.w (.d (.scr (ns.map .int))), .w (.r 0), .w w, .w (intsD one), .w (intsD two), .w (.d (.lst [.bl (isRimB one), .bl (isRimB two)])), .w (.d (due01 one two)), x7, x8, x9]) ∧ s = [b.cell]) ?_ ?_
    · cases h1 : isRimB one with
      | false =>
        have hd : due01 one two = .str "BadRim" := by simp [due01, h1]
        simp [h1]
        rw [hd]
        exact hold ⟨⟨_, rfl⟩, rfl⟩
      | true =>
        cases h2 : isRimB two with
        | false =>
          have hd : due01 one two = .str "BadRim" := by simp [due01, h1, h2]
          simp [h1, h2]
          rw [hd]
          exact hold ⟨⟨_, rfl⟩, rfl⟩
        | true =>
          obtain ⟨p3, p4⟩ := isRimB_t h1
          by_cases hlen : one.length = two.length
          · have hd : due01 one two = .bl (wthB one two) := by simp [due01, h1, h2, hlen]
            have hr := fun s => rng1_nat one.length s (by omega)
            rw [hlen] at hr
            have hL : two.length ≤ 16777216 := by omega
            simp [h1, h2, hlen, hr, hL, wipeR, -rng1_eq]
            rw [lcM_fn (p := fun i : Nat => decide (two.getD i 0 < one.getD i 0)) (v := fun i : Nat => .int i)]
            · have e := none_above one two hlen
              rw [hlen] at e
              simp only [frzL_w, bind_ok, kCons_eq, eNil_eq, kCons2_eq, c1_eq, fLen_eq, asSeq_lst, wD_len, List.length_map, kBin_eq, eC_eq, fEq_int, kSet_eq, wS_nx, ebS_ok, kThE_eq, kThen_eq, e, List.set_cons_zero, List.set_cons_succ, Bool.false_eq_true, if_false]
              rw [hd]
              exact hold ⟨⟨_, rfl⟩, rfl⟩
            · intro i hi
              have hi := List.mem_range.mp hi
              have hi1 : i < one.length := by omega
              have g1 : ∀ h, (wD (one.map D.int))[i]'h = .d (.int one[i]) := by intro h; simp [wD]
              have g2 : ∀ h, (wD (two.map D.int))[i]'h = .d (.int two[i]) := by intro h; simp [wD]
              refine ⟨_, rfl, ?_, fun _ => by simp⟩
              simp [g1, g2, hi, hi1]
          · have hd : due01 one two = .str "BadSize" := by simp [due01, h1, h2, hlen]
            have hlen' : ¬ ((one.length : Nat) : Int) = ((two.length : Nat) : Int) := by omega
            simp [h1, h2, hlen']
            rw [hd]
            exact hold ⟨⟨_, rfl⟩, rfl⟩
    rintro ρ s ⟨⟨x9, rfl⟩, rfl⟩
    simp [told01, like_due01, isRim_eq, like_bl, at_two0, at_two1]
    exact ⟨⟨_, _, _, _, _, _, _, _, rfl⟩, bs⟩
  · rintro ρ s ⟨⟨x2, x3, x4, x5, x6, x7, x8, x9, rfl⟩, b, rfl⟩
    have e := isRim_eq [] [b.cell]
    simp at e
    have e2 : isRimB [] = false := rfl
    simp [e, e2, like_bl]
end TG

set_option linter.all false
set_option maxRecDepth 100000
namespace TG
open PySem L2
/-! ### wishes -/
structure Wish where
  l : List Int
  m : Int
  a : Int
  row : List (Option (Int × Int))
def rowD : Option (Int × Int) → D
  | none => .non
  | some p => .tup [.int p.1, .int p.2]
def Wish.d (w : Wish) : D := .tup [footD w.l w.m, .int w.a, .tup (w.row.map rowD)]
structure GoodW (n : Nat) (w : Wish) : Prop where
  f : GoodF w.l w.m
  len : w.row.length = n
  ok : ∀ q, some q ∈ w.row → q.1 ≤ q.2
abbrev Ask := Nat × Int × Int
def askD (q : Ask) : D := .tup [.int q.1, .int q.2.1, .int q.2.2]
def askedL (row : List (Option (Int × Int))) : List Ask := ((List.range row.length).filter fun p => (row.getD p none).isSome).map fun p => (p, ((row.getD p none).getD (0, 0)).1, ((row.getD p none).getD (0, 0)).2)
theorem askedL_mem {row : List (Option (Int × Int))} {q : Ask} : q ∈ askedL row ↔ row[q.1]? = some (some q.2) := by
  unfold askedL
  simp only [List.mem_map, List.mem_filter, List.mem_range]
  constructor
  · rintro ⟨p, ⟨hp, hs⟩, rfl⟩
    simp only [List.getD_eq_getElem?_getD, List.getElem?_eq_getElem hp, Option.getD_some] at hs ⊢
    cases e : row[p] with
    | none => rw [e] at hs; cases hs
    | some x => simp
  · intro h
    have hp : q.1 < row.length := (List.getElem?_eq_some_iff.mp h).1
    refine ⟨q.1, ⟨hp, ?_⟩, ?_⟩
    · simp [List.getD_eq_getElem?_getD, h]
    · simp [List.getD_eq_getElem?_getD, h]
theorem askedL_len (row : List (Option (Int × Int))) : (askedL row).length ≤ row.length := by
  unfold askedL
  rw [List.length_map]
  exact Nat.le_trans (List.length_filter_le _ _) (by rw [List.length_range]; exact Nat.le_refl _)
theorem enum_row (row : List (Option (Int × Int))) : enumD (row.map rowD) = (List.range row.length).map fun p : Nat => W.d (.tup [.int p, rowD (row.getD p none)]) := by
  unfold enumD
  apply List.ext_getElem?
  intro i
  simp only [List.getElem?_mapIdx, List.getElem?_map]
  by_cases hi : i < row.length
  · simp [hi]
  · simp [hi]
theorem isSome_rowD (q : Option (Int × Int)) : (match W.d (rowD q) with | .d .non => !true | _ => true) = q.isSome := by
  cases q <;> rfl
theorem asked_eq (w : Wish) (s : S) (h : w.row.length ≤ 1000) : f_asked_of [.d w.d] s = .ok (.own (wD ((askedL w.row).map askD))) s := by
  have hL : (enumD (w.row.map rowD)).length ≤ 16777216 := by simp [enumD]; omega
  rw [f_asked_of, runF_eq]
  simp [b_asked_of, Wish.d, hL]
  rw [enum_row, lcM_fn (p := fun p : Nat => (w.row.getD p none).isSome) (v := fun p : Nat => askD (p, ((w.row.getD p none).getD (0, 0)).1, ((w.row.getD p none).getD (0, 0)).2))]
  · unfold askedL
    rw [List.map_map]
    rfl
  · intro p hp
    refine ⟨_, by simp; rfl, ?_, ?_⟩
    · cases e : w.row.getD p none with
      | none => simp only [List.getD_eq_getElem?_getD] at e; simp [rowD, wipeR, e]
      | some q => simp only [List.getD_eq_getElem?_getD] at e; simp [rowD, wipeR, e]
    · intro hs
      cases e : w.row.getD p none with
      | none => rw [e] at hs; cases hs
      | some q => simp only [List.getD_eq_getElem?_getD] at e; simp [rowD, wipeR, e, askD]
/-! limits -/
abbrev Lim := Int × Int × Nat
def limD (t : Lim) : D := .tup [.int t.1, .int t.2.1, .int t.2.2]
def limP (n : Int) (w : Wish) (q : Ask) : List Lim := (spotL n w.l w.m (w.a + q.1)).map fun c => (c.1, q.2.2 + c.2, q.1)
def limL (n : Int) (w : Wish) : List Lim := (askedL w.row).flatMap (limP n w)
theorem limL_rng {n : Int} (hn : 0 < n) {w : Wish} {t : Lim} (h : t ∈ limL n w) : 0 ≤ t.1 ∧ t.1 < n := by
  obtain ⟨q, hq, ht⟩ := List.mem_flatMap.mp h
  obtain ⟨c, hc, rfl⟩ := List.mem_map.mp ht
  exact spotL_rng hn hc
theorem len_flat {α β : Type} (f : α → List β) (k : Nat) : ∀ (l : List α), (∀ a ∈ l, (f a).length ≤ k) → (l.flatMap f).length ≤ l.length * k
  | [], _ => by simp
  | a :: r, h => by
    rw [List.flatMap_cons, List.length_append, List.length_cons, Nat.succ_mul]
    have := h a (.head _)
    have := len_flat f k r fun b hb => h b (.tail _ hb)
    omega
theorem limP_len (n : Int) (w : Wish) (q : Ask) : (limP n w q).length = w.l.length := by simp [limP, spotL_len]
theorem limL_len (n : Int) (w : Wish) : (limL n w).length ≤ w.row.length * w.l.length := by
  have := len_flat (limP n w) w.l.length (askedL w.row) (fun q _ => by rw [limP_len]; exact Nat.le_refl _)
  exact Nat.le_trans this (Nat.mul_le_mul_right _ (askedL_len w.row))
def I_lim (n : Nat) (w : Wish) (s : S) (pre : List Ask) (ρ : Rho) (s' : S) : Prop := (∃ x6 x7 x8 x9 x10 : EV, ρ = [.w (.d (.int n)), .w (.d w.d), .w (.d (footD w.l w.m)), .w (.d (.int w.a)), .w (.d (.tup (w.row.map rowD))), .own (wD ((pre.flatMap (limP n w)).map limD)), x6, x7, x8, x9, x10]) ∧ s' = s
def I_lim2 (n : Nat) (w : Wish) (s : S) (pre : List Ask) (q : Ask) (pr : List (Int × Int)) (ρ : Rho) (s' : S) : Prop := (∃ x9 x10 : EV, ρ = [.w (.d (.int n)), .w (.d w.d), .w (.d (footD w.l w.m)), .w (.d (.int w.a)), .w (.d (.tup (w.row.map rowD))), .own (wD ((pre.flatMap (limP n w)).map limD ++ (pr.map fun c : Int × Int => limD (c.1, q.2.2 + c.2, q.1)))), .w (.d (.int q.1)), .w (.d (.int q.2.1)), .w (.d (.int q.2.2)), x9, x10]) ∧ s' = s
theorem limits_eq (n : Nat) (w : Wish) (s : S) (hn : 0 < n) (h : w.row.length ≤ 1000) (hl : w.l.length ≤ 1000) : f_limits_of [.d (.int n), .d w.d] s = .ok (.own (wD ((limL n w).map limD))) s := by
  refine eq_wE ?_
  rw [f_limits_of]
  refine wE_fn (by rfl) ?_
  have ha := asked_eq w s h
  simp only [Wish.d] at ha
  simp [b_limits_of, Wish.d, ha]
  have e1 : wD ((askedL w.row).map askD) = (askedL w.row).map fun q => W.d (askD q) := by simp [wD]
  rw [e1]
  refine wS_mid (I_lim n w s (askedL w.row)) ?_ ?_
  · refine forE_at (I_lim n w s) ⟨⟨_, _, _, _, _, rfl⟩, rfl⟩ ?_ fun ρ s' h => h
    rintro pre q r hz ρ s' ⟨⟨x6, x7, x8, x9, x10, rfl⟩, rfl⟩
    have hpl : (pre.flatMap (limP n w)).length ≤ 1000 * 1000 := by
      have h1 := len_flat (limP n w) w.l.length pre (fun q _ => by rw [limP_len]; exact Nat.le_refl _)
      have h2 : pre.length ≤ 1000 := by
        have h3 := congrArg List.length hz
        rw [List.length_append, List.length_cons] at h3
        have := askedL_len w.row
        omega
      exact Nat.le_trans h1 (Nat.mul_le_mul h2 hl)
    refine ⟨_, by simp [askD]; rfl, ?_⟩
    have ht := touched_eq n w.l w.m (w.a + q.1) s' (by omega) hl
    simp [ht]
    rw [spot_D]
    refine forE_at (I_lim2 n w s' pre q) ⟨⟨x9, x10, by simp⟩, rfl⟩ ?_ ?_
    · rintro pr c rr hzz ρ s2 ⟨⟨x9, x10, rfl⟩, rfl⟩
      have hlt : pr.length ≤ 1000 := by
        have h3 := congrArg List.length hzz
        rw [List.length_append, List.length_cons, spotL_len] at h3
        omega
      have hc : (wD ((pre.flatMap (limP n w)).map limD ++ (pr.map fun c : Int × Int => limD (c.1, q.2.2 + c.2, q.1)))).length < 16777216 := by
        rw [wD_len, List.length_append, List.length_map, List.length_map]
        omega
      refine ⟨_, by simp [pairD]; rfl, ?_⟩
      simp at hc
      simp [hc]
      refine ⟨⟨.w (.d (.int c.1)), .w (.d (.int c.2)), ?_⟩, rfl⟩
      simp [wD, limD]
    · rintro ρ s2 ⟨⟨x9, x10, rfl⟩, rfl⟩
      have e4 : ((pre ++ [q]).flatMap (limP n w)).map limD = (pre.flatMap (limP n w)).map limD ++ ((spotL n w.l w.m (w.a + q.1)).map fun c : Int × Int => limD (c.1, q.2.2 + c.2, q.1)) := by
        rw [List.flatMap_append, List.map_append]
        simp [limP]
      exact ⟨⟨_, _, _, _, _, by rw [e4]⟩, rfl⟩
  · rintro ρ s' ⟨⟨x6, x7, x8, x9, x10, rfl⟩, rfl⟩
    simp
    rfl
/-! ### the fullest cam -/
def cutV (r : List Int) (c h : Int) : List Int := r.set c.toNat (min (r.getD c.toNat 0) h)
@[simp] theorem cutV_len (r : List Int) (c h : Int) : (cutV r c h).length = r.length := by simp [cutV]
theorem sIx_nat (n d c : Nat) (h : c ≤ n) : HT.sIx n d (some (c : Int)) = c := by
  have h0 : ¬ (c : Int) < 0 := by omega
  unfold HT.sIx
  simp only [h0, if_false]
  omega
theorem cut_take (l : List D) (c : Nat) (h : c ≤ l.length) : cut l none (some (c : Int)) = l.take c := by
  unfold cut
  rw [sIx_nat _ _ _ h]
  simp [HT.sIx]
theorem cut_drop (l : List D) (c : Nat) (h : c ≤ l.length) : cut l (some (c : Int)) none = l.drop c := by
  unfold cut
  rw [sIx_nat _ _ _ h]
  simp [HT.sIx]
  exact List.take_of_length_le (by rw [List.length_drop]; exact Nat.le_refl _)
theorem cut_eq (r : List Int) (c h : Int) (s : S) (h0 : 0 ≤ c) (h1 : c < r.length) (hl : r.length ≤ 1000) : f_cut_at [.d (.tup (r.map .int)), .d (.int c), .d (.int h)] s = .ok (.w (.d (.tup ((cutV r c h).map .int)))) s := by
  obtain ⟨k, rfl⟩ : ∃ k : Nat, c = k := ⟨c.toNat, by omega⟩
  have hk : k < r.length := by omega
  have e1 : cut (r.map D.int) none (some (k : Int)) = (r.map D.int).take k := cut_take _ _ (by simp; omega)
  have e2 : cut (r.map D.int) (some ((k : Int) + 1)) none = (r.map D.int).drop (k + 1) := by
    have := cut_drop (r.map D.int) (k + 1) (by simp; omega)
    simpa using this
  have e3 : ∀ h, (wD (r.map D.int))[k]'h = .d (.int r[k]) := by intro h; simp [wD]
  have e4 : (if h < r[k] then h else r[k]) = min r[k] h := by rw [Int.min_def]; split <;> split <;> omega
  have hL : min k r.length + 1 ≤ 16777216 := by omega
  have hL2 : min k r.length + 1 + (r.length - (k + 1)) ≤ 16777216 := by omega
  rw [f_cut_at, runF_eq]
  simp [b_cut_at, e1, e2, hk, e3, e4, hL, hL2]
  have e5 : r.getD ((k : Int)).toNat 0 = r[k] := by simp [List.getD_eq_getElem?_getD, hk]
  unfold cutV
  rw [e5, List.set_eq_take_append_cons_drop, if_pos (by simpa using hk), List.map_append, List.map_cons, List.map_take, List.map_drop]
  rfl
end TG

set_option linter.all false
set_option maxRecDepth 100000
namespace TG
open PySem L2
def cutAll (r : List Int) (ts : List Lim) : List Int := ts.foldl (fun r t => cutV r t.1 t.2.1) r
@[simp] theorem cutAll_len (ts : List Lim) (r : List Int) : (cutAll r ts).length = r.length := by
  unfold cutAll
  induction ts generalizing r with
  | nil => rfl
  | cons t ts ih => rw [List.foldl_cons, ih, cutV_len]
theorem cutAll_app (r : List Int) (a b : List Lim) : cutAll r (a ++ b) = cutAll (cutAll r a) b := by simp [cutAll, List.foldl_append]
theorem cutAll_one (r : List Int) (t : Lim) : cutAll r [t] = cutV r t.1 t.2.1 := rfl
def limsL (n : Int) (ws : List Wish) : List Lim := ws.flatMap (limL n)
def fullV (r : List Int) (ws : List Wish) : List Int := cutAll r (limsL r.length ws)
@[simp] theorem fullV_len (r : List Int) (ws : List Wish) : (fullV r ws).length = r.length := cutAll_len _ _
abbrev wishesD (ws : List Wish) : W := .d (.lst (ws.map Wish.d))
theorem seq_wishes (ws : List Wish) : wD (ws.map Wish.d) = ws.map fun w => W.d w.d := by simp [wD]
/-- wishes whose rows and feet are not too great -/
def SmallW (ws : List Wish) : Prop := ∀ w ∈ ws, w.row.length ≤ 1000 ∧ 1 ≤ w.l.length ∧ w.l.length ≤ 1000
def I_full (r : List Int) (ws : List Wish) (s : S) (pre : List Wish) (ρ : Rho) (s' : S) : Prop := (∃ x3 x4 x5 x6 : EV, ρ = [.w (intsD r), .w (wishesD ws), .w (intsD (cutAll r (limsL r.length pre))), x3, x4, x5, x6]) ∧ s' = s
def I_full2 (r : List Int) (ws : List Wish) (s : S) (pre : List Wish) (w : Wish) (pr : List Lim) (ρ : Rho) (s' : S) : Prop := (∃ x4 x5 x6 : EV, ρ = [.w (intsD r), .w (wishesD ws), .w (intsD (cutAll (cutAll r (limsL r.length pre)) pr)), .w (.d w.d), x4, x5, x6]) ∧ s' = s
theorem fullOf_eq (r : List Int) (ws : List Wish) (s : S) (h : 0 < r.length) (h' : r.length ≤ 1000) (hw : SmallW ws) : f_fullest_of [intsD r, wishesD ws] s = .ok (.w (intsD (fullV r ws))) s := by
  refine eq_wE ?_
  rw [f_fullest_of]
  refine wE_fn (by rfl) ?_
  simp [b_fullest_of]
  rw [seq_wishes]
  refine wS_mid (I_full r ws s ws) ?_ ?_
  · refine forE_at (I_full r ws s) ⟨⟨_, _, _, _, rfl⟩, rfl⟩ ?_ fun ρ s' h => h
    rintro pre w rr hz ρ s' ⟨⟨x3, x4, x5, x6, rfl⟩, rfl⟩
    obtain ⟨w1, w2, w3⟩ := hw w (by rw [hz]; simp)
    refine ⟨_, rfl, ?_⟩
    have hl := limits_eq r.length w s' h w1 w3
    simp [hl]
    have e1 : wD ((limL r.length w).map limD) = (limL r.length w).map fun t => W.d (limD t) := by simp [wD]
    rw [e1]
    refine forE_at (I_full2 r ws s' pre w) ⟨⟨_, _, _, rfl⟩, rfl⟩ ?_ ?_
    · rintro pr t qq hzz ρ s2 ⟨⟨x4, x5, x6, rfl⟩, rfl⟩
      have ht := limL_rng (show (0 : Int) < r.length by omega) (show t ∈ limL r.length w by rw [hzz]; simp)
      have hc := cut_eq (cutAll (cutAll r (limsL r.length pre)) pr) t.1 t.2.1 s2 ht.1 (by rw [cutAll_len, cutAll_len]; exact ht.2) (by rw [cutAll_len, cutAll_len]; exact h')
      refine ⟨_, by simp [limD]; rfl, ?_⟩
      simp [hc]
      refine ⟨⟨.w (.d (.int t.1)), .w (.d (.int t.2.1)), .w (.d (.int t.2.2)), ?_⟩, rfl⟩
      rw [cutAll_app, cutAll_one]
    · rintro ρ s2 ⟨⟨x4, x5, x6, rfl⟩, rfl⟩
      refine ⟨⟨.w (.d w.d), x4, x5, x6, ?_⟩, rfl⟩
      rw [show limsL r.length (pre ++ [w]) = limsL r.length pre ++ limL r.length w by simp [limsL], cutAll_app]
  · rintro ρ s' ⟨⟨x3, x4, x5, x6, rfl⟩, rfl⟩
    simp [fullV]
/-! what is lacking -/
def lackV (r : List Int) (w : Wish) : Option Ask := (askedL w.row).find? fun q => decide (liftV r w.l w.m (w.a + q.1) < q.2.1)
def lackD (o : Option Ask) : D := match o with | none => .non | some q => .tup [.int q.1, .int q.2.1]
def lackW (w : Wish) (ρ : Rho) : Prop := ∃ x5 x6 x7 : EV, ∃ x0 x1 : EV, ρ = [x0, x1, .w (.d (footD w.l w.m)), .w (.d (.int w.a)), .w (.d (.tup (w.row.map rowD))), x5, x6, x7]
/-- the first item that ends a loop -/
theorem forE_find {P : WP} {γ : Type} {g : γ → W} (p : γ → Bool) (I : Rho → S → Prop) {tg : Tgt} {x : Stm} : ∀ {l : List γ}, (∀ a ∈ l, ∀ ρ s, I ρ s → ∃ ρ1, tg (g a) ρ = some ρ1 ∧ (p a = false → wS (lpP P I (fun _ _ => False)) (x ρ1 s)) ∧ (p a = true → l.find? p = some a → wS P (x ρ1 s) ∧ ∃ v s', x ρ1 s = .ret v s')) →
    (l.find? p = none → ∀ ρ s, I ρ s → P.N ρ s) → ∀ {ρ : Rho} {s : S}, I ρ s → wS P (forE tg x (l.map g) ρ s)
  | [], _, hk, ρ, s, h0 => .nx (hk rfl _ _ h0)
  | a :: r, h, hk, ρ, s, h0 => by
    obtain ⟨ρ1, e1, q1, q2⟩ := h a (.head _) ρ s h0
    rw [List.map_cons, forE_cons, e1]
    cases hp : p a with
    | true =>
      obtain ⟨q, v, s', e⟩ := q2 hp (by rw [List.find?_cons_of_pos hp])
      simp only [e, forK_ret]
      rw [e] at q
      exact q
    | false =>
      have hf : (a :: r).find? p = r.find? p := by rw [List.find?_cons_of_neg (by simp [hp])]
      refine wS_forK (q1 hp) (fun ρ s hI => forE_find p I (l := r) (fun b hb ρ s hI => ?_) (fun hn => hk (by rw [hf]; exact hn)) hI) (fun _ _ z => z.elim)
      obtain ⟨ρ2, e2, q3, q4⟩ := h b (.tail _ hb) ρ s hI
      exact ⟨ρ2, e2, q3, fun hp hn => q4 hp (by rw [hf]; exact hn)⟩
def I_lack (r : List Int) (w : Wish) (s : S) (ρ : Rho) (s' : S) : Prop := (∃ x5 x6 x7 : EV, ρ = [.w (intsD r), .w (.d w.d), .w (.d (footD w.l w.m)), .w (.d (.int w.a)), .w (.d (.tup (w.row.map rowD))), x5, x6, x7]) ∧ s' = s
theorem lack_eq (r : List Int) (w : Wish) (s : S) (h : 0 < r.length) (w1 : w.row.length ≤ 1000) (w2 : 1 ≤ w.l.length) (w3 : w.l.length ≤ 1000) : f_lacking_at [intsD r, .d w.d] s = .ok (.w (.d (lackD (lackV r w)))) s := by
  refine eq_wE ?_
  rw [f_lacking_at]
  refine wE_fn (by rfl) ?_
  have ha := asked_eq w s w1
  simp only [Wish.d] at ha
  simp [b_lacking_at, Wish.d, ha]
  have e1 : wD ((askedL w.row).map askD) = (askedL w.row).map fun q => W.d (askD q) := by simp [wD]
  rw [e1]
  refine wS_mid (fun ρ s' => lackV r w = none ∧ I_lack r w s ρ s') ?_ ?_
  · refine forE_find (fun q : Ask => decide (liftV r w.l w.m (w.a + q.1) < q.2.1)) (I_lack r w s) ?_ ?_ ⟨⟨_, _, _, rfl⟩, rfl⟩
    rotate_left
    · exact fun hn ρ s' hI => ⟨hn, hI⟩
    rintro q hq ρ s' ⟨⟨x5, x6, x7, rfl⟩, rfl⟩
    have hlo := liftOn_eq r w.l w.m (w.a + q.1) s' h w2 w3
    refine ⟨_, by simp [askD]; rfl, ?_, ?_⟩
    · intro hp
      have hp : ¬ liftV r w.l w.m (w.a + q.1) < q.2.1 := by simpa using hp
      simp [hlo, hp]
      exact ⟨⟨_, _, _, rfl⟩, rfl⟩
    · intro hp hf
      have hp : liftV r w.l w.m (w.a + q.1) < q.2.1 := by simpa using hp
      have hf : lackV r w = some q := hf
      simp [hlo, hp, hf, lackD]
  · rintro ρ s' ⟨hn, ⟨x5, x6, x7, rfl⟩, rfl⟩
    simp [hn, lackD]
def canV (r : List Int) (ws : List Wish) : Bool := ws.all fun w => (lackV (fullV r ws) w).isNone
theorem can_eq (r : List Int) (ws : List Wish) (s : S) (h : 0 < r.length) (h' : r.length ≤ 1000) (hw : SmallW ws) (hl : ws.length ≤ 1000) : f_can_come [intsD r, wishesD ws] s = .ok (.w (.d (.bl (canV r ws)))) s := by
  have hL : ws.length ≤ 16777216 := by omega
  have hf := fullOf_eq r ws s h h' hw
  rw [f_can_come, runF_eq]
  simp [b_can_come, hf, hL]
  rw [seq_wishes, lcM_fn' (v := fun w : Wish => .bl ((lackV (fullV r ws) w).isNone))]
  · have ha := fAll_bls (ws.map fun w => (lackV (fullV r ws) w).isNone) s
    rw [List.map_map, List.all_map] at ha
    have e : ws.map (D.bl ∘ fun w => (lackV (fullV r ws) w).isNone) = ws.map fun w => D.bl ((lackV (fullV r ws) w).isNone) := rfl
    rw [e] at ha
    simp [ha]
    rfl
  · intro w hwm
    obtain ⟨w1, w2, w3⟩ := hw w hwm
    have hk := lack_eq (fullV r ws) w s (by rw [fullV_len]; exact h) w1 w2 w3
    refine ⟨_, rfl, ?_⟩
    simp [wipeR, hk]
    cases lackV (fullV r ws) w <;> rfl
end TG

set_option linter.all false
set_option maxRecDepth 100000
namespace TG
open PySem L2
/-- wishes for a rim of n cells -/
structure GoodWs (n : Nat) (ws : List Wish) : Prop where
  all : ∀ w ∈ ws, GoodW n w
  len : ws.length ≤ 1000
theorem GoodWs.small {n : Nat} {ws : List Wish} (h : GoodWs n ws) (hn : n ≤ 1000) : SmallW ws := fun w hw => by
  have g := h.all w hw
  have := g.len
  have := g.f.l1
  have := g.f.l9
  omega
def badP : Option (Int × Int) → Bool
  | none => false
  | some q => decide (q.2 < q.1)
theorem bad_row {n : Nat} {w : Wish} (g : GoodW n w) : (w.row.map badP).any id = false := by
  rw [List.any_map, List.any_eq_false]
  intro o ho
  cases o with
  | none => simp [badP]
  | some q =>
    have := g.ok q ho
    simp [badP]
    omega
def I_look (r : List Int) (ws : List Wish) (s : S) (ρ : Rho) (s' : S) : Prop := (∃ x2 x3 x4 x5 x6 : EV, ρ = [.w (intsD r), .w (wishesD ws), x2, x3, x4, x5, x6]) ∧ s' = s
theorem enumD_mem {l : List D} {w : W} (h : w ∈ enumD l) : ∃ (i : Nat) (x : D), w = .d (.tup [.int i, x]) ∧ x ∈ l := by
  obtain ⟨i, hi⟩ := List.mem_iff_getElem?.mp h
  unfold enumD at hi
  simp [List.getElem?_mapIdx] at hi
  obtain ⟨d, h1, h2⟩ := hi
  exact ⟨i, d, h2.symm, List.mem_iff_getElem?.mpr ⟨i, h1⟩⟩
theorem lookW_eq (r : List Int) (ws : List Wish) (s : S) (h : 3 ≤ r.length) (h' : r.length ≤ 48) (hw : GoodWs r.length ws) : f_look_wishes [intsD r, wishesD ws] s = .ok (.w (.d .non)) s := by
  refine eq_wE ?_
  rw [f_look_wishes]
  refine wE_fn (by rfl) ?_
  simp [b_look_wishes, lookRim_eq r s h h']
  rw [seq_wishes]
  refine wS_mid (I_look r ws s) ?_ ?_
  · refine forE_inv (I_look r ws s) ?_ ⟨⟨_, _, _, _, _, rfl⟩, rfl⟩ fun ρ s' h => h
    rintro w hwm ρ s' ⟨⟨x2, x3, x4, x5, x6, rfl⟩, rfl⟩
    obtain ⟨w, hm2, rfl⟩ := List.mem_map.mp hwm
    have g := hw.all w hm2
    have hlen : (w.row.length : Int) = r.length := by rw [g.len]
    refine ⟨_, by simp [Wish.d]; rfl, ?_⟩
    simp [hlen]
    exact ⟨⟨_, _, _, _, _, rfl⟩, rfl⟩
  · rintro ρ s' ⟨⟨x2, x3, x4, x5, x6, rfl⟩, rfl⟩
    simp
    refine forE_inv (I_look r ws s') ?_ ⟨⟨_, _, _, _, _, rfl⟩, rfl⟩ ?_
    · rintro w hwm ρ s2 ⟨⟨x2, x3, x4, x5, x6, rfl⟩, rfl⟩
      obtain ⟨i, d, rfl, hd⟩ := enumD_mem hwm
      obtain ⟨w, hm2, rfl⟩ := List.mem_map.mp hd
      have g := hw.all w hm2
      have hL : w.row.length ≤ 16777216 := by rw [g.len]; omega
      refine ⟨_, by simp [Wish.d]; rfl, ?_⟩
      have e1 : wD (w.row.map rowD) = w.row.map fun o => W.d (rowD o) := by simp [wD]
      simp [hL, e1, wipeR, -rng1_eq]
      rw [lcM_fn' (v := fun o => .bl (badP o))]
      · have ha := fAny_bls (w.row.map badP) s2
        rw [bad_row g, List.map_map] at ha
        have e : w.row.map (D.bl ∘ badP) = w.row.map fun o => D.bl (badP o) := rfl
        rw [e] at ha
        simp [ha]
        exact ⟨⟨_, _, _, _, _, rfl⟩, rfl⟩
      · intro o ho
        refine ⟨_, rfl, ?_⟩
        cases o with
        | none => simp [rowD, badP]
        | some q => simp [rowD, badP]
    · rintro ρ s2 ⟨⟨x2, x3, x4, x5, x6, rfl⟩, rfl⟩
      simp
theorem full_eq (r : List Int) (ws : List Wish) (s : S) (h : 3 ≤ r.length) (h' : r.length ≤ 48) (hw : GoodWs r.length ws) : f_fullest [intsD r, wishesD ws] s = .ok (.w (intsD (fullV r ws))) s := by
  have e1 := lookW_eq r ws s h h' hw
  have e2 := fullOf_eq r ws s (by omega) (by omega) (hw.small (by omega))
  rw [f_fullest, runF_eq]
  simp [b_fullest, e1, e2]
theorem comes_eq (r : List Int) (ws : List Wish) (s : S) (h : 3 ≤ r.length) (h' : r.length ≤ 48) (hw : GoodWs r.length ws) : f_comes [intsD r, wishesD ws] s = .ok (.w (.d (.bl (canV r ws)))) s := by
  have e1 := lookW_eq r ws s h h' hw
  have e2 := can_eq r ws s (by omega) (by omega) (hw.small (by omega)) hw.len
  rw [f_comes, runF_eq]
  simp [b_comes, e1, e2]
/-! equal numbers -/
theorem eqv_ints : ∀ (l r : List Int), PyData.eqvAll (D.pys (l.map .int)) (D.pys (r.map .int)) = (l == r)
  | [], [] => rfl
  | [], b :: r => rfl
  | a :: l, [] => rfl
  | a :: l, b :: r => by
    have := eqv_ints l r
    simp [D.pys, PyData.eqvAll, D.py, PyData.eqv, this]
theorem fEq_ints (neg : Bool) (l r : List Int) (s : S) : fEq neg (intsD l) (intsD r) s = .ok (.d (.bl (if neg then !(l == r) else l == r))) s := by
  have h1 := shaped_of (d := .tup (l.map .int)) (by simp) (by rw [dep_tup, deps_ints]; decide)
  have h2 := shaped_of (d := .tup (r.map .int)) (by simp) (by rw [dep_tup, deps_ints]; decide)
  have h3 : PyData.eqv (D.py (.tup (l.map .int))) (D.py (.tup (r.map .int))) = (l == r) := by
    simp only [D.py, PyData.eqv]
    exact eqv_ints l r
  cases neg <;> simp [fEq, asData, eqD, h1, h2, h3]
def givesV (r : List Int) (ws : List Wish) : Bool := (fullV r ws == r) && canV r ws
theorem gives_eq (r : List Int) (ws : List Wish) (s : S) (h : 3 ≤ r.length) (h' : r.length ≤ 48) (hw : GoodWs r.length ws) : f_gives [intsD r, wishesD ws] s = .ok (.w (.d (.bl (givesV r ws)))) s := by
  have e1 := lookW_eq r ws s h h' hw
  have e2 := can_eq r ws s (by omega) (by omega) (hw.small (by omega)) hw.len
  have e3 := fullOf_eq r ws s (by omega) (by omega) (hw.small (by omega))
  have e4 := fEq_ints false (fullV r ws) r s
  rw [f_gives, runF_eq]
  simp [b_gives, e1, e3]
  simp only [intsD] at e4
  rw [e4]
  unfold givesV
  cases hb : (fullV r ws == r) with
  | false => simp
  | true => simp [e2]
end TG

set_option linter.all false
set_option maxRecDepth 100000
namespace TG
open PySem L2
/-! ### cams within cams, in plain Lean -/
def gt (r : List Int) (i : Nat) : Int := r.getD i 0
def LeR (a b : List Int) : Prop := a.length = b.length ∧ ∀ i, i < a.length → gt a i ≤ gt b i
theorem LeR.refl (a : List Int) : LeR a a := ⟨rfl, fun _ _ => Int.le_refl _⟩
theorem LeR.trans {a b c : List Int} (h : LeR a b) (k : LeR b c) : LeR a c := ⟨h.1.trans k.1, fun i hi => Int.le_trans (h.2 i hi) (k.2 i (h.1 ▸ hi))⟩
theorem LeR.antisymm {a b : List Int} (h : LeR a b) (k : LeR b a) : a = b := by
  apply List.ext_getElem h.1
  intro i h1 h2
  have p := h.2 i h1
  have q := k.2 i h2
  simp only [gt, List.getD_eq_getElem?_getD, List.getElem?_eq_getElem h1, List.getElem?_eq_getElem h2, Option.getD_some] at p q
  omega
theorem wthB_iff {l r : List Int} (h : l.length = r.length) : wthB l r = true ↔ LeR l r := by
  unfold wthB LeR
  simp only [List.all_eq_true, decide_eq_true_eq]
  constructor
  · intro hz
    refine ⟨h, fun i hi => ?_⟩
    have hi2 : i < r.length := by omega
    have := hz (l[i], r[i]) (List.mem_iff_getElem?.mpr ⟨i, List.getElem?_zip_eq_some.mpr ⟨by simp, by simp⟩⟩)
    simpa [gt, List.getD_eq_getElem?_getD, hi, hi2] using this
  · rintro ⟨_, hz⟩ p hp
    obtain ⟨i, hi⟩ := List.mem_iff_getElem?.mp hp
    obtain ⟨h1, h2⟩ := List.getElem?_zip_eq_some.mp hi
    have hil : i < l.length := (List.getElem?_eq_some_iff.mp h1).1
    have := hz i hil
    simpa [gt, List.getD_eq_getElem?_getD, h1, h2] using this
theorem cutV_ge (r : List Int) (c h x : Int) (i : Nat) (hi : i < r.length) : x ≤ gt (cutV r c h) i ↔ x ≤ gt r i ∧ (c.toNat = i → x ≤ h) := by
  unfold gt cutV
  simp only [List.getD_eq_getElem?_getD]
  by_cases e : c.toNat = i
  · subst e
    simp [List.getElem?_set, hi]
    omega
  · simp [List.getElem?_set, e]
theorem cutAll_ge (x : Int) (i : Nat) : ∀ (ts : List Lim) (r : List Int), i < r.length → (x ≤ gt (cutAll r ts) i ↔ x ≤ gt r i ∧ ∀ t ∈ ts, t.1.toNat = i → x ≤ t.2.1)
  | [], r, hi => by simp [cutAll]
  | t :: ts, r, hi => by
    have e : cutAll r (t :: ts) = cutAll (cutV r t.1 t.2.1) ts := rfl
    rw [e, cutAll_ge x i ts _ (by rw [cutV_len]; exact hi), cutV_ge r _ _ x i hi]
    constructor
    · rintro ⟨⟨h1, h2⟩, h3⟩
      refine ⟨h1, fun u hu => ?_⟩
      cases hu with
      | head => exact h2
      | tail _ hu => exact h3 u hu
    · rintro ⟨h1, h2⟩
      exact ⟨⟨h1, h2 t (.head _)⟩, fun u hu => h2 u (.tail _ hu)⟩
/-- a cam keeps below the limits -/
def Sat (r : List Int) (ts : List Lim) : Prop := ∀ t ∈ ts, gt r t.1.toNat ≤ t.2.1
theorem cutAll_le (r : List Int) (ts : List Lim) : LeR (cutAll r ts) r := by
  refine ⟨cutAll_len ts r, fun i hi => ?_⟩
  rw [cutAll_len] at hi
  exact ((cutAll_ge _ i ts r hi).mp (Int.le_refl _)).1
theorem cutAll_sat (r : List Int) (ts : List Lim) (h : ∀ t ∈ ts, t.1.toNat < r.length) : Sat (cutAll r ts) ts := fun t ht =>
  ((cutAll_ge _ t.1.toNat ts r (h t ht)).mp (Int.le_refl _)).2 t ht rfl
theorem le_cutAll {q r : List Int} {ts : List Lim} (h : LeR q r) (hs : Sat q ts) : LeR q (cutAll r ts) := by
  refine ⟨by rw [cutAll_len]; exact h.1, fun i hi => ?_⟩
  rw [cutAll_ge _ i ts r (h.1 ▸ hi)]
  exact ⟨h.2 i hi, fun t ht e => by subst e; exact hs t ht⟩
theorem le_cutAll_iff {q r : List Int} {ts : List Lim} (ht : ∀ t ∈ ts, t.1.toNat < r.length) : LeR q (cutAll r ts) ↔ LeR q r ∧ Sat q ts := by
  constructor
  · intro h
    have h1 := h.trans (cutAll_le r ts)
    exact ⟨h1, fun t hm => Int.le_trans (h.2 t.1.toNat (by rw [h1.1]; exact ht t hm)) (cutAll_sat r ts ht t hm)⟩
  · exact fun ⟨a, b⟩ => le_cutAll a b
theorem cutAll_id {r : List Int} {ts : List Lim} (hs : Sat r ts) : cutAll r ts = r := (cutAll_le r ts).antisymm (le_cutAll (LeR.refl r) hs)
theorem cutAll_id_iff {r : List Int} {ts : List Lim} (ht : ∀ t ∈ ts, t.1.toNat < r.length) : cutAll r ts = r ↔ Sat r ts := by
  constructor
  · intro h
    have := cutAll_sat r ts ht
    rwa [h] at this
  · exact cutAll_id
/-! lifts -/
theorem maxI_le {l : List Int} (h : l ≠ []) (H : Int) : maxI l ≤ H ↔ ∀ x ∈ l, x ≤ H := by
  have hm := maxI_some h
  obtain ⟨h1, h2⟩ := List.max?_eq_some_iff.mp hm
  exact ⟨fun k x hx => Int.le_trans (h2 x hx) k, fun k => k _ h1⟩
theorem le_maxI {l : List Int} (h : l ≠ []) (H : Int) : H ≤ maxI l ↔ ∃ x ∈ l, H ≤ x := by
  have hm := maxI_some h
  obtain ⟨h1, h2⟩ := List.max?_eq_some_iff.mp hm
  exact ⟨fun k => ⟨_, h1, k⟩, fun ⟨x, hx, k⟩ => Int.le_trans k (h2 x hx)⟩
theorem cellV_at (rim : List Int) (c : Int) (h0 : 0 ≤ c) (h1 : c < rim.length) : cellV rim c = gt rim c.toNat := by
  have hc : c.fmod rim.length = c := by rw [Int.fmod_eq_emod_of_nonneg _ (by omega)]; exact Int.emod_eq_of_lt h0 h1
  unfold cellV gt
  rw [hc, List.getD_eq_getElem?_getD]
theorem liftV_spot (rim l : List Int) (m a : Int) (h : 0 < rim.length) : liftV rim l m a = maxI ((spotL rim.length l m a).map fun p => gt rim p.1.toNat - p.2) := by
  unfold liftV
  congr 1
  apply List.ext_getElem?
  intro i
  unfold spotL
  simp only [List.getElem?_mapIdx, List.getElem?_map]
  by_cases hi : i < l.length
  · have hf := fmod_rng (a + i - m) rim.length (by omega)
    have := cellV_at rim ((a + i - m).fmod rim.length) hf.1 hf.2
    have e : cellV rim ((a + i - m).fmod rim.length) = cellV rim (a + i - m) := by
      unfold cellV; rw [fmod_fmod _ _ (by omega)]
    rw [e] at this
    simp [hi, this]
  · simp [hi]
theorem spot_ne {n : Int} {l : List Int} (m a : Int) (hl : 1 ≤ l.length) (f : Int × Int → Int) : (spotL n l m a).map f ≠ [] := by
  intro e
  have := congrArg List.length e
  rw [List.length_map, spotL_len, List.length_nil] at this
  omega
theorem lift_le {rim l : List Int} {m a H : Int} (h : 0 < rim.length) (hl : 1 ≤ l.length) : liftV rim l m a ≤ H ↔ ∀ p ∈ spotL rim.length l m a, gt rim p.1.toNat - p.2 ≤ H := by
  rw [liftV_spot rim l m a h, maxI_le (spot_ne m a hl _)]
  constructor
  · exact fun k p hp => k _ (List.mem_map.mpr ⟨p, hp, rfl⟩)
  · intro k x hx
    obtain ⟨p, hp, rfl⟩ := List.mem_map.mp hx
    exact k p hp
theorem le_lift {rim l : List Int} {m a H : Int} (h : 0 < rim.length) (hl : 1 ≤ l.length) : H ≤ liftV rim l m a ↔ ∃ p ∈ spotL rim.length l m a, H ≤ gt rim p.1.toNat - p.2 := by
  rw [liftV_spot rim l m a h, le_maxI (spot_ne m a hl _)]
  constructor
  · rintro ⟨x, hx, k⟩
    obtain ⟨p, hp, rfl⟩ := List.mem_map.mp hx
    exact ⟨p, hp, k⟩
  · rintro ⟨p, hp, k⟩
    exact ⟨_, List.mem_map.mpr ⟨p, hp, rfl⟩, k⟩
theorem spot_lt {n : Nat} (hn : 0 < n) {l : List Int} {m a : Int} {p : Int × Int} (h : p ∈ spotL n l m a) : p.1.toNat < n := by
  have := spotL_rng (show (0 : Int) < n by omega) h
  omega
theorem lift_mono {q r l : List Int} (h : LeR q r) (h0 : 0 < q.length) (hl : 1 ≤ l.length) (m a : Int) : liftV q l m a ≤ liftV r l m a := by
  rw [lift_le h0 hl]
  intro p hp
  have h1 := h.2 p.1.toNat (spot_lt h0 hp)
  have h2 : gt r p.1.toNat - p.2 ≤ liftV r l m a := by
    rw [le_lift (by rw [← h.1]; exact h0) hl]
    exact ⟨p, by rw [← h.1]; exact hp, Int.le_refl _⟩
  omega
/-- the limits of a wish are kept where its lifts are nowhere too high -/
theorem sat_wish {r : List Int} {w : Wish} (h0 : 0 < r.length) (hl : 1 ≤ w.l.length) : Sat r (limL r.length w) ↔ ∀ q ∈ askedL w.row, liftV r w.l w.m (w.a + q.1) ≤ q.2.2 := by
  unfold Sat limL limP
  simp only [List.mem_flatMap, List.mem_map]
  constructor
  · intro h q hq
    rw [lift_le h0 hl]
    intro p hp
    have := h (p.1, q.2.2 + p.2, q.1) ⟨q, hq, p, hp, rfl⟩
    simp at this
    omega
  · rintro h t ⟨q, hq, p, hp, rfl⟩
    have := (lift_le h0 hl).mp (h q hq) p hp
    simp
    omega
theorem sat_wishes {r : List Int} {ws : List Wish} (h0 : 0 < r.length) (hl : ∀ w ∈ ws, 1 ≤ w.l.length) : Sat r (limsL r.length ws) ↔ ∀ w ∈ ws, ∀ q ∈ askedL w.row, liftV r w.l w.m (w.a + q.1) ≤ q.2.2 := by
  constructor
  · intro h w hw
    exact (sat_wish h0 (hl w hw)).mp fun t ht => h t (List.mem_flatMap.mpr ⟨w, hw, ht⟩)
  · intro h t ht
    obtain ⟨w, hw, ht⟩ := List.mem_flatMap.mp ht
    exact (sat_wish h0 (hl w hw)).mpr (h w hw) t ht
theorem lims_rng {n : Nat} (hn : 0 < n) {ws : List Wish} : ∀ t ∈ limsL n ws, t.1.toNat < n := fun t ht => by
  obtain ⟨w, _, ht⟩ := List.mem_flatMap.mp ht
  have := limL_rng (show (0 : Int) < n by omega) ht
  omega
/-- lifts between lows and highs -/
def Gives (r : List Int) (ws : List Wish) : Prop := ∀ w ∈ ws, ∀ q ∈ askedL w.row, q.2.1 ≤ liftV r w.l w.m (w.a + q.1) ∧ liftV r w.l w.m (w.a + q.1) ≤ q.2.2
def Lows (r : List Int) (ws : List Wish) : Prop := ∀ w ∈ ws, ∀ q ∈ askedL w.row, q.2.1 ≤ liftV r w.l w.m (w.a + q.1)
def Highs (r : List Int) (ws : List Wish) : Prop := ∀ w ∈ ws, ∀ q ∈ askedL w.row, liftV r w.l w.m (w.a + q.1) ≤ q.2.2
theorem gives_split {r : List Int} {ws : List Wish} : Gives r ws ↔ Lows r ws ∧ Highs r ws :=
  ⟨fun h => ⟨fun w hw q hq => (h w hw q hq).1, fun w hw q hq => (h w hw q hq).2⟩, fun ⟨a, b⟩ w hw q hq => ⟨a w hw q hq, b w hw q hq⟩⟩
def FeetW (ws : List Wish) : Prop := ∀ w ∈ ws, 1 ≤ w.l.length
theorem lack_none {r : List Int} {w : Wish} : lackV r w = none ↔ ∀ q ∈ askedL w.row, q.2.1 ≤ liftV r w.l w.m (w.a + q.1) := by
  unfold lackV
  rw [List.find?_eq_none]
  simp
theorem canV_iff {r : List Int} {ws : List Wish} : canV r ws = true ↔ Lows (fullV r ws) ws := by
  unfold canV Lows
  simp only [List.all_eq_true, Option.isNone_iff_eq_none, lack_none]
theorem full_id_iff {r : List Int} {ws : List Wish} (h0 : 0 < r.length) (hf : FeetW ws) : fullV r ws = r ↔ Highs r ws := by
  unfold fullV
  rw [cutAll_id_iff (lims_rng h0), sat_wishes h0 hf]
  rfl
theorem givesV_iff {r : List Int} {ws : List Wish} (h0 : 0 < r.length) (hf : FeetW ws) : givesV r ws = true ↔ Gives r ws := by
  unfold givesV
  rw [Bool.and_eq_true, beq_iff_eq, canV_iff, full_id_iff h0 hf, gives_split]
  constructor
  · rintro ⟨a, b⟩
    rw [(full_id_iff h0 hf).mpr a] at b
    exact ⟨b, a⟩
  · rintro ⟨a, b⟩
    refine ⟨b, ?_⟩
    rw [(full_id_iff h0 hf).mpr b]
    exact a
theorem le_full_iff {q r : List Int} {ws : List Wish} (h0 : 0 < r.length) (hf : FeetW ws) : LeR q (fullV r ws) ↔ LeR q r ∧ Highs q ws := by
  unfold fullV
  rw [le_cutAll_iff (lims_rng h0)]
  constructor
  · rintro ⟨a, b⟩
    refine ⟨a, ?_⟩
    rw [← a.1] at b
    exact (sat_wishes (a.1 ▸ h0) hf).mp b
  · rintro ⟨a, b⟩
    refine ⟨a, ?_⟩
    rw [← a.1]
    exact (sat_wishes (by rw [a.1]; exact h0) hf).mpr b
theorem full_le (r : List Int) (ws : List Wish) : LeR (fullV r ws) r := cutAll_le _ _
theorem full_highs {r : List Int} {ws : List Wish} (h0 : 0 < r.length) (hf : FeetW ws) : Highs (fullV r ws) ws := ((le_full_iff h0 hf).mp (LeR.refl _)).2
theorem lows_mono {q r : List Int} {ws : List Wish} (h : LeR q r) (h0 : 0 < q.length) (hf : FeetW ws) (hl : Lows q ws) : Lows r ws := fun w hw p hp => Int.le_trans (hl w hw p hp) (lift_mono h h0 (hf w hw) _ _)
theorem highs_mono {q r : List Int} {ws : List Wish} (h : LeR q r) (h0 : 0 < q.length) (hf : FeetW ws) (hl : Highs r ws) : Highs q ws := fun w hw p hp => Int.le_trans (lift_mono h h0 (hf w hw) _ _) (hl w hw p hp)
/-- wishes that some cam within the blank gives can come, and the fullest one gives them -/
theorem can_of {q r : List Int} {ws : List Wish} (h : LeR q r) (h0 : 0 < q.length) (hf : FeetW ws) (hg : Gives q ws) : canV r ws = true := by
  have hr : 0 < r.length := h.1 ▸ h0
  obtain ⟨a, b⟩ := gives_split.mp hg
  exact canV_iff.mpr (lows_mono ((le_full_iff hr hf).mpr ⟨h, b⟩) h0 hf a)
theorem full_gives {r : List Int} {ws : List Wish} (h0 : 0 < r.length) (hf : FeetW ws) (hc : canV r ws = true) : Gives (fullV r ws) ws := gives_split.mpr ⟨canV_iff.mp hc, full_highs h0 hf⟩
theorem full_id {r : List Int} {ws : List Wish} (h0 : 0 < r.length) (hf : FeetW ws) (h : Highs r ws) : fullV r ws = r := (full_id_iff h0 hf).mpr h
end TG

set_option linter.all false
set_option maxRecDepth 100000
namespace TG
open PySem L2
/-! ### the laws' own wishes -/
def Wish.dL (w : Wish) : D := .tup [.tup (w.l.map .int), .int w.m, .int w.a, .tup (w.row.map rowD)]
abbrev lawW (ws : List Wish) : W := .d (.lst (ws.map Wish.dL))
theorem seq_lawW (ws : List Wish) : wD (ws.map Wish.dL) = ws.map fun w => W.d w.dL := by simp [wD]
theorem row_at (row : List (Option (Int × Int))) (p : Nat) (hp : p < row.length) : atI (wD (row.map rowD)) (p : Int) = some (.d (rowD (row.getD p none))) := by
  simp [wD, hp, List.getD_eq_getElem?_getD]
theorem pairs_eq (row : List (Option (Int × Int))) (s : S) (h : row.length ≤ 1000) : f_v_law_pairs [.d (.tup (row.map rowD))] s = .ok (.own (wD ((askedL row).map askD))) s := by
  have hr := fun s => rng1_nat row.length s (by omega)
  have hL : row.length ≤ 16777216 := by omega
  rw [f_v_law_pairs, runF_eq]
  simp [b_v_law_pairs, hr, hL, wipeR, -rng1_eq]
  rw [lcM_fn (p := fun p : Nat => (row.getD p none).isSome) (v := fun p : Nat => askD (p, ((row.getD p none).getD (0, 0)).1, ((row.getD p none).getD (0, 0)).2))]
  · unfold askedL
    rw [List.map_map]
    rfl
  · intro p hp
    have hp := List.mem_range.mp hp
    have ha := row_at row p hp
    refine ⟨_, rfl, ?_, ?_⟩
    · cases e : row.getD p none with
      | none => rw [e] at ha; simp at ha; simp [ha, rowD]
      | some q => rw [e] at ha; simp at ha; simp [ha, rowD]
    · intro hs
      cases e : row.getD p none with
      | none => rw [e] at hs; cases hs
      | some q => rw [e] at ha; simp at ha; simp [ha, rowD, askD]
/-! the fullest cam, as the law makes it -/
theorem cutV_keep {r : List Int} {c h : Int} (k : ¬ h < r.getD c.toNat 0) : cutV r c h = r := by
  unfold cutV
  rw [Int.min_eq_left (by omega)]
  by_cases hc : c.toNat < r.length
  · rw [List.getD_eq_getElem?_getD, List.getElem?_eq_getElem hc, Option.getD_some, List.set_getElem_self]
  · rw [List.set_eq_of_length_le (by omega)]
theorem cutV_cut {r : List Int} {c h : Int} (k : h < r.getD c.toNat 0) : cutV r c h = r.set c.toNat h := by
  unfold cutV
  rw [Int.min_eq_right (by omega)]
def I_f1 (r : List Int) (ws : List Wish) (s : S) (pre : List Wish) (ρ : Rho) (s' : S) : Prop := (∃ x3 x4 x5 x6 x7 x8 x9 x10 x11 : EV, ρ = [.w (intsD r), .w (lawW ws), .own (wD ((cutAll r (limsL r.length pre)).map .int)), x3, x4, x5, x6, x7, x8, x9, x10, x11]) ∧ s' = s
def I_f2 (r : List Int) (ws : List Wish) (s : S) (now : List Int) (w : Wish) (pre : List Ask) (ρ : Rho) (s' : S) : Prop := (∃ x7 x8 x9 x10 x11 : EV, ρ = [.w (intsD r), .w (lawW ws), .own (wD ((cutAll now (pre.flatMap (limP r.length w))).map .int)), .w (.d (.tup (w.l.map .int))), .w (.d (.int w.m)), .w (.d (.int w.a)), .w (.d (.tup (w.row.map rowD))), x7, x8, x9, x10, x11]) ∧ s' = s
def I_f3 (r : List Int) (ws : List Wish) (s : S) (now : List Int) (w : Wish) (q : Ask) (pre : List (Int × Int)) (ρ : Rho) (s' : S) : Prop := (∃ x10 x11 : EV, ρ = [.w (intsD r), .w (lawW ws), .own (wD ((cutAll now (pre.map fun c => (c.1, q.2.2 + c.2, q.1))).map .int)), .w (.d (.tup (w.l.map .int))), .w (.d (.int w.m)), .w (.d (.int w.a)), .w (.d (.tup (w.row.map rowD))), .w (.d (.int q.1)), .w (.d (.int q.2.1)), .w (.d (.int q.2.2)), x10, x11]) ∧ s' = s
theorem fullestL_eq (r : List Int) (ws : List Wish) (s : S) (h : 0 < r.length) (h' : r.length ≤ 1000) (hw : SmallW ws) : f_v_law_fullest [intsD r, lawW ws] s = .ok (.w (intsD (fullV r ws))) s := by
  refine eq_wE ?_
  rw [f_v_law_fullest]
  refine wE_fn (by rfl) ?_
  have hL : r.length ≤ 16777216 := by omega
  simp [b_v_law_fullest, hL, wipeR, -rng1_eq]
  rw [seq_lawW]
  refine wS_mid (I_f1 r ws s ws) ?_ ?_
  · refine forE_at (I_f1 r ws s) ⟨⟨_, _, _, _, _, _, _, _, _, rfl⟩, rfl⟩ ?_ fun ρ s' h => h
    rintro pre w rr hz ρ s' ⟨⟨x3, x4, x5, x6, x7, x8, x9, x10, x11, rfl⟩, rfl⟩
    obtain ⟨w1, w2, w3⟩ := hw w (by rw [hz]; simp)
    refine ⟨_, by simp [Wish.dL]; rfl, ?_⟩
    have hp := pairs_eq w.row s' w1
    simp [hp, wipeR, -rng1_eq]
    have e1 : wD ((askedL w.row).map askD) = (askedL w.row).map fun q => W.d (askD q) := by simp [wD]
    rw [e1]
    refine forE_at (I_f2 r ws s' (cutAll r (limsL r.length pre)) w) ⟨⟨_, _, _, _, _, rfl⟩, rfl⟩ ?_ ?_
    · rintro pr q qq hzz ρ s2 ⟨⟨x7, x8, x9, x10, x11, rfl⟩, rfl⟩
      refine ⟨_, by simp [askD]; rfl, ?_⟩
      have hs := spots_eq r.length w.l w.m (w.a + q.1) s2 (by omega) w3
      simp [hs, wipeR, -rng1_eq]
      rw [spot_D]
      refine forE_at (I_f3 r ws s2 (cutAll (cutAll r (limsL r.length pre)) (pr.flatMap (limP r.length w))) w q) ⟨⟨_, _, rfl⟩, rfl⟩ ?_ ?_
      · rintro p3 c rr3 hz3 ρ s3 ⟨⟨x10, x11, rfl⟩, rfl⟩
        have hc := spotL_rng (show (0 : Int) < r.length by omega) (show c ∈ spotL r.length w.l w.m (w.a + q.1) by rw [hz3]; simp)
        refine ⟨_, by simp [pairD]; rfl, ?_⟩
        generalize hnow : cutAll (cutAll (cutAll r (limsL r.length pre)) (pr.flatMap (limP r.length w))) (p3.map fun c : Int × Int => (c.1, q.2.2 + c.2, q.1)) = now at *
        have hnl : now.length = r.length := by rw [← hnow, cutAll_len, cutAll_len, cutAll_len]
        have e3 : cutAll (cutAll (cutAll r (limsL r.length pre)) (pr.flatMap (limP r.length w))) ((p3 ++ [c]).map fun c : Int × Int => (c.1, q.2.2 + c.2, q.1)) = cutV now c.1 (q.2.2 + c.2) := by
          rw [List.map_append, cutAll_app, hnow]
          rfl
        have ha : atI (wD (now.map D.int)) c.1 = some (.d (.int (now.getD c.1.toNat 0))) := by
          obtain ⟨k, hk⟩ : ∃ k : Nat, c.1 = k := ⟨c.1.toNat, by omega⟩
          rw [hk]
          have hk2 : k < now.length := by omega
          simp [wD, hk2, List.getD_eq_getElem?_getD]
        have hi : ixN now.length c.1 = some c.1.toNat := by
          unfold ixN
          rw [if_pos hc.1, if_pos (by omega)]
        by_cases hlt : q.2.2 + c.2 < now.getD c.1.toNat 0
        · rw [cutV_cut hlt] at e3
          simp only [List.getD_eq_getElem?_getD] at hlt ha
          simp [ha, hi, hlt, wipeR, -rng1_eq]
          refine ⟨⟨.w (.d (.int c.1)), .w (.d (.int c.2)), ?_⟩, rfl⟩
          rw [e3]
          simp [wD]
        · rw [cutV_keep hlt] at e3
          simp only [List.getD_eq_getElem?_getD] at hlt ha
          simp [ha, hi, hlt, wipeR, -rng1_eq]
          refine ⟨⟨.w (.d (.int c.1)), .w (.d (.int c.2)), ?_⟩, rfl⟩
          rw [e3]
      · rintro ρ s3 ⟨⟨x10, x11, rfl⟩, rfl⟩
        refine ⟨⟨.w (.d (.int q.1)), .w (.d (.int q.2.1)), .w (.d (.int q.2.2)), x10, x11, ?_⟩, rfl⟩
        rw [List.flatMap_append, cutAll_app]
        simp [limP]
    · rintro ρ s2 ⟨⟨x7, x8, x9, x10, x11, rfl⟩, rfl⟩
      refine ⟨⟨.w (.d (.tup (w.l.map .int))), .w (.d (.int w.m)), .w (.d (.int w.a)), .w (.d (.tup (w.row.map rowD))), x7, x8, x9, x10, x11, ?_⟩, rfl⟩
      rw [show limsL r.length (pre ++ [w]) = limsL r.length pre ++ limL r.length w by simp [limsL], cutAll_app]
      rfl
  · rintro ρ s' ⟨⟨x3, x4, x5, x6, x7, x8, x9, x10, x11, rfl⟩, rfl⟩
    have hL2 : (fullV r ws).length ≤ 16777216 := by rw [fullV_len]; omega
    have e6 : cutAll r (limsL r.length ws) = fullV r ws := rfl
    simp [e6, hL2, wipeR, -rng1_eq]
/-! which wish fails -/
def noneD : D → Bool | .non => true | _ => false
def lacksB (r : List Int) (ws : List Wish) : Bool := ws.all fun w => (lackV r w).isNone
def I_g1 (r : List Int) (ws : List Wish) (s : S) (pre : List Nat) (ρ : Rho) (s' : S) : Prop := (∃ x2 x3 x4 x5 x6 x7 x8 x9 : EV, ρ = [.w (intsD r), .w (lawW ws), x2, x3, x4, x5, x6, x7, x8, x9]) ∧ s' = s ∧ ∀ i ∈ pre, ∀ w, ws[i]? = some w → lackV r w = none
def I_g2 (r : List Int) (ws : List Wish) (s : S) (w : Wish) (i : Nat) (pre : List Ask) (ρ : Rho) (s' : S) : Prop := (∃ x7 x8 x9 : EV, ρ = [.w (intsD r), .w (lawW ws), .w (.d (.int i)), .w (.d (.tup (w.l.map .int))), .w (.d (.int w.m)), .w (.d (.int w.a)), .w (.d (.tup (w.row.map rowD))), x7, x8, x9]) ∧ s' = s ∧ ∀ q ∈ pre, q.2.1 ≤ liftV r w.l w.m (w.a + q.1)
theorem failing_eq (r : List Int) (ws : List Wish) (s : S) (h : 0 < r.length) (h' : r.length ≤ 1000) (hw : SmallW ws) (hl : ws.length ≤ 1000) : ∃ d, f_v_law_failing [intsD r, lawW ws] s = .ok (.w (.d d)) s ∧ noneD d = lacksB r ws := by
  suffices q : wE nE (fun v s' => (∃ d, v = .w (.d d) ∧ noneD d = lacksB r ws) ∧ s' = s) (f_v_law_failing [intsD r, lawW ws] s) by
    obtain ⟨v, s', e, ⟨d, rfl, q2⟩, rfl⟩ := wE_nE q
    exact ⟨d, e, q2⟩
  rw [f_v_law_failing]
  refine wE_fn (by rfl) ?_
  have hr := fun s => rng1_nat ws.length s (by omega)
  simp [b_v_law_failing, hr, wipeR, -rng1_eq]
  refine wS_mid (I_g1 r ws s (List.range ws.length)) ?_ ?_
  · refine forE_at (g := fun i : Nat => W.d (.int i)) (I_g1 r ws s) ⟨⟨_, _, _, _, _, _, _, _, rfl⟩, rfl, fun _ hi => by cases hi⟩ ?_ fun ρ s' h => h
    rintro pre i rr hz ρ s' ⟨⟨x2, x3, x4, x5, x6, x7, x8, x9, rfl⟩, rfl, hpre⟩
    have hi : i < ws.length := List.mem_range.mp (by rw [hz]; simp)
    obtain ⟨w, hwi⟩ : ∃ w, ws[i]? = some w := ⟨ws[i], List.getElem?_eq_getElem hi⟩
    have hwm : w ∈ ws := List.mem_iff_getElem?.mpr ⟨i, hwi⟩
    obtain ⟨w1, w2, w3⟩ := hw w hwm
    have ha : atI (wD (ws.map Wish.dL)) (i : Int) = some (.d w.dL) := by
      have : ws[i] = w := by rw [List.getElem?_eq_getElem hi] at hwi; exact Option.some.inj hwi
      simp [wD, hi, this]
    have hp := pairs_eq w.row s' w1
    refine ⟨_, rfl, ?_⟩
    simp [ha, Wish.dL, hp, wipeR, -rng1_eq]
    have e1 : wD ((askedL w.row).map askD) = (askedL w.row).map fun q => W.d (askD q) := by simp [wD]
    rw [e1]
    refine forE_at (I_g2 r ws s' w i) ⟨⟨_, _, _, rfl⟩, rfl, fun _ hi => by cases hi⟩ ?_ ?_
    · rintro pr q qq hzz ρ s2 ⟨⟨x7, x8, x9, rfl⟩, rfl, hpr⟩
      refine ⟨_, by simp [askD]; rfl, ?_⟩
      have hri := ride_eq r w.l w.m (w.a + q.1) s2 h w2 w3
      by_cases c : liftV r w.l w.m (w.a + q.1) < q.2.1
      · simp [hri, c, wipeR, -rng1_eq]
        have hne : (lackV r w).isNone = false := by
          cases hn : lackV r w with
          | some _ => rfl
          | none =>
            have := lack_none.mp hn q (by rw [hzz]; simp)
            omega
        have : lacksB r ws = false := by
          unfold lacksB
          rw [List.all_eq_false]
          exact ⟨w, hwm, by simp [hne]⟩
        rw [this]
        rfl
      · simp [hri, c, wipeR, -rng1_eq]
        refine ⟨⟨_, _, _, rfl⟩, rfl, fun z hz => ?_⟩
        rcases List.mem_append.mp hz with hz | hz
        · exact hpr z hz
        · rw [List.mem_singleton.mp hz]
          omega
    · rintro ρ s2 ⟨⟨x7, x8, x9, rfl⟩, rfl, hpr⟩
      refine ⟨⟨_, _, _, _, _, _, _, _, rfl⟩, rfl, fun j hj v hv => ?_⟩
      rcases List.mem_append.mp hj with hj | hj
      · exact hpre j hj v hv
      · rw [List.mem_singleton.mp hj, hwi] at hv
        cases hv
        exact lack_none.mpr hpr
  · rintro ρ s' ⟨⟨x2, x3, x4, x5, x6, x7, x8, x9, rfl⟩, rfl, hpre⟩
    simp [wipeR, -rng1_eq]
    have : lacksB r ws = true := by
      unfold lacksB
      rw [List.all_eq_true]
      intro w hwm
      obtain ⟨i, hi⟩ := List.mem_iff_getElem?.mp hwm
      have hlt := (List.getElem?_eq_some_iff.mp hi).1
      rw [hpre i (List.mem_range.mpr hlt) w hi]
      rfl
    rw [this]
    rfl
/-! whether a cam gives wishes, as the law sees it -/
def givB (r : List Int) (ws : List Wish) : Bool := ws.all fun w => (askedL w.row).all fun q => decide (q.2.1 ≤ liftV r w.l w.m (w.a + q.1)) && decide (liftV r w.l w.m (w.a + q.1) ≤ q.2.2)
theorem givB_iff {r : List Int} {ws : List Wish} : givB r ws = true ↔ Gives r ws := by
  unfold givB Gives
  simp only [List.all_eq_true, Bool.and_eq_true, decide_eq_true_eq]
def I_h1 (r : List Int) (ws : List Wish) (s : S) (pre : List Wish) (ρ : Rho) (s' : S) : Prop := (∃ x2 x3 x4 x5 x6 x7 x8 : EV, ρ = [.w (intsD r), .w (lawW ws), x2, x3, x4, x5, x6, x7, x8]) ∧ s' = s ∧ givB r pre = true
def I_h2 (r : List Int) (ws : List Wish) (s : S) (w : Wish) (pre : List Ask) (ρ : Rho) (s' : S) : Prop := (∃ x6 x7 x8 : EV, ρ = [.w (intsD r), .w (lawW ws), .w (.d (.tup (w.l.map .int))), .w (.d (.int w.m)), .w (.d (.int w.a)), .w (.d (.tup (w.row.map rowD))), x6, x7, x8]) ∧ s' = s ∧ ∀ q ∈ pre, q.2.1 ≤ liftV r w.l w.m (w.a + q.1) ∧ liftV r w.l w.m (w.a + q.1) ≤ q.2.2
theorem given_eq (r : List Int) (ws : List Wish) (s : S) (h : 0 < r.length) (hw : SmallW ws) : f_v_law_given [intsD r, lawW ws] s = .ok (.w (.d (.bl (givB r ws)))) s := by
  refine eq_wE ?_
  rw [f_v_law_given]
  refine wE_fn (by rfl) ?_
  simp [b_v_law_given, wipeR, -rng1_eq]
  rw [seq_lawW]
  refine wS_mid (I_h1 r ws s ws) ?_ ?_
  · refine forE_at (I_h1 r ws s) ⟨⟨_, _, _, _, _, _, _, rfl⟩, rfl, rfl⟩ ?_ fun ρ s' h => h
    rintro pre w rr hz ρ s' ⟨⟨x2, x3, x4, x5, x6, x7, x8, rfl⟩, rfl, hpre⟩
    have hwm : w ∈ ws := by rw [hz]; simp
    obtain ⟨w1, w2, w3⟩ := hw w hwm
    have hp := pairs_eq w.row s' w1
    refine ⟨_, by simp [Wish.dL]; rfl, ?_⟩
    simp [hp, wipeR, -rng1_eq]
    have e1 : wD ((askedL w.row).map askD) = (askedL w.row).map fun q => W.d (askD q) := by simp [wD]
    rw [e1]
    refine forE_at (I_h2 r ws s' w) ⟨⟨_, _, _, rfl⟩, rfl, fun _ hi => by cases hi⟩ ?_ ?_
    · rintro pr q qq hzz ρ s2 ⟨⟨x6, x7, x8, rfl⟩, rfl, hpr⟩
      refine ⟨_, by simp [askD]; rfl, ?_⟩
      have hri := ride_eq r w.l w.m (w.a + q.1) s2 h w2 w3
      have hbad : ¬ (q.2.1 ≤ liftV r w.l w.m (w.a + q.1) ∧ liftV r w.l w.m (w.a + q.1) ≤ q.2.2) → givB r ws = false := by
        intro hb
        cases e : givB r ws with
        | false => rfl
        | true => exact absurd (givB_iff.mp e w hwm q (by rw [hzz]; simp)) hb
      by_cases c1 : q.2.1 ≤ liftV r w.l w.m (w.a + q.1)
      · by_cases c2 : liftV r w.l w.m (w.a + q.1) ≤ q.2.2
        · simp [hri, c1, c2, wipeR, -rng1_eq]
          refine ⟨⟨_, _, _, rfl⟩, rfl, fun z hz => ?_⟩
          rcases List.mem_append.mp hz with hz | hz
          · exact hpr z hz
          · rw [List.mem_singleton.mp hz]
            exact ⟨c1, c2⟩
        · simp [hri, c1, c2, wipeR, -rng1_eq]
          rw [hbad fun x => c2 x.2]
      · simp [hri, c1, wipeR, -rng1_eq]
        rw [hbad fun x => c1 x.1]
    · rintro ρ s2 ⟨⟨x6, x7, x8, rfl⟩, rfl, hpr⟩
      refine ⟨⟨_, _, _, _, _, _, _, rfl⟩, rfl, ?_⟩
      unfold givB at hpre ⊢
      rw [List.all_append, hpre]
      simp only [List.all_cons, List.all_nil, Bool.true_and, Bool.and_true, List.all_eq_true, Bool.and_eq_true, decide_eq_true_eq]
      exact hpr
  · rintro ρ s' ⟨⟨x2, x3, x4, x5, x6, x7, x8, rfl⟩, rfl, hpre⟩
    simp [hpre, wipeR, -rng1_eq]
end TG

set_option linter.all false
set_option maxRecDepth 100000
namespace TG
open PySem L2
/-! ### a rim cut down -/
theorem cutDown_wp (b : Bag) (t : S) (r : List Int) (hr : r.length ≤ 1000) : wE nE (fun v s => ∃ q : List Int, v = .w (intsD q) ∧ q.length = r.length ∧ (∀ i, i < r.length → gt q i ≤ gt r i ∧ gt r i ≤ gt q i + 5) ∧ BS t s) (f_v_law_cut_down [.r 0, intsD r] (b.cell :: t)) := by
  have hL : r.length ≤ 16777216 := by omega
  rw [f_v_law_cut_down]
  refine wE_fn (by rfl) ?_
  simp [b_v_law_cut_down]
  refine wS_use (pull_wp _ _ _ (by decide) (by decide)) ?_
  rintro _ _ ⟨o, b, rfl, rfl, h0, h1⟩
  simp [wipeR, -rng1_eq]
  simp [hL, wipeR, -rng1_eq]
  have e1 : wD (r.map D.int) = r.map fun x => W.d (.int x) := by simp [wD]
  rw [e1]
  refine wS_use (lcM_gen (g := fun x => W.d (.int x)) D.int (fun x y => y ≤ x ∧ x ≤ y + 5) (BS t) (l := r) (fun x _ s hs => ?_) bs) ?_
  · obtain ⟨b, rfl⟩ := hs
    refine ⟨_, rfl, rfl, ?_⟩
    simp
    refine wE_use (pull_wp _ _ _ (by decide) (by decide)) ?_
    rintro _ _ ⟨y, b, rfl, rfl, h2, h3⟩
    simp [wipeR, -rng1_eq]
    refine wE_use (pull_wp _ _ _ (by omega) (by omega)) ?_
    rintro _ _ ⟨z, b, rfl, rfl, h4, h5⟩
    simp [wipeR, -rng1_eq]
    by_cases c : 0 < z
    · simp [c]
      and_intros <;> first | omega | exact bs
    · simp [c]
      and_intros <;> first | omega | exact bs
  · rintro ws s ⟨q, rfl, hl, hR, hs⟩
    simp
    refine ⟨q, rfl, hl, fun i hi => ?_, hs⟩
    have := hR i hi (by omega)
    simpa [gt, List.getD_eq_getElem?_getD, hi, show i < q.length by omega] using this
theorem cut_le {q r : List Int} (hl : q.length = r.length) (h : ∀ i, i < r.length → gt q i ≤ gt r i ∧ gt r i ≤ gt q i + 5) : LeR q r := ⟨hl, fun i hi => (h i (hl ▸ hi)).1⟩
/-! ### feet -/
abbrev Foot := List Int × Int
def pairFD (f : Foot) : D := .tup [.tup (f.1.map .int), .int f.2]
def footF (f : Foot) : D := footD f.1 f.2
theorem pairs_wp (n : Nat) (tg : Tgt) (ρ : Rho) (b : Bag) (t : S) (hg : ∀ i : Nat, ∃ ρ1, tg (.d (.int i)) ρ = some ρ1 ∧ ρ1[1]? = some (.w (.r 0))) :
    wE nE (fun ws s => ∃ fs : List Foot, ws = wD (fs.map pairFD) ∧ fs.length = n ∧ (∀ f ∈ fs, GoodF f.1 f.2) ∧ BS t s) (lcM tg eYes (eCall f_v_law_pair (eCons (eVar 1) eNil)) ρ ((List.range n).map fun i : Nat => W.d (.int i)) (b.cell :: t)) := by
  refine wE_imp (lcM_gen (g := fun i : Nat => W.d (.int i)) pairFD (fun _ f => GoodF f.1 f.2) (BS t) (l := List.range n) (fun i _ s hs => ?_) bs) ?_
  · obtain ⟨b, rfl⟩ := hs
    obtain ⟨ρ1, e1, e2⟩ := hg i
    refine ⟨ρ1, e1, rfl, ?_⟩
    have hk : ∀ s : S, eCall f_v_law_pair (eCons (eVar 1) eNil) ρ1 s = (f_v_law_pair [.r 0] s).bind frzV := by intro s; simp [e2]
    rw [hk]
    refine wE_use (pair_wp _ _) ?_
    rintro _ _ ⟨l, m, b, rfl, rfl, hf⟩
    exact .ok ⟨(l, m), rfl, hf, bs⟩
  · rintro ws s ⟨fs, rfl, hl, hR, hs⟩
    simp at hl
    refine ⟨fs, rfl, hl, fun f hf => ?_, hs⟩
    obtain ⟨i, hi, rfl⟩ := List.mem_iff_getElem.mp hf
    exact hR i (by simp; omega) hi
theorem footF_made (f : Foot) (hf : GoodF f.1 f.2) (s : S) : madeD "Foot" s (f_Foot_init [.r s.length, .d (.tup (f.1.map .int)), .d (.int f.2)] (s ++ [.ins "Foot" []])) = .ok (.d (footF f)) s := foot_made f.1 f.2 s hf.l1 hf.l9 hf.dr hf.m0 hf.m1
/-! ### wishes of all motions -/
def wish11 (rim : List Int) (f : Foot) : Wish := ⟨f.1, f.2, 0, (motV rim f.1 f.2).map fun h => some (h, h)⟩
theorem motV_at (rim l : List Int) (m : Int) (i : Nat) (hi : i < rim.length) : (motV rim l m)[i]? = some (liftV rim l m i) := by simp [motV, hi]
theorem asked11 {rim : List Int} {f : Foot} {q : Ask} : q ∈ askedL (wish11 rim f).row ↔ q.1 < rim.length ∧ q.2 = (liftV rim f.1 f.2 q.1, liftV rim f.1 f.2 q.1) := by
  rw [askedL_mem]
  show ((motV rim f.1 f.2).map fun h => some (h, h))[q.1]? = _ ↔ _
  rw [List.getElem?_map]
  by_cases hi : q.1 < rim.length
  · rw [motV_at _ _ _ _ hi]
    simp [hi]
    exact ⟨fun h => h.symm, fun h => h.symm⟩
  · rw [List.getElem?_eq_none (by simp [motV]; omega)]
    simp [hi]
def ws11 (rim : List Int) (fs : List Foot) : List Wish := fs.map (wish11 rim)
theorem gives11 (r rim : List Int) (fs : List Foot) : Gives r (ws11 rim fs) ↔ ∀ f ∈ fs, ∀ i : Nat, i < rim.length → liftV r f.1 f.2 i = liftV rim f.1 f.2 i := by
  unfold Gives ws11
  constructor
  · intro h f hf i hi
    have := h _ (List.mem_map.mpr ⟨f, hf, rfl⟩) (i, liftV rim f.1 f.2 i, liftV rim f.1 f.2 i) (asked11.mpr ⟨hi, rfl⟩)
    simp [wish11] at this
    omega
  · intro h w hw q hq
    obtain ⟨f, hf, rfl⟩ := List.mem_map.mp hw
    obtain ⟨hi, e⟩ := asked11.mp hq
    have := h f hf q.1 hi
    rw [e]
    simp [wish11]
    omega
theorem highs11 (r rim : List Int) (fs : List Foot) : Highs r (ws11 rim fs) ↔ ∀ f ∈ fs, ∀ i : Nat, i < rim.length → liftV r f.1 f.2 i ≤ liftV rim f.1 f.2 i := by
  unfold Highs ws11
  constructor
  · intro h f hf i hi
    have := h _ (List.mem_map.mpr ⟨f, hf, rfl⟩) (i, liftV rim f.1 f.2 i, liftV rim f.1 f.2 i) (asked11.mpr ⟨hi, rfl⟩)
    simpa [wish11] using this
  · intro h w hw q hq
    obtain ⟨f, hf, rfl⟩ := List.mem_map.mp hw
    obtain ⟨hi, e⟩ := asked11.mp hq
    have := h f hf q.1 hi
    rw [e]
    simpa [wish11] using this
theorem feet11 {rim : List Int} {fs : List Foot} (h : ∀ f ∈ fs, GoodF f.1 f.2) : FeetW (ws11 rim fs) := fun w hw => by
  obtain ⟨f, hf, rfl⟩ := List.mem_map.mp hw
  exact (h f hf).l1
theorem good11 {n : Nat} {rim : List Int} {fs : List Foot} (h : ∀ f ∈ fs, GoodF f.1 f.2) (hl : fs.length ≤ 1000) (hn : rim.length = n) : GoodWs n (ws11 rim fs) := by
  refine ⟨fun w hw => ?_, by simpa [ws11] using hl⟩
  obtain ⟨f, hf, rfl⟩ := List.mem_map.mp hw
  refine ⟨h f hf, by simp [wish11, motV, hn], fun q hq => ?_⟩
  obtain ⟨x, _, e⟩ := List.mem_map.mp hq
  cases e
  exact Int.le_refl _
theorem feet_D (fs : List Foot) : wD (fs.map footF) = fs.map fun f => W.d (footF f) := by simp [wD]
theorem pairs_D (fs : List Foot) : wD (fs.map pairFD) = fs.map fun f => W.d (pairFD f) := by simp [wD]
theorem ints_D (l : List Int) : wD (l.map D.int) = l.map fun x => W.d (.int x) := by simp [wD]
def aboveF (other rim : List Int) (f : Foot) : Bool := ((motV other f.1 f.2).zip (motV rim f.1 f.2)).any fun p => decide (p.2 < p.1)
theorem above_iff {other rim : List Int} {f : Foot} (h : other.length = rim.length) : aboveF other rim f = false ↔ ∀ i : Nat, i < rim.length → liftV other f.1 f.2 i ≤ liftV rim f.1 f.2 i := by
  unfold aboveF
  rw [List.any_eq_false]
  constructor
  · intro k i hi
    have h1 := motV_at other f.1 f.2 i (by omega)
    have h2 := motV_at rim f.1 f.2 i hi
    have := k (liftV other f.1 f.2 i, liftV rim f.1 f.2 i) (List.mem_iff_getElem?.mpr ⟨i, List.getElem?_zip_eq_some.mpr ⟨h1, h2⟩⟩)
    simp at this
    exact this
  · intro k p hp
    obtain ⟨i, hi⟩ := List.mem_iff_getElem?.mp hp
    obtain ⟨h1, h2⟩ := List.getElem?_zip_eq_some.mp hi
    have hil : i < rim.length := by
      have := (List.getElem?_eq_some_iff.mp h2).1
      simpa [motV] using this
    rw [motV_at _ _ _ _ (by omega)] at h1
    rw [motV_at _ _ _ _ hil] at h2
    have := k i hil
    injection h1 with h1
    injection h2 with h2
    simp
    omega
def I11 (ns : List Int) (x2 x3 x4 x5 x6 x7 x8 : EV) (other rim : List Int) (s0 : S) (pre : List Foot) (ρ : Rho) (s : S) : Prop :=
  (∃ x11 x12 x13 x14 x15 x16 x17 : EV, ρ = [.w (.d (.scr (ns.map .int))), .w (.r 0), x2, x3, x4, x5, x6, x7, x8, .w (intsD other), .w (.d (.bl (pre.any (aboveF other rim)))), x11, x12, x13, x14, x15, x16, x17]) ∧ s = s0
theorem pure_k11 (ns : List Int) (hl : ns.length ≤ 63) : ∃ s', f_law_k11 [.d (.scr (ns.map D.int))] [] = .ok (.w (.d (.bl true))) s' := by
  refine of_wE ?_
  rw [f_law_k11]
  refine wE_fn (by rfl) ?_
  simp [b_law_k11]
  refine wS_use (bag_wp ns hl _) ?_
  rintro _ _ ⟨b, z, rfl, hz, rfl⟩
  simp [wipeR, -rng1_eq]
  rw [hz]
  clear hz
  refine wS_use (rim_wp _ _ _ (by decide) (by decide)) ?_
  rintro _ _ ⟨blank, b, rfl, rfl, r3, r48, rm⟩
  simp [wipeR, -rng1_eq]
  refine wS_use (cutDown_wp _ _ blank (by omega)) ?_
  rintro _ _ ⟨rim, rfl, hql, hqc, b, rfl⟩
  simp [wipeR, -rng1_eq]
  have hle := cut_le hql hqc
  refine wS_use (pull_wp _ _ _ (by decide) (by decide)) ?_
  rintro _ _ ⟨x, b, rfl, rfl, h0, h1⟩
  simp [wipeR, -rng1_eq]
  have hr1 : ∀ s, rng1 [.d (.int (1 + x))] s = .ok ((List.range (1 + x).toNat).map fun i : Nat => W.d (.int (i : Int))) s := by
    intro s
    rw [rng1_eq, if_pos (by omega)]
  have hL1 : (1 + x).toNat ≤ 16777216 := by omega
  simp [hr1, hL1, wipeR, -rng1_eq]
  refine wS_use (pairs_wp _ _ _ _ _ fun i => ⟨_, rfl, rfl⟩) ?_
  rintro _ _ ⟨fs, rfl, hfl, hfs, b, rfl⟩
  have hL2 : fs.length ≤ 16777216 := by omega
  simp [hL2, wipeR, -rng1_eq]
  rw [pairs_D, lcM_fn' (v := footF)]
  rotate_left
  · intro f hf
    have em := footF_made f (hfs f hf) [b.cell]
    simp at em
    exact ⟨_, by simp [pairFD]; rfl, by simp [em]⟩
  simp [hL2, wipeR, -rng1_eq]
  have hmot : ∀ (f : Foot) (s : S), f ∈ fs → ∀ r : List Int, 3 ≤ r.length → r.length ≤ 48 → f_motion [.d (.tup (r.map .int)), .d (footF f)] s = .ok (.w (.d (.tup ((motV r f.1 f.2).map .int)))) s := fun f s hf r k3 k4 => motion_eq r f.1 f.2 s k3 k4 (hfs f hf).l1 (by have := (hfs f hf).l9; omega)
  rw [feet_D, lcM_fn' (v := fun f => (wish11 rim f).d)]
  rotate_left
  · intro f hf
    refine ⟨_, rfl, ?_⟩
    have hL3 : (motV rim f.1 f.2).length ≤ 16777216 := by simp [motV]; omega
    simp [hmot f _ hf rim (by omega) (by omega), hL3, wipeR, -rng1_eq]
    rw [ints_D, lcM_fn' (v := fun h : Int => .tup [.int h, .int h])]
    · simp [wish11, Wish.d, footF, rowD]
    · intro h _
      exact ⟨_, rfl, by simp⟩
  have e6 : fs.map (fun f => (wish11 rim f).d) = (ws11 rim fs).map Wish.d := by simp [ws11]
  rw [e6]
  -- what holds of them
  have hfeet := feet11 (rim := rim) hfs
  have g0 : GoodWs blank.length (ws11 rim fs) := good11 hfs (by omega) hql
  have g1 : GoodWs rim.length (ws11 rim fs) := good11 hfs (by omega) rfl
  have g2 : GoodWs (fullV blank (ws11 rim fs)).length (ws11 rim fs) := by rw [fullV_len]; exact g0
  have p0 : 0 < rim.length := by omega
  have gR : Gives rim (ws11 rim fs) := (gives11 rim rim fs).mpr fun _ _ _ _ => rfl
  have cB := can_of hle p0 hfeet gR
  have pB : 0 < blank.length := by omega
  have gF := full_gives pB hfeet cB
  have pF : 0 < (fullV blank (ws11 rim fs)).length := by rw [fullV_len]; exact pB
  have lF : LeR rim (fullV blank (ws11 rim fs)) := (le_full_iff pB hfeet).mpr ⟨hle, (gives_split.mp gR).2⟩
  have b1 : givesV (fullV blank (ws11 rim fs)) (ws11 rim fs) = true := (givesV_iff pF hfeet).mpr gF
  have b2 : givesV rim (ws11 rim fs) = true := (givesV_iff p0 hfeet).mpr gR
  have b3 : wthB rim (fullV blank (ws11 rim fs)) = true := (wthB_iff lF.1).mpr lF
  have b4 : wthB (fullV blank (ws11 rim fs)) blank = true := (wthB_iff (fullV_len _ _)).mpr (full_le _ _)
  have b5 : fullV (fullV blank (ws11 rim fs)) (ws11 rim fs) = fullV blank (ws11 rim fs) := full_id pF hfeet (gives_split.mp gF).2
  generalize hbest : fullV blank (ws11 rim fs) = best at *
  have lb : best.length = blank.length := by rw [← hbest, fullV_len]
  have q3 : 3 ≤ best.length := by omega
  have q48 : best.length ≤ 48 := by omega
  have u3 : 3 ≤ rim.length := by omega
  have u48 : rim.length ≤ 48 := by omega
  have w1 : ∀ s, f_within [intsD rim, intsD best] s = .ok (.w (.d (.bl true))) s := fun s => by rw [within_eq rim best s u3 u48 q3 q48, if_pos (by omega), b3]
  have w2 : ∀ s, f_within [intsD best, intsD blank] s = .ok (.w (.d (.bl true))) s := fun s => by rw [within_eq best blank s q3 q48 r3 r48, if_pos lb, b4]
  have n1 : ∀ s, fEq true (intsD best) (intsD best) s = .ok (.d (.bl false)) s := fun s => by rw [fEq_ints]; simp
  have f0 := fun s => full_eq blank (ws11 rim fs) s r3 r48 g0
  rw [hbest] at f0
  have f1 := fun s => full_eq best (ws11 rim fs) s q3 q48 g2
  rw [b5] at f1
  have f2 := fun s => comes_eq blank (ws11 rim fs) s r3 r48 g0
  rw [cB] at f2
  have f3 := fun s => gives_eq best (ws11 rim fs) s q3 q48 g2
  rw [b1] at f3
  have f4 := fun s => gives_eq rim (ws11 rim fs) s u3 u48 g1
  rw [b2] at f4
  simp only [intsD] at f0 f1 f2 f3 f4 w1 w2 n1
  simp [f0, f1, f2, f3, f4, w1, w2, n1, hL2, wipeR, -rng1_eq]
  rw [feet_D, lcM_fn' (v := fun f => .tup ((motV best f.1 f.2).map .int))]
  rotate_left
  · intro f hf
    exact ⟨_, rfl, by simp [hmot f _ hf best q3 q48]⟩
  simp [hL2, wipeR, -rng1_eq]
  rw [feet_D, lcM_fn' (v := fun f => .tup ((motV rim f.1 f.2).map .int))]
  rotate_left
  · intro f hf
    exact ⟨_, rfl, by simp [hmot f _ hf rim u3 u48]⟩
  have e7 : fs.map (fun f : Foot => D.tup ((motV best f.1 f.2).map .int)) = fs.map (fun f : Foot => D.tup ((motV rim f.1 f.2).map .int)) := by
    apply List.map_congr_left
    intro f hf
    have hm : motV best f.1 f.2 = motV rim f.1 f.2 := by
      unfold motV
      rw [lb, ← hql]
      apply List.map_congr_left
      intro i hi
      exact (gives11 best rim fs).mp gF f hf i (List.mem_range.mp hi)
    rw [hm]
  rw [e7]
  have n2 : ∀ s, fEq true (.d (.lst (fs.map (fun f : Foot => D.tup ((motV rim f.1 f.2).map .int))))) (.d (.lst (fs.map (fun f : Foot => D.tup ((motV rim f.1 f.2).map .int))))) s = .ok (.d (.bl (!true))) s := fun s =>
    fEq_refl true _ s (by rw [plain_lst, plains_iff]; intro d hd; obtain ⟨f, _, rfl⟩ := List.mem_map.mp hd; simp) (by
      rw [dep_lst]
      have : D.deps (fs.map (fun f : Foot => D.tup ((motV rim f.1 f.2).map .int))) ≤ 1 := deps_le.mpr fun d hd => by
        obtain ⟨f, _, rfl⟩ := List.mem_map.mp hd
        rw [dep_tup, deps_ints]
        exact Nat.le_refl _
      omega)
  have hL4 : (zipD (rim.map D.int) (best.map D.int)).length ≤ 16777216 := by simp [zipD]; omega
  have hl4 : rim.length = best.length := by omega
  simp [n2, hL4, hl4, wipeR, -rng1_eq]
  rw [zipD_ints]
  refine wS_use (lcM_gen (g := fun p : Int × Int => W.d (.tup [.int p.1, .int p.2])) D.int (fun p y => p.1 ≤ y ∧ y ≤ p.2) (BS []) (l := rim.zip best) (fun p hp s hs => ?_) bs) ?_
  · obtain ⟨b, rfl⟩ := hs
    obtain ⟨i, hi⟩ := List.mem_iff_getElem?.mp hp
    obtain ⟨i1, i2⟩ := List.getElem?_zip_eq_some.mp hi
    have hil : i < rim.length := (List.getElem?_eq_some_iff.mp i1).1
    have k1 := lF.2 i hil
    have k2 := hqc i (by omega)
    have k3 : gt best i ≤ gt blank i := ((wthB_iff lb).mp b4).2 i (by omega)
    have z1 : gt rim i = p.1 := by simp [gt, List.getD_eq_getElem?_getD, i1]
    have z2 : gt best i = p.2 := by simp [gt, List.getD_eq_getElem?_getD, i2]
    refine ⟨_, by simp; rfl, rfl, ?_⟩
    simp
    refine wE_use (pull_wp _ _ _ (by omega) (by omega)) ?_
    rintro _ _ ⟨y, b, rfl, rfl, h2, h3⟩
    simp [wipeR, -rng1_eq]
    and_intros <;> first | omega | exact bs
  rintro _ _ ⟨btw, rfl, hbl, hbR, b, rfl⟩
  have hbl : btw.length = rim.length := by rw [hbl, List.length_zip]; omega
  have bt1 : LeR rim btw := ⟨hbl.symm, fun i hi => by
    have := (hbR i (by rw [List.length_zip]; omega) (by omega)).1
    simpa [gt, List.getD_eq_getElem?_getD, hi, show i < btw.length by omega] using this⟩
  have bt2 : LeR btw best := ⟨by omega, fun i hi => by
    have := (hbR i (by rw [List.length_zip]; omega) hi).2
    simpa [gt, List.getD_eq_getElem?_getD, hi, show i < best.length by omega] using this⟩
  have pT : 0 < btw.length := by omega
  have gT : Gives btw (ws11 rim fs) := gives_split.mpr ⟨lows_mono bt1 p0 hfeet (gives_split.mp gR).1, highs_mono bt2 pT hfeet (gives_split.mp gF).2⟩
  have g5 : GoodWs btw.length (ws11 rim fs) := good11 hfs (by omega) (by omega)
  have f5 := fun s => gives_eq btw (ws11 rim fs) s (by omega) (by omega) g5
  rw [(givesV_iff pT hfeet).mpr gT] at f5
  have f6 := fun s => full_eq btw (ws11 rim fs) s (by omega) (by omega) g5
  rw [full_id pT hfeet (gives_split.mp gT).2] at f6
  have n3 : ∀ s, fEq true (intsD btw) (intsD btw) s = .ok (.d (.bl false)) s := fun s => by rw [fEq_ints]; simp
  simp only [intsD] at f5 f6 n3
  simp [f5, f6, n3, wipeR, -rng1_eq]
  refine wS_use (cutDown_wp _ _ blank (by omega)) ?_
  rintro _ _ ⟨other, rfl, hol, hoc, b, rfl⟩
  have hole := cut_le hol hoc
  simp [wipeR, -rng1_eq]
  rw [feet_D]
  refine wS_mid (I11 ns (.w (intsD blank)) (.w (intsD rim)) (.w (.d (.lst (fs.map pairFD)))) (.w (.d (.lst (fs.map footF)))) (.w (.d (.lst ((ws11 rim fs).map Wish.d)))) (.w (intsD best)) (.w (intsD btw)) other rim [b.cell] fs) ?_ ?_
  · refine forE_at (I11 ns _ _ _ _ _ _ _ other rim [b.cell]) ⟨⟨_, _, _, _, _, _, _, rfl⟩, rfl⟩ ?_ fun ρ s h => h
    rintro pre f r hz ρ s ⟨⟨x11, x12, x13, x14, x15, x16, x17, rfl⟩, rfl⟩
    have hf : f ∈ fs := by rw [hz]; simp
    refine ⟨_, rfl, ?_⟩
    have hml : (motV other f.1 f.2).length = (motV rim f.1 f.2).length := by simp [motV]; omega
    have hL5 : (zipD ((motV other f.1 f.2).map D.int) ((motV rim f.1 f.2).map D.int)).length ≤ 16777216 := by simp [zipD, motV]; omega
    simp [hmot f _ hf other (by omega) (by omega), hmot f _ hf rim u3 u48, hml, hL5, wipeR, -rng1_eq]
    rw [zipD_ints, lcM_fn' (v := fun p : Int × Int => .bl (decide (p.2 < p.1)))]
    rotate_left
    · intro p _
      exact ⟨_, by simp; rfl, by simp⟩
    have ha := fAny_bls (((motV other f.1 f.2).zip (motV rim f.1 f.2)).map fun p : Int × Int => decide (p.2 < p.1)) [b.cell]
    rw [List.map_map, List.any_map] at ha
    have e8 : ((motV other f.1 f.2).zip (motV rim f.1 f.2)).map (D.bl ∘ fun p : Int × Int => decide (p.2 < p.1)) = ((motV other f.1 f.2).zip (motV rim f.1 f.2)).map fun p : Int × Int => D.bl (decide (p.2 < p.1)) := rfl
    have e9 : (((motV other f.1 f.2).zip (motV rim f.1 f.2)).any (id ∘ fun p : Int × Int => decide (p.2 < p.1))) = aboveF other rim f := rfl
    rw [e8, e9] at ha
    cases hb : aboveF other rim f with
    | true =>
      rw [hb] at ha
      have hpa : (pre ++ [f]).any (aboveF other rim) = true := by simp [hb]
      simp [ha]
      unfold I11
      rw [hpa]
      exact ⟨⟨_, _, _, _, _, _, _, rfl⟩, rfl⟩
    | false =>
      rw [hb] at ha
      have hpa : (pre ++ [f]).any (aboveF other rim) = pre.any (aboveF other rim) := by simp [hb]
      simp [ha]
      unfold I11
      rw [hpa]
      exact ⟨⟨_, _, _, _, _, _, _, rfl⟩, rfl⟩
  · rintro ρ s ⟨⟨x11, x12, x13, x14, x15, x16, x17, rfl⟩, rfl⟩
    have w3 : ∀ s, f_within [intsD other, intsD best] s = .ok (.w (.d (.bl (wthB other best)))) s := fun s => by rw [within_eq other best s (by omega) (by omega) q3 q48, if_pos (by omega)]
    have hfin : wthB other best = !(fs.any (aboveF other rim)) := by
      rw [Bool.eq_iff_iff, wthB_iff (by omega), Bool.not_eq_true', List.any_eq_false]
      rw [← hbest, le_full_iff pB hfeet, highs11]
      constructor
      · rintro ⟨_, k⟩ f hf hab
        rw [(above_iff (by omega)).mpr (k f hf)] at hab
        cases hab
      · intro k
        refine ⟨hole, fun f hf => (above_iff (by omega)).mp ?_⟩
        exact Bool.eq_false_iff.mpr (k f hf)
    simp only [intsD] at w3
    simp [w3, hfin]
end TG

set_option linter.all false
set_option maxRecDepth 100000
namespace TG
open PySem L2
/-! ### wishes drawn -/
def RowOk (row : List (Option (Int × Int))) : Prop := ∀ q, some q ∈ row → q.1 ≤ q.2
theorem RowOk.app {row : List (Option (Int × Int))} {o : Option (Int × Int)} (h : RowOk row) (ho : ∀ q, o = some q → q.1 ≤ q.2) : RowOk (row ++ [o]) := fun q hq => by
  rcases List.mem_append.mp hq with hq | hq
  · exact h q hq
  · exact ho q (List.mem_singleton.mp hq).symm
def I_wish (rim : List Int) (l : List Int) (m a o : Int) (t : S) (pre : List Nat) (ρ : Rho) (s : S) : Prop := (∃ (row : List (Option (Int × Int))) (x7 x8 x9 : EV), (ρ = [.w (.r 0), .w (intsD rim), .w (.d (.tup (l.map .int))), .w (.d (.int m)), .w (.d (.int a)), .w (.d (.int o)), .own (wD (row.map rowD)), x7, x8, x9] ∧ row.length = pre.length ∧ RowOk row)) ∧ BS t s
theorem wish_wp (b : Bag) (t : S) (rim : List Int) (h : 0 < rim.length) (h' : rim.length ≤ 1000) : wE nE (fun v s => ∃ w : Wish, v = .w (.d w.dL) ∧ GoodW rim.length w ∧ BS t s) (f_v_law_wish [.r 0, intsD rim] (b.cell :: t)) := by
  have hr := fun s => rng1_nat rim.length s (by omega)
  rw [f_v_law_wish]
  refine wE_fn (by rfl) ?_
  simp [b_v_law_wish]
  refine wS_use (pair_wp _ _) ?_
  rintro _ _ ⟨l, m, b, rfl, rfl, hf⟩
  simp [wipeR, -rng1_eq]
  refine wS_use (pull_wp _ _ _ (by decide) (by decide)) ?_
  rintro _ _ ⟨a0, b, rfl, rfl, h0, h1⟩
  simp [wipeR, -rng1_eq]
  refine wS_use (pull_wp _ _ _ (by decide) (by decide)) ?_
  rintro _ _ ⟨o0, b, rfl, rfl, h2, h3⟩
  simp [wipeR, -rng1_eq]
  simp [hr, wipeR, -rng1_eq]
  refine wS_mid (I_wish rim l m (a0 - 8) (1 + o0) t (List.range rim.length)) ?_ ?_
  · refine forE_at (g := fun i : Nat => W.d (.int i)) (I_wish rim l m (a0 - 8) (1 + o0) t) ⟨⟨[], _, _, _, rfl, rfl, fun _ hq => by cases hq⟩, bs⟩ ?_ fun ρ s h => h
    rintro pre i rr hz ρ s ⟨⟨row, x7, x8, x9, rfl, hlen, hok⟩, b, rfl⟩
    have hp : pre.length < rim.length := by
      have h3 := congrArg List.length hz
      rw [List.length_append, List.length_cons, List.length_range] at h3
      omega
    refine ⟨_, rfl, ?_⟩
    have hri := fun s => ride_eq rim l m (a0 - 8 + i) s h hf.l1 (by have := hf.l9; omega)
    have hL : row.length < 16777216 := by omega
    simp [hri, wipeR, -rng1_eq]
    refine wS_use (pull_wp _ _ _ (by decide) (by decide)) ?_
    rintro _ _ ⟨p, b, rfl, rfl, p0, p1⟩
    simp [wipeR, -rng1_eq]
    refine wS_use (pull_wp _ _ _ (by decide) (by decide)) ?_
    rintro _ _ ⟨q, b, rfl, rfl, q0, q1⟩
    simp [wipeR, -rng1_eq]
    refine wS_use (pull_wp _ _ _ (by decide) (by decide)) ?_
    rintro _ _ ⟨z, b, rfl, rfl, z0, z1⟩
    simp [wipeR, -rng1_eq]
    have hsl : ∃ u v : Int, 0 ≤ u ∧ 0 ≤ v ∧ atI (wD [.tup [.int 0, .int 0], .tup [.int 0, .int 0], .tup [.int p, .int q]]) z = some (.d (.tup [.int u, .int v])) := by
      rcases third z z0 z1 with rfl | rfl | rfl
      · exact ⟨0, 0, by decide, by decide, rfl⟩
      · exact ⟨0, 0, by decide, by decide, rfl⟩
      · exact ⟨p, q, p0, q0, rfl⟩
    obtain ⟨u, v, hu, hv, hat⟩ := hsl
    simp at hat
    simp [hat, wipeR, -rng1_eq]
    refine wS_use (pull_wp _ _ _ (by omega) (by omega)) ?_
    rintro _ _ ⟨c, b, rfl, rfl, c0, c1⟩
    simp [wipeR, -rng1_eq]
    by_cases hc : 1 < c
    · simp [hc, hL, wipeR, -rng1_eq]
      refine ⟨⟨row ++ [none], _, _, _, ⟨by simp [wD, rowD]; and_intros <;> rfl, by simp [hlen], hok.app fun q hq => by cases hq⟩⟩, bs⟩
    · simp [hc, hL, wipeR, -rng1_eq]
      refine ⟨⟨row ++ [some (liftV rim l m (a0 - 8 + i) - u, liftV rim l m (a0 - 8 + i) + v)], _, _, _, ⟨by simp [wD, rowD]; and_intros <;> rfl, by simp [hlen], hok.app fun q hq => by cases hq; show _ - _ ≤ _ + _; omega⟩⟩, bs⟩
  · rintro ρ s ⟨⟨row, x7, x8, x9, rfl, hlen, hok⟩, b, rfl⟩
    rw [List.length_range] at hlen
    have hL : row.length ≤ 16777216 := by omega
    simp [hL, wipeR, -rng1_eq]
    exact ⟨⟨l, m, a0 - 8, row⟩, rfl, ⟨hf, hlen, hok⟩, bs⟩
theorem RowOk.sub {row row' : List (Option (Int × Int))} (h : RowOk row) (hs : ∀ o ∈ row', o ∈ row) : RowOk row' := fun q hq => h q (hs _ hq)
theorem mem_cut {α : Type} {l : List α} {k : Nat} {z o : α} (h : o ∈ l.take k ++ [z] ++ l.drop (k + 1)) : o = z ∨ o ∈ l := by
  rcases List.mem_append.mp h with h | h
  · rcases List.mem_append.mp h with h | h
    · exact .inr (List.mem_of_mem_take h)
    · exact .inl (List.mem_singleton.mp h)
  · exact .inr (List.mem_of_mem_drop h)
theorem len_cut {α : Type} {l : List α} {k : Nat} {z : α} (h : k < l.length) : (l.take k ++ [z] ++ l.drop (k + 1)).length = l.length := by
  simp
  omega
theorem bent_wp (b : Bag) (t : S) (n : Nat) (w : Wish) (g : GoodW n w) (h : 0 < n) (h' : n ≤ 1000) : wE nE (fun v s => ∃ w' : Wish, v = .w (.d w'.dL) ∧ GoodW n w' ∧ BS t s) (f_v_law_bent_wish [.r 0, .d w.dL] (b.cell :: t)) := by
  have hlen := g.len
  rw [f_v_law_bent_wish]
  refine wE_fn (by rfl) ?_
  simp [b_v_law_bent_wish, Wish.dL, wipeR, -rng1_eq]
  refine wS_use (pull_wp _ _ _ (by omega) (by omega)) ?_
  rintro _ _ ⟨k, b, rfl, rfl, k0, k1⟩
  simp [wipeR, -rng1_eq]
  refine wS_use (pull_wp _ _ _ (by decide) (by decide)) ?_
  rintro _ _ ⟨y, b, rfl, rfl, y0, y1⟩
  simp [wipeR, -rng1_eq]
  obtain ⟨kn, rfl⟩ := Int.eq_ofNat_of_zero_le k0
  have hk : kn < w.row.length := by omega
  have ha := row_at w.row kn hk
  have e1 : cut (w.row.map rowD) none (some (kn : Int)) = (w.row.take kn).map rowD := by rw [cut_take _ _ (by simp; omega), List.map_take]
  have e2 : cut (w.row.map rowD) (some ((kn : Int) + 1)) none = (w.row.drop (kn + 1)).map rowD := by
    have := cut_drop (w.row.map rowD) (kn + 1) (by simp; omega)
    rw [List.map_drop]
    simpa using this
  have e3 : cut (w.row.map rowD) (some 1) none = (w.row.drop 1).map rowD := by
    have := cut_drop (w.row.map rowD) 1 (by simp; omega)
    rw [List.map_drop]
    simpa using this
  have e4 : cut (w.row.map rowD) none (some 1) = (w.row.take 1).map rowD := by
    have := cut_take (w.row.map rowD) 1 (by simp; omega)
    rw [List.map_take]
    simpa using this
  by_cases c0 : y = 0
  · simp [c0, wipeR, -rng1_eq]
    exact ⟨⟨w.l, w.m, w.a + 1, w.row⟩, ⟨rfl, rfl, rfl, rfl⟩, ⟨g.f, g.len, g.ok⟩, bs⟩
  cases e : w.row.getD kn none with
  | none =>
    rw [e] at ha
    simp at ha
    simp [c0, ha, rowD, wipeR, -rng1_eq]
    exact ⟨⟨w.l, w.m, w.a + 1, w.row⟩, ⟨rfl, rfl, rfl, rfl⟩, ⟨g.f, g.len, g.ok⟩, bs⟩
  | some q =>
    have hq : some q ∈ w.row := by
      rw [List.getD_eq_getElem?_getD, List.getElem?_eq_getElem hk, Option.getD_some] at e
      rw [← e]
      exact List.getElem_mem hk
    have hq2 := g.ok q hq
    rw [e] at ha
    simp [rowD] at ha
    have l1 : (w.row.take kn).length + 1 ≤ 16777216 := by rw [List.length_take]; omega
    have l2 : (w.row.take kn).length + 1 + (w.row.drop (kn + 1)).length ≤ 16777216 := by rw [List.length_take, List.length_drop]; omega
    have l3 : (w.row.drop 1).length + (w.row.take 1).length ≤ 16777216 := by rw [List.length_take, List.length_drop]; omega
    have l4 : min kn w.row.length + 1 ≤ 16777216 := by omega
    have l5 : min kn w.row.length + 1 + (w.row.length - (kn + 1)) ≤ 16777216 := by omega
    have l6 : w.row.length - 1 + min 1 w.row.length ≤ 16777216 := by omega
    have put : ∀ z : Int × Int, z.1 ≤ z.2 → GoodW n ⟨w.l, w.m, w.a, w.row.take kn ++ [some z] ++ w.row.drop (kn + 1)⟩ := fun z hz => ⟨g.f, by rw [← g.len]; exact len_cut hk, fun q hq => by
      rcases mem_cut hq with e | e
      · cases e; exact hz
      · exact g.ok q e⟩
    by_cases c1 : y = 1
    · simp [c0, c1, ha, rowD, e1, e2, l4, l5, -List.map_take, -List.map_drop, wipeR, -rng1_eq]
      refine ⟨⟨w.l, w.m, w.a, w.row.take kn ++ [some (q.1 + 1, q.2 + 2)] ++ w.row.drop (kn + 1)⟩, ⟨rfl, rfl, rfl, ?_⟩, put (q.1 + 1, q.2 + 2) (by show q.1 + 1 ≤ q.2 + 2; omega), bs⟩
      simp [rowD]
    by_cases c2 : y = 2
    · simp [c0, c1, c2, ha, rowD, e1, e2, l4, l5, -List.map_take, -List.map_drop, wipeR, -rng1_eq]
      refine ⟨⟨w.l, w.m, w.a, w.row.take kn ++ [some (q.1 - 4, if q.2 - 3 > q.1 - 4 then q.2 - 3 else q.1 - 4)] ++ w.row.drop (kn + 1)⟩, ⟨rfl, rfl, rfl, ?_⟩, put (q.1 - 4, if q.2 - 3 > q.1 - 4 then q.2 - 3 else q.1 - 4) (by show q.1 - 4 ≤ ite _ _ _; split <;> omega), bs⟩
      simp [rowD]
    · simp [c0, c1, c2, ha, rowD, e3, e4, l6, -List.map_take, -List.map_drop, wipeR, -rng1_eq]
      refine ⟨⟨w.l, w.m, w.a, w.row.drop 1 ++ w.row.take 1⟩, ⟨rfl, rfl, rfl, ?_⟩, ⟨g.f, ?_, ?_⟩, bs⟩
      · simp
      · show (w.row.drop 1 ++ w.row.take 1).length = n
        rw [List.length_append, List.length_drop, List.length_take]
        omega
      · intro q hq
        rcases List.mem_append.mp hq with e | e
        · exact g.ok q (List.mem_of_mem_drop e)
        · exact g.ok q (List.mem_of_mem_take e)
theorem wishL_wp (n : Nat) (rim : List Int) (h : 0 < rim.length) (h' : rim.length ≤ 1000) (tg : Tgt) (ρ : Rho) (b : Bag) (t : S) (hg : ∀ i : Nat, ∃ ρ1, tg (.d (.int i)) ρ = some ρ1 ∧ ρ1[0]? = some (.w (.r 0)) ∧ ρ1[3]? = some (.w (intsD rim))) :
    wE nE (fun ws s => ∃ z : List Wish, ws = wD (z.map Wish.dL) ∧ z.length = n ∧ (∀ w ∈ z, GoodW rim.length w) ∧ BS t s) (lcM tg eYes (eCall f_v_law_wish (eCons (eVar 0) (eCons (eVar 3) eNil))) ρ ((List.range n).map fun i : Nat => W.d (.int i)) (b.cell :: t)) := by
  refine wE_imp (lcM_gen (g := fun i : Nat => W.d (.int i)) Wish.dL (fun _ w => GoodW rim.length w) (BS t) (l := List.range n) (fun i _ s hs => ?_) bs) ?_
  · obtain ⟨b, rfl⟩ := hs
    obtain ⟨ρ1, e1, e2, e3⟩ := hg i
    refine ⟨ρ1, e1, rfl, ?_⟩
    have hk : ∀ s : S, eCall f_v_law_wish (eCons (eVar 0) (eCons (eVar 3) eNil)) ρ1 s = (f_v_law_wish [.r 0, intsD rim] s).bind frzV := by intro s; simp [e2, e3]
    rw [hk]
    refine wE_use (wish_wp _ _ rim h h') ?_
    rintro _ _ ⟨w, rfl, hw, hs⟩
    exact .ok ⟨w, rfl, hw, hs⟩
  · rintro ws s ⟨z, rfl, hl, hR, hs⟩
    simp at hl
    refine ⟨z, rfl, hl, fun f hf => ?_, hs⟩
    obtain ⟨i, hi, rfl⟩ := List.mem_iff_getElem.mp hf
    exact hR i (by simp; omega) hi
theorem wishes_wp (b : Bag) (t : S) (blank : List Int) (most : Int) (h : 0 < blank.length) (h' : blank.length ≤ 1000) (m0 : 0 ≤ most) (m1 : most ≤ 1000) :
    wE nE (fun v s => ∃ ws : List Wish, v = .own (wD (ws.map Wish.dL)) ∧ (∀ w ∈ ws, GoodW blank.length w) ∧ (ws.length : Int) ≤ most ∧ BS t s) (f_v_law_wishes [.r 0, intsD blank, .d (.int most)] (b.cell :: t)) := by
  rw [f_v_law_wishes]
  refine wE_fn (by rfl) ?_
  simp [b_v_law_wishes, wipeR, -rng1_eq]
  refine wS_use (cutDown_wp _ _ blank h') ?_
  rintro _ _ ⟨rim, rfl, hql, hqc, b, rfl⟩
  simp [wipeR, -rng1_eq]
  refine wS_use (pull_wp _ _ _ (by omega) (by omega)) ?_
  rintro _ _ ⟨k, b, rfl, rfl, k0, k1⟩
  simp [wipeR, -rng1_eq]
  obtain ⟨kn, rfl⟩ := Int.eq_ofNat_of_zero_le k0
  have hr1 := fun s => rng1_nat kn s (by omega)
  have hL1 : kn ≤ 16777216 := by omega
  simp [hr1, hL1, wipeR, -rng1_eq]
  refine wS_use (wishL_wp _ rim (by omega) (by omega) _ _ _ _ fun i => ⟨_, rfl, rfl, rfl⟩) ?_
  rintro _ _ ⟨ws, rfl, hwl, hws, b, rfl⟩
  rw [hql] at hws
  by_cases c : 0 < ws.length
  · have c2 : (0 : Int) < ws.length := by omega
    simp [c, c2, wipeR, -rng1_eq]
    refine wS_use (pull_wp _ _ _ (by decide) (by decide)) ?_
    rintro _ _ ⟨y, b, rfl, rfl, y0, y1⟩
    simp [wipeR, -rng1_eq]
    by_cases cy : y = 0
    · simp [cy, wipeR, -rng1_eq]
      refine wS_use (pull_wp _ _ _ (by omega) (by omega)) ?_
      rintro _ _ ⟨a, b, rfl, rfl, a0, a1⟩
      simp [wipeR, -rng1_eq]
      obtain ⟨an, rfl⟩ := Int.eq_ofNat_of_zero_le a0
      have ha : an < ws.length := by omega
      have ha2 : atI (wD (ws.map Wish.dL)) (an : Int) = some (.d (ws[an]).dL) := by simp [wD, ha]
      simp at ha2
      simp [ha2, wipeR, -rng1_eq]
      refine wS_use (bent_wp _ _ _ _ (hws _ (List.getElem_mem ha)) h h') ?_
      rintro _ _ ⟨w', rfl, hw', b, rfl⟩
      simp [ha, wipeR, -rng1_eq]
      refine ⟨ws.set an w', by simp [wD], ?_, by rw [List.length_set]; omega, bs⟩
      intro w hw
      rcases List.mem_or_eq_of_mem_set hw with e | e
      · exact hws w e
      · rw [e]; exact hw'
    · simp [cy, wipeR, -rng1_eq]
      exact ⟨ws, rfl, hws, by omega, bs⟩
  · have c2 : ¬ (0 : Int) < ws.length := by omega
    simp [c, c2, wipeR, -rng1_eq]
    exact ⟨ws, rfl, hws, by omega, bs⟩
end TG

set_option linter.all false
set_option maxRecDepth 100000
namespace TG
open PySem L2
/-! ### wishes drawn from a cam: it gives them -/
def GivesW (r : List Int) (w : Wish) : Prop := ∀ q ∈ askedL w.row, q.2.1 ≤ liftV r w.l w.m (w.a + q.1) ∧ liftV r w.l w.m (w.a + q.1) ≤ q.2.2
def RowNear (rim l : List Int) (m a : Int) (row : List (Option (Int × Int))) : Prop := ∀ (p : Nat) (q : Int × Int), row[p]? = some (some q) → q.1 ≤ liftV rim l m (a + p) ∧ liftV rim l m (a + p) ≤ q.2 ∧ liftV rim l m (a + p) - 2 ≤ q.1
def NearW (r : List Int) (w : Wish) : Prop := ∀ q ∈ askedL w.row, liftV r w.l w.m (w.a + q.1) - 2 ≤ q.2.1
theorem RowNear.ok {rim l : List Int} {m a : Int} {row : List (Option (Int × Int))} (h : RowNear rim l m a row) : ∀ q, some q ∈ row → q.1 ≤ q.2 := fun q hq => by
  obtain ⟨p, hp⟩ := List.mem_iff_getElem?.mp hq
  have := h p q hp
  omega
theorem RowNear.gives {rim l : List Int} {m a : Int} {row : List (Option (Int × Int))} (h : RowNear rim l m a row) : GivesW rim ⟨l, m, a, row⟩ := fun q hq => by
  have := h q.1 q.2 (askedL_mem.mp hq)
  exact ⟨this.1, this.2.1⟩
theorem RowNear.near {rim l : List Int} {m a : Int} {row : List (Option (Int × Int))} (h : RowNear rim l m a row) : NearW rim ⟨l, m, a, row⟩ := fun q hq => (h q.1 q.2 (askedL_mem.mp hq)).2.2
theorem RowNear.app {rim l : List Int} {m a : Int} {row : List (Option (Int × Int))} {o : Option (Int × Int)} (h : RowNear rim l m a row) (ho : ∀ q, o = some q → q.1 ≤ liftV rim l m (a + row.length) ∧ liftV rim l m (a + row.length) ≤ q.2 ∧ liftV rim l m (a + row.length) - 2 ≤ q.1) : RowNear rim l m a (row ++ [o]) := fun p q hp => by
  by_cases c : p < row.length
  · rw [List.getElem?_append_left c] at hp
    exact h p q hp
  · rw [List.getElem?_append_right (by omega)] at hp
    have hz : p - row.length = 0 := by
      have := (List.getElem?_eq_some_iff.mp hp).1
      simp at this
      omega
    rw [hz] at hp
    have e : p = row.length := by omega
    rw [e]
    exact ho q (by simpa using hp)
def I_wish2 (rim : List Int) (l : List Int) (m a o : Int) (t : S) (pre : List Nat) (ρ : Rho) (s : S) : Prop := (∃ (row : List (Option (Int × Int))) (x7 x8 x9 : EV), (ρ = [.w (.r 0), .w (intsD rim), .w (.d (.tup (l.map .int))), .w (.d (.int m)), .w (.d (.int a)), .w (.d (.int o)), .own (wD (row.map rowD)), x7, x8, x9] ∧ row.length = pre.length ∧ RowNear rim l m a row)) ∧ BS t s
theorem wish_wp2 (b : Bag) (t : S) (rim : List Int) (h : 0 < rim.length) (h' : rim.length ≤ 1000) : wE nE (fun v s => ∃ w : Wish, v = .w (.d w.dL) ∧ GoodW rim.length w ∧ GivesW rim w ∧ NearW rim w ∧ BS t s) (f_v_law_wish [.r 0, intsD rim] (b.cell :: t)) := by
  have hr := fun s => rng1_nat rim.length s (by omega)
  rw [f_v_law_wish]
  refine wE_fn (by rfl) ?_
  simp [b_v_law_wish]
  refine wS_use (pair_wp _ _) ?_
  rintro _ _ ⟨l, m, b, rfl, rfl, hf⟩
  simp [wipeR, -rng1_eq]
  refine wS_use (pull_wp _ _ _ (by decide) (by decide)) ?_
  rintro _ _ ⟨a0, b, rfl, rfl, h0, h1⟩
  simp [wipeR, -rng1_eq]
  refine wS_use (pull_wp _ _ _ (by decide) (by decide)) ?_
  rintro _ _ ⟨o0, b, rfl, rfl, h2, h3⟩
  simp [wipeR, -rng1_eq]
  simp [hr, wipeR, -rng1_eq]
  refine wS_mid (I_wish2 rim l m (a0 - 8) (1 + o0) t (List.range rim.length)) ?_ ?_
  · refine forE_at (g := fun i : Nat => W.d (.int i)) (I_wish2 rim l m (a0 - 8) (1 + o0) t) ⟨⟨[], _, _, _, rfl, rfl, fun _ _ hq => by simp at hq⟩, bs⟩ ?_ fun ρ s h => h
    rintro pre i rr hz ρ s ⟨⟨row, x7, x8, x9, rfl, hlen, hok⟩, b, rfl⟩
    have hp : pre.length < rim.length := by
      have h3 := congrArg List.length hz
      rw [List.length_append, List.length_cons, List.length_range] at h3
      omega
    have hpi : pre.length = i := by
      have h4 := congrArg (fun l => l[pre.length]?) hz
      simp [hp] at h4
      exact h4
    refine ⟨_, rfl, ?_⟩
    have hri := fun s => ride_eq rim l m (a0 - 8 + i) s h hf.l1 (by have := hf.l9; omega)
    have hL : row.length < 16777216 := by omega
    simp [hri, wipeR, -rng1_eq]
    refine wS_use (pull_wp _ _ _ (by decide) (by decide)) ?_
    rintro _ _ ⟨p, b, rfl, rfl, p0, p1⟩
    simp [wipeR, -rng1_eq]
    refine wS_use (pull_wp _ _ _ (by decide) (by decide)) ?_
    rintro _ _ ⟨q, b, rfl, rfl, q0, q1⟩
    simp [wipeR, -rng1_eq]
    refine wS_use (pull_wp _ _ _ (by decide) (by decide)) ?_
    rintro _ _ ⟨z, b, rfl, rfl, z0, z1⟩
    simp [wipeR, -rng1_eq]
    have hsl : ∃ u v : Int, 0 ≤ u ∧ 0 ≤ v ∧ u ≤ 2 ∧ atI (wD [.tup [.int 0, .int 0], .tup [.int 0, .int 0], .tup [.int p, .int q]]) z = some (.d (.tup [.int u, .int v])) := by
      rcases third z z0 z1 with rfl | rfl | rfl
      · exact ⟨0, 0, by decide, by decide, by decide, rfl⟩
      · exact ⟨0, 0, by decide, by decide, by decide, rfl⟩
      · exact ⟨p, q, p0, q0, by omega, rfl⟩
    obtain ⟨u, v, hu, hv, hu2, hat⟩ := hsl
    simp at hat
    simp [hat, wipeR, -rng1_eq]
    refine wS_use (pull_wp _ _ _ (by omega) (by omega)) ?_
    rintro _ _ ⟨c, b, rfl, rfl, c0, c1⟩
    simp [wipeR, -rng1_eq]
    by_cases hc : 1 < c
    · simp [hc, hL, wipeR, -rng1_eq]
      refine ⟨⟨row ++ [none], _, _, _, ⟨by simp [wD, rowD]; and_intros <;> rfl, by simp [hlen], hok.app (fun q hq => by cases hq)⟩⟩, bs⟩
    · simp [hc, hL, wipeR, -rng1_eq]
      refine ⟨⟨row ++ [some (liftV rim l m (a0 - 8 + i) - u, liftV rim l m (a0 - 8 + i) + v)], _, _, _, ⟨by simp [wD, rowD]; and_intros <;> rfl, by simp [hlen], hok.app (fun q hq => by cases hq; rw [hlen, hpi]; exact ⟨by show _ - _ ≤ _; omega, by show _ ≤ _ + _; omega, by show _ ≤ _ - _; omega⟩)⟩⟩, bs⟩
  · rintro ρ s ⟨⟨row, x7, x8, x9, rfl, hlen, hok⟩, b, rfl⟩
    rw [List.length_range] at hlen
    have hL : row.length ≤ 16777216 := by omega
    simp [hL, wipeR, -rng1_eq]
    exact ⟨⟨l, m, a0 - 8, row⟩, rfl, ⟨hf, hlen, hok.ok⟩, hok.gives, hok.near, bs⟩
theorem wishL_wp2 (n : Nat) (rim : List Int) (h : 0 < rim.length) (h' : rim.length ≤ 1000) (k j : Nat) (tg : Tgt) (ρ : Rho) (b : Bag) (t : S) (hg : ∀ i : Nat, ∃ ρ1, tg (.d (.int i)) ρ = some ρ1 ∧ ρ1[k]? = some (.w (.r 0)) ∧ ρ1[j]? = some (.w (intsD rim))) :
    wE nE (fun ws s => ∃ z : List Wish, ws = wD (z.map Wish.dL) ∧ z.length = n ∧ (∀ w ∈ z, GoodW rim.length w) ∧ Gives rim z ∧ (∀ w ∈ z, NearW rim w) ∧ BS t s) (lcM tg eYes (eCall f_v_law_wish (eCons (eVar k) (eCons (eVar j) eNil))) ρ ((List.range n).map fun i : Nat => W.d (.int i)) (b.cell :: t)) := by
  refine wE_imp (lcM_gen (g := fun i : Nat => W.d (.int i)) Wish.dL (fun _ w => GoodW rim.length w ∧ GivesW rim w ∧ NearW rim w) (BS t) (l := List.range n) (fun i _ s hs => ?_) bs) ?_
  · obtain ⟨b, rfl⟩ := hs
    obtain ⟨ρ1, e1, e2, e3⟩ := hg i
    refine ⟨ρ1, e1, rfl, ?_⟩
    have hk : ∀ s : S, eCall f_v_law_wish (eCons (eVar k) (eCons (eVar j) eNil)) ρ1 s = (f_v_law_wish [.r 0, intsD rim] s).bind frzV := by intro s; simp [e2, e3]
    rw [hk]
    refine wE_use (wish_wp2 _ _ rim h h') ?_
    rintro _ _ ⟨w, rfl, hw, hg, hn, hs⟩
    exact .ok ⟨w, rfl, ⟨hw, hg, hn⟩, hs⟩
  · rintro ws s ⟨z, rfl, hl, hR, hs⟩
    simp at hl
    have hR2 : ∀ w ∈ z, GoodW rim.length w ∧ GivesW rim w ∧ NearW rim w := fun f hf => by
      obtain ⟨i, hi, rfl⟩ := List.mem_iff_getElem.mp hf
      exact hR i (by simp; omega) hi
    exact ⟨z, rfl, hl, fun w hw => (hR2 w hw).1, fun w hw => (hR2 w hw).2.1, fun w hw => (hR2 w hw).2.2, hs⟩
end TG

set_option linter.all false
set_option maxRecDepth 100000
namespace TG
open PySem L2
theorem fMulL_eq (l : List D) (k : Int) (s : S) : fMulL (.d (.lst l)) (.d (.int k)) s = if 2 ≤ k ∧ k ≤ 1000 ∧ l.length ≤ 1000 then .ok (.d (.lst (List.replicate k.toNat l).flatten)) s else .no := (rfl)
theorem cut_wD (l : List D) (i j : Option Int) : cut (wD l) i j = wD (cut l i j) := by
  unfold cut wD
  rw [List.length_map, ← List.map_drop, ← List.map_take]
theorem fSl_lst (l : List D) (i j : Option Int) (s : S) : fSl (.d (.lst l)) i j s = .ok (.d (.lst (cut l i j))) s := by
  show (match allData (cut (wD l) i j) with | some ds => Res.ok (W.d (.lst ds)) s | none => .no) = _
  rw [cut_wD, allData_wD]
theorem fAdd_lst (x y : List D) (s : S) : fAdd (.d (.lst x)) (.d (.lst y)) s = if x.length + y.length ≤ 16777216 then .ok (.d (.lst (x ++ y))) s else .no := by
  show (if (wD x).length + (wD y).length ≤ 16777216 then (match allData (wD x ++ wD y) with | some ds => Res.ok (W.d (.lst ds)) s | none => .no) else .no) = _
  have e : wD x ++ wD y = wD (x ++ y) := by simp [wD]
  rw [e, allData_wD, wD_len, wD_len]
theorem cut_take' (l : List D) (c : Nat) : cut l none (some (c : Int)) = l.take c := by
  by_cases h : c ≤ l.length
  · exact cut_take l c h
  · have e : HT.sIx l.length l.length (some (c : Int)) = l.length := by
      unfold HT.sIx
      have h0 : ¬ ((c : Int) < 0) := by omega
      simp only [h0, if_false]
      omega
    unfold cut
    rw [e]
    simp [HT.sIx]
    rw [List.take_of_length_le (by omega)]
theorem fIsN_d (d : D) (s : S) : fIsN false (.d d) s = .ok (.d (.bl (noneD d))) s := by cases d <;> rfl
theorem rowD_eqk (o : Option (Int × Int)) : (rowD o).eqk = true ∧ (rowD o).lay ≤ 1 := by
  cases o <;> simp [rowD, D.eqk, D.eqks, D.lay, D.lays]
theorem wish_eqk (w : Wish) : w.d.eqk = true ∧ w.d.lay ≤ 4 := by
  have h1 : D.eqks (w.row.map rowD) = true := eqks_iff.mpr fun x hx => by
    obtain ⟨o, _, rfl⟩ := List.mem_map.mp hx
    exact (rowD_eqk o).1
  have h2 : D.lays (w.row.map rowD) ≤ 1 := lays_le.mpr fun x hx => by
    obtain ⟨o, _, rfl⟩ := List.mem_map.mp hx
    exact (rowD_eqk o).2
  have h3 := eqk_foot w.l w.m
  have h4 := lay_foot w.l w.m
  unfold Wish.d
  constructor
  · simp [D.eqk, D.eqks, h1, h3]
  · simp [D.lay, D.lays, h4]
    omega
theorem wishes_ne (ws : List Wish) (s : S) : fNeF (wishesD ws) (wishesD ws) s = .ok (.d (.bl false)) s := by
  refine fNeF_self s ?_ ?_
  · intro x hx
    obtain ⟨w, _, rfl⟩ := List.mem_map.mp hx
    exact (wish_eqk w).1
  · intro x hx
    obtain ⟨w, _, rfl⟩ := List.mem_map.mp hx
    exact (wish_eqk w).2
theorem GoodWs.feet {n : Nat} {ws : List Wish} (h : GoodWs n ws) : FeetW ws := fun w hw => (h.all w hw).f.l1
theorem gives_givB {n : Nat} {r : List Int} {ws : List Wish} (h : 0 < r.length) (g : GoodWs n ws) : givesV r ws = givB r ws := by
  rw [Bool.eq_iff_iff, givesV_iff h g.feet, givB_iff]
def I09 (ns : List Int) (pre : List Nat) (ρ : Rho) (s : S) : Prop := (∃ x2 x3 x4 x5 x6 x7 x8 x9 x10 x11 x12 : EV, ρ = [.w (.d (.scr (ns.map .int))), .w (.r 0), x2, x3, x4, x5, x6, x7, x8, x9, x10, x11, x12] ∧ (pre ≠ [] → ∃ r : List Int, x3 = .w (intsD r) ∧ 3 ≤ r.length ∧ r.length ≤ 48)) ∧ BS [] s
def M09 (ns : List Int) (w : W) (blank : List Int) (x5 x6 x7 x8 x9 x10 x11 x12 : EV) (ρ : Rho) (s : S) : Prop := (∃ ws : List Wish, ρ = [.w (.d (.scr (ns.map .int))), .w (.r 0), .w w, .w (intsD blank), .w (lawW ws), x5, x6, x7, x8, x9, x10, x11, x12] ∧ GoodWs blank.length ws) ∧ BS [] s
theorem pure_k09 (ns : List Int) (hl : ns.length ≤ 63) : ∃ s', f_law_k09 [.d (.scr (ns.map D.int))] [] = .ok (.w (.d (.bl true))) s' := by
  refine of_wE ?_
  rw [f_law_k09]
  refine wE_fn (by rfl) ?_
  have hr2 : ∀ s, rng1 [W.d (.int 2)] s = .ok ((List.range 2).map fun i : Nat => W.d (.int i)) s := fun s => rng1_nat 2 s (by decide)
  simp [b_law_k09, hr2, wipeR, -rng1_eq, -sFor_eq]
  refine wS_use (bag_wp ns hl _) ?_
  rintro _ _ ⟨b, z, rfl, hz, rfl⟩
  simp [wipeR, -rng1_eq, -sFor_eq]
  rw [hz]
  clear hz
  refine wS_mid (I09 ns (List.range 2)) ?_ ?_
  · refine forE_at (g := fun i : Nat => W.d (.int i)) (I09 ns) ⟨⟨_, _, _, _, _, _, _, _, _, _, _, rfl, fun h => absurd rfl h⟩, bs⟩ ?_ fun ρ s h => h
    rintro pre w rr hzz ρ s ⟨⟨x2, x3, x4, x5, x6, x7, x8, x9, x10, x11, x12, rfl, _⟩, b, rfl⟩
    refine ⟨_, rfl, ?_⟩
    simp [wipeR, -rng1_eq, -sFor_eq]
    refine wS_use (pull_wp _ _ _ (by decide) (by decide)) ?_
    rintro _ _ ⟨x, b, rfl, rfl, h0, h1⟩
    simp [wipeR, -rng1_eq, -sFor_eq]
    obtain ⟨n, hn, en⟩ := three x h0 h1 12 48 5
    simp at en
    rw [en]
    simp [wipeR, -rng1_eq, -sFor_eq]
    refine wS_use (rim_wp _ _ _ (by omega) (by omega)) ?_
    rintro _ _ ⟨blank, b, rfl, rfl, r3, r48, rm⟩
    simp [wipeR, -rng1_eq, -sFor_eq]
    refine wS_use (wishes_wp _ _ blank 4 (by omega) (by omega) (by decide) (by decide)) ?_
    rintro _ _ ⟨ws0, rfl, hws, hwl, b, rfl⟩
    have hL0 : ws0.length ≤ 16777216 := by omega
    simp [hL0, wipeR, -rng1_eq, -sFor_eq]
    refine wS_midE (M09 ns (.d (.int w)) blank x5 x6 x7 x8 x9 x10 x11 x12) ?_ ?_
    · by_cases c : 0 < ws0.length
      · have c2 : (0 : Int) < ws0.length := by omega
        simp [c, c2, wipeR, -rng1_eq, -sFor_eq]
        refine wS_use (pull_wp _ _ _ (by decide) (by decide)) ?_
        rintro _ _ ⟨y, b, rfl, rfl, y0, y1⟩
        simp [wipeR, -rng1_eq, -sFor_eq]
        by_cases cy : y = 0
        · obtain ⟨big, hbig⟩ : ∃ big : List Wish, big = (List.replicate 5 ws0).flatten := ⟨_, rfl⟩
          have hm5 : ∀ s, fMulL (lawW ws0) (.d (.int 5)) s = .ok (lawW big) s := fun s => by
            rw [fMulL_eq, if_pos ⟨by decide, by decide, by rw [List.length_map]; omega⟩, hbig]
            simp only [lawW]
            rw [flat_map]
            rfl
          have e5 : cut (big.map Wish.dL) none (some 15) = (big.take 15).map Wish.dL := by
            rw [List.map_take]
            exact cut_take' _ 15
          have ha : atI (wD (ws0.map Wish.dL)) (0 : Int) = some (.d (ws0[0]).dL) := by
            have : (0 : Int) = ((0 : Nat) : Int) := rfl
            rw [this]
            simp [wD, c]
          simp at ha
          simp only [lawW] at hm5
          simp [cy, hm5, fSl_lst, ha, e5, -List.map_take, wipeR, -rng1_eq, -sFor_eq]
          refine wS_use (bent_wp _ _ _ _ (hws _ (List.getElem_mem c)) (by omega) (by omega)) ?_
          rintro _ _ ⟨w', rfl, hw', b, rfl⟩
          obtain ⟨five, h5⟩ : ∃ five : List Wish, five = big.take 15 := ⟨_, rfl⟩
          rw [← h5]
          have hl5 : five.length ≤ 15 := by rw [h5, List.length_take]; omega
          have hL5 : five.length + 1 ≤ 16777216 := by omega
          simp [fAdd_lst, hL5, wipeR, -rng1_eq, -sFor_eq]
          refine ⟨⟨five ++ [w'], by simp, ⟨?_, by simp; omega⟩⟩, bs⟩
          intro v hv
          rcases List.mem_append.mp hv with hv | hv
          · rw [h5] at hv
            have := List.mem_of_mem_take hv
            rw [hbig] at this
            obtain ⟨l, h1, h2⟩ := List.mem_flatten.mp this
            rw [(List.mem_replicate.mp h1).2] at h2
            exact hws v h2
          · rw [List.mem_singleton.mp hv]
            exact hw'
        · simp [cy, wipeR, -rng1_eq, -sFor_eq]
          exact ⟨⟨ws0, rfl, hws, by omega⟩, bs⟩
      · have c2 : ¬ (0 : Int) < ws0.length := by omega
        simp [c, c2, wipeR, -rng1_eq, -sFor_eq]
        exact ⟨⟨ws0, rfl, hws, by omega⟩, bs⟩
    · rintro ρ s ⟨⟨ws, rfl, g⟩, b, rfl⟩
      have gl := g.len
      have hL : ws.length ≤ 16777216 := by omega
      simp [wipeR, -rng1_eq, -sFor_eq]
      rw [seq_lawW, lcM_fn' (v := Wish.d)]
      rotate_left
      · intro w hw
        have f := (g.all w hw).f
        have em := foot_made w.l w.m [b.cell] f.l1 f.l9 f.dr f.m0 f.m1
        simp at em
        exact ⟨_, by simp [Wish.dL]; rfl, by simp [em, Wish.d]⟩
      simp [hL, wipeR, -rng1_eq, -sFor_eq]
      have sm := g.small (by omega)
      have hb := fun s => fullestL_eq blank ws s (by omega) (by omega) sm
      simp [hb, wipeR, -rng1_eq, -sFor_eq]
      have lb : (fullV blank ws).length = blank.length := fullV_len _ _
      obtain ⟨d, hd, hdn⟩ := failing_eq (fullV blank ws) ws [b.cell] (by omega) (by omega) sm gl
      have hcan : canV blank ws = noneD d := by rw [hdn]; rfl
      have hco := fun s => comes_eq blank ws s r3 r48 g
      rw [hcan] at hco
      simp only [intsD, wishesD] at hco
      simp [hco, hd, fIsN_d, -fIsN_eq, like_bl, wipeR, -rng1_eq, -sFor_eq]
      refine wS_mid (Hold fun ρ s => (∃ x8 : EV, ρ = [.w (.d (.scr (ns.map .int))), .w (.r 0), .w (.d (.int w)), .w (intsD blank), .w (lawW ws), .w (wishesD ws), .w (wishesD ws), .w (intsD (fullV blank ws)), x8, x9, x10, x11, x12]) ∧ BS [] s) ?_ ?_
      · simp [wipeR, -rng1_eq]
        refine wS_use (cutDown_wp _ _ blank (by omega)) ?_
        rintro _ _ ⟨r1, rfl, rl1, _, b, rfl⟩
        simp [wipeR, -rng1_eq]
        refine wS_use (cutDown_wp _ _ (fullV blank ws) (by omega)) ?_
        rintro _ _ ⟨r2, rfl, rl2, _, b, rfl⟩
        simp [wipeR, -rng1_eq]
        refine forE_inv (Hold fun ρ s => (∃ x8 : EV, ρ = [.w (.d (.scr (ns.map .int))), .w (.r 0), .w (.d (.int w)), .w (intsD blank), .w (lawW ws), .w (wishesD ws), .w (wishesD ws), .w (intsD (fullV blank ws)), x8, x9, x10, x11, x12]) ∧ BS [] s) ?_ (hold ⟨⟨_, rfl⟩, bs⟩) fun ρ s h => h
        rintro v hv ρ s ⟨⟨x8, rfl⟩, b, rfl⟩
        have hv2 : ∃ r : List Int, v = intsD r ∧ r.length = blank.length := by
          simp only [List.mem_cons, List.not_mem_nil, or_false] at hv
          rcases hv with rfl | rfl | rfl | rfl
          · exact ⟨_, rfl, lb⟩
          · exact ⟨_, rfl, rfl⟩
          · exact ⟨_, rfl, rl1⟩
          · exact ⟨_, rfl, by omega⟩
        obtain ⟨r, rfl, rl⟩ := hv2
        have gr : GoodWs r.length ws := by rw [rl]; exact g
        have hgi := fun s => gives_eq r ws s (by omega) (by omega) gr
        have hgv := fun s => given_eq r ws s (by omega) sm
        rw [gives_givB (by omega) gr] at hgi
        simp only [intsD, wishesD, lawW] at hgi hgv
        refine ⟨_, rfl, ?_⟩
        simp [hgi, hgv, like_bl, wipeR, -rng1_eq, -sFor_eq]
        exact hold ⟨⟨_, rfl⟩, bs⟩
      rintro ρ s ⟨⟨x8, rfl⟩, b, rfl⟩
      have hne := fun s => wishes_ne ws s
      simp only [wishesD] at hne
      simp [hne, wipeR, -rng1_eq, -sFor_eq]
      exact ⟨⟨_, _, _, _, _, _, _, _, _, _, _, rfl, fun _ => ⟨blank, rfl, r3, r48⟩⟩, bs⟩
  · rintro ρ s ⟨⟨x2, x3, x4, x5, x6, x7, x8, x9, x10, x11, x12, rfl, hr⟩, b, rfl⟩
    obtain ⟨r, rfl, r3, r48⟩ := hr (by decide)
    have g : GoodWs r.length [] := ⟨(fun w hw => nomatch hw), by decide⟩
    have f2 := fun s => comes_eq r [] s r3 r48 g
    have f3 := fun s => gives_eq r [] s r3 r48 g
    rw [show canV r [] = true from rfl] at f2
    rw [show givesV r [] = true by rw [gives_givB (by omega) g]; rfl] at f3
    simp only [intsD, wishesD, List.map_nil] at f2 f3
    simp [f2, f3, like_bl, wipeR, -rng1_eq, -sFor_eq]
end TG

set_option linter.all false
set_option maxRecDepth 100000
namespace TG
open PySem L2
/-! ### a list mixed -/
@[simp] theorem sAppPop_eq (j i : Nat) (e : Cmp W) (ρ : Rho) (s : S) : sAppPop j i e ρ s = match (ρ[j]? : Option EV) with
  | some (.own f) => (match (ρ[i]? : Option EV) with | some (.own l) => if i ≠ j then ebS (e ρ s) ρ (kPop j i f l) else .no | _ => .no)
  | _ => .no := (rfl)
@[simp] theorem kPop_eq (j i : Nat) (f l : List W) (y : W) (ρ : Rho) (s : S) : kPop j i f l y ρ s = match asInt y with
  | some k => (match ixN l.length k with
    | some n => (match l[n]? with
      | some w => if f.length < 16777216 ∧ l.length ≤ 16777216 then .nx ((ρ.set i (.own (l.eraseIdx n))).set j (.own (f ++ [w]))) s else .no
      | none => .no)
    | none => .no)
  | none => .no := (rfl)
theorem map_erase {α β : Type} (f : α → β) : ∀ (l : List α) (n : Nat), (l.map f).eraseIdx n = (l.eraseIdx n).map f
  | [], _ => rfl
  | _ :: _, 0 => rfl
  | a :: l, n + 1 => by simp [List.eraseIdx, map_erase f l n]
theorem wD_erase (l : List D) (n : Nat) : (wD l).eraseIdx n = wD (l.eraseIdx n) := map_erase _ _ _
theorem erase_perm {α : Type} : ∀ (l : List α) (n : Nat) (h : n < l.length), (l[n] :: l.eraseIdx n).Perm l
  | a :: l, 0, _ => List.Perm.refl _
  | a :: l, n + 1, h => by
    have h2 : n < l.length := Nat.lt_of_succ_lt_succ h
    have ih := erase_perm l n h2
    simp only [List.getElem_cons_succ, List.eraseIdx_cons_succ]
    exact (List.Perm.swap a l[n] (l.eraseIdx n)).trans (List.Perm.cons a ih)
theorem perm_pop {γ : Type} {f l z : List γ} {n : Nat} (h : n < l.length) (p : (f ++ l).Perm z) : (f ++ [l[n]] ++ l.eraseIdx n).Perm z := by
  refine List.Perm.trans ?_ p
  rw [List.append_assoc]
  exact List.Perm.append_left f (erase_perm l n h)
def I_mix {γ : Type} (g : γ → D) (l : List γ) (t : S) (pre : List Nat) (ρ : Rho) (s : S) : Prop := (∃ (found left : List γ) (x4 : EV), ρ = [.w (.r 0), .w (.d (.lst (l.map g))), .own (wD (left.map g)), .own (wD (found.map g)), x4] ∧ (found ++ left).Perm l ∧ found.length = pre.length) ∧ BS t s
theorem mixed_wp {γ : Type} (g : γ → D) (l : List γ) (b : Bag) (t : S) (hl : l.length ≤ 1000) :
    wE nE (fun v s => ∃ z : List γ, v = .own (wD (z.map g)) ∧ z.Perm l ∧ BS t s) (f_v_law_mixed [.r 0, .d (.lst (l.map g))] (b.cell :: t)) := by
  rw [f_v_law_mixed]
  refine wE_fn (by rfl) ?_
  have hL : l.length ≤ 16777216 := by omega
  have hr := fun s => rng1_nat l.length s (by omega)
  simp [b_v_law_mixed, hr, hL, wipeR, -rng1_eq]
  refine wS_mid (I_mix g l t (List.range l.length)) ?_ ?_
  · refine forE_at (g := fun i : Nat => W.d (.int i)) (I_mix g l t) ⟨⟨[], l, _, by simp; rfl, by simp, rfl⟩, bs⟩ ?_ fun ρ s h => h
    rintro pre i rr hz ρ s ⟨⟨found, left, x4, rfl, hp, hlen⟩, b, rfl⟩
    have h3 := congrArg List.length hz
    rw [List.length_append, List.length_cons, List.length_range] at h3
    have h4 := hp.length_eq
    rw [List.length_append] at h4
    refine ⟨_, rfl, ?_⟩
    simp [wipeR, -rng1_eq]
    refine wS_use (pull_wp _ _ _ (by omega) (by omega)) ?_
    rintro _ _ ⟨k, b, rfl, rfl, k0, k1⟩
    simp [wipeR, -rng1_eq]
    obtain ⟨kn, rfl⟩ := Int.eq_ofNat_of_zero_le k0
    have hk : kn < left.length := by omega
    have c1 : found.length < 16777216 := by omega
    have c2 : left.length ≤ 16777216 := by omega
    have e1 : (wD (left.map g))[kn]? = some (.d (g left[kn])) := by simp [wD, hk]
    simp [hk, c1, c2, e1, wipeR, -rng1_eq]
    refine ⟨⟨found ++ [left[kn]], left.eraseIdx kn, .w (.d (.int i)), ?_, perm_pop hk hp, by simp [hlen]⟩, bs⟩
    rw [wD_erase]
    simp [wD, map_erase]
  · rintro ρ s ⟨⟨found, left, x4, rfl, hp, hlen⟩, b, rfl⟩
    rw [List.length_range] at hlen
    have h4 := hp.length_eq
    rw [List.length_append] at h4
    have : left = [] := List.eq_nil_of_length_eq_zero (by omega)
    subst this
    rw [List.append_nil] at hp
    simp [wipeR, -rng1_eq]
    exact ⟨found, rfl, hp, bs⟩
end TG

set_option linter.all false
set_option maxRecDepth 100000
namespace TG
open PySem L2
/-! ### wishes put together -/
theorem feet_sub {a b : List Wish} (h : ∀ w ∈ a, w ∈ b) (f : FeetW b) : FeetW a := fun w hw => f w (h w hw)
theorem highs_sub {r : List Int} {a b : List Wish} (h : ∀ w ∈ a, w ∈ b) (f : Highs r b) : Highs r a := fun w hw => f w (h w hw)
theorem gives_sub {r : List Int} {a b : List Wish} (h : ∀ w ∈ a, w ∈ b) (f : Gives r b) : Gives r a := fun w hw => f w (h w hw)
theorem full_same {r : List Int} {a b : List Wish} (h0 : 0 < r.length) (fa : FeetW a) (fb : FeetW b) (h : ∀ w, w ∈ a ↔ w ∈ b) : fullV r a = fullV r b := by
  have hh : ∀ q, Highs q a ↔ Highs q b := fun q => ⟨highs_sub fun w hw => (h w).mpr hw, highs_sub fun w hw => (h w).mp hw⟩
  refine LeR.antisymm ?_ ?_
  · rw [le_full_iff h0 fb]
    have := (le_full_iff (q := fullV r a) h0 fa).mp (LeR.refl _)
    exact ⟨this.1, (hh _).mp this.2⟩
  · rw [le_full_iff h0 fa]
    have := (le_full_iff (q := fullV r b) h0 fb).mp (LeR.refl _)
    exact ⟨this.1, (hh _).mpr this.2⟩
theorem can_same {r : List Int} {a b : List Wish} (h0 : 0 < r.length) (fa : FeetW a) (fb : FeetW b) (h : ∀ w, w ∈ a ↔ w ∈ b) : canV r a = canV r b := by
  rw [Bool.eq_iff_iff, canV_iff, canV_iff, full_same h0 fa fb h]
  exact ⟨fun l w hw => l w ((h w).mpr hw), fun l w hw => l w ((h w).mp hw)⟩
theorem full_app (r : List Int) (a b : List Wish) : fullV (fullV r a) b = fullV r (a ++ b) := by
  unfold fullV
  rw [cutAll_len, ← cutAll_app]
  simp [limsL]
/-- w' asks no more than w -/
def Easy (w w' : Wish) : Prop := w'.l = w.l ∧ w'.m = w.m ∧ w'.a = w.a ∧ w'.row.length = w.row.length ∧ ∀ q' ∈ askedL w'.row, ∃ q ∈ askedL w.row, q.1 = q'.1 ∧ q'.2.1 ≤ q.2.1 ∧ q.2.2 ≤ q'.2.2
theorem gives_easy {r : List Int} {a b : List Wish} (h : ∀ w' ∈ b, ∃ w ∈ a, Easy w w') (g : Gives r a) : Gives r b := fun w' hw' q' hq' => by
  obtain ⟨w, hw, e1, e2, e3, _, e4⟩ := h w' hw'
  obtain ⟨q, hq, e5, e6, e7⟩ := e4 q' hq'
  have := g w hw q hq
  rw [e1, e2, e3, ← e5]
  omega
theorem highs_easy {r : List Int} {a b : List Wish} (h : ∀ w' ∈ b, ∃ w ∈ a, Easy w w') (g : Highs r a) : Highs r b := fun w' hw' q' hq' => by
  obtain ⟨w, hw, e1, e2, e3, _, e4⟩ := h w' hw'
  obtain ⟨q, hq, e5, e6, e7⟩ := e4 q' hq'
  have := g w hw q hq
  rw [e1, e2, e3, ← e5]
  omega
/-- a row of which each place asks no more -/
def EasyR (row : List (Option (Int × Int))) (row' : List (Option (Int × Int))) : Prop := row'.length = row.length ∧ ∀ (p : Nat) (q' : Int × Int), row'[p]? = some (some q') → ∃ q, row[p]? = some (some q) ∧ q'.1 ≤ q.1 ∧ q.2 ≤ q'.2
theorem EasyR.nil : EasyR [] [] := ⟨rfl, fun p q h => by simp at h⟩
theorem EasyR.app {row row' : List (Option (Int × Int))} {o o' : Option (Int × Int)} (h : EasyR row row') (ho : ∀ q', o' = some q' → ∃ q, o = some q ∧ q'.1 ≤ q.1 ∧ q.2 ≤ q'.2) : EasyR (row ++ [o]) (row' ++ [o']) := by
  refine ⟨by simp [h.1], fun p q' hp => ?_⟩
  by_cases c : p < row'.length
  · rw [List.getElem?_append_left c] at hp
    obtain ⟨q, h1, h2⟩ := h.2 p q' hp
    exact ⟨q, by rw [List.getElem?_append_left (by rw [← h.1]; exact c)]; exact h1, h2⟩
  · rw [List.getElem?_append_right (by omega)] at hp
    have hz : p - row'.length = 0 := by
      have := (List.getElem?_eq_some_iff.mp hp).1
      simp at this
      omega
    rw [hz] at hp
    obtain ⟨q, h1, h2⟩ := ho q' (by simpa using hp)
    refine ⟨q, ?_, h2⟩
    rw [List.getElem?_append_right (by have := h.1; omega), show p - row.length = 0 by have := h.1; omega, h1]
    rfl
theorem easy_of {w : Wish} {row' : List (Option (Int × Int))} (h : EasyR w.row row') : Easy w ⟨w.l, w.m, w.a, row'⟩ := by
  refine ⟨rfl, rfl, rfl, h.1, fun q' hq' => ?_⟩
  obtain ⟨q, h1, h2, h3⟩ := h.2 q'.1 q'.2 (askedL_mem.mp hq')
  exact ⟨(q'.1, q), askedL_mem.mpr h1, rfl, h2, h3⟩
theorem good_easy {n : Nat} {w : Wish} {row' : List (Option (Int × Int))} (g : GoodW n w) (h : EasyR w.row row') : GoodW n ⟨w.l, w.m, w.a, row'⟩ := by
  refine ⟨g.f, by rw [← g.len]; exact h.1, fun q' hq' => ?_⟩
  obtain ⟨p, hp⟩ := List.mem_iff_getElem?.mp hq'
  obtain ⟨q, h1, h2, h3⟩ := h.2 p q' hp
  have := g.ok q (List.mem_iff_getElem?.mpr ⟨p, h1⟩)
  omega
def I_e1 (ws : List Wish) (n : Nat) (t : S) (pre : List Wish) (ρ : Rho) (s : S) : Prop := (∃ (z : List Wish) (x3 x4 x5 x6 x7 x8 : EV), ρ = [.w (.r 0), .w (lawW ws), .own (wD (z.map Wish.d)), x3, x4, x5, x6, x7, x8] ∧ z.length = pre.length ∧ (∀ w' ∈ z, GoodW n w') ∧ ∀ w' ∈ z, ∃ w ∈ ws, Easy w w') ∧ BS t s
def I_e2 (ws z : List Wish) (w : Wish) (t : S) (pre : List (Option (Int × Int))) (ρ : Rho) (s : S) : Prop := (∃ (row' : List (Option (Int × Int))) (x8 : EV), ρ = [.w (.r 0), .w (lawW ws), .own (wD (z.map Wish.d)), .w (.d (.tup (w.l.map .int))), .w (.d (.int w.m)), .w (.d (.int w.a)), .w (.d (.tup (w.row.map rowD))), .own (wD (row'.map rowD)), x8] ∧ EasyR pre row') ∧ BS t s
theorem easier_wp (ws : List Wish) (n : Nat) (b : Bag) (t : S) (g : GoodWs n ws) (hn : n ≤ 1000) :
    wE nE (fun v s => ∃ z : List Wish, v = .own (wD (z.map Wish.d)) ∧ GoodWs n z ∧ (∀ w' ∈ z, ∃ w ∈ ws, Easy w w') ∧ BS t s) (f_v_law_easier [.r 0, lawW ws] (b.cell :: t)) := by
  have hwl := g.len
  rw [f_v_law_easier]
  refine wE_fn (by rfl) ?_
  simp [b_v_law_easier, wipeR, -rng1_eq]
  rw [seq_lawW]
  refine wS_mid (I_e1 ws n t ws) ?_ ?_
  · refine forE_at (I_e1 ws n t) ⟨⟨[], _, _, _, _, _, _, rfl, rfl, (fun _ h => by cases h), (fun _ h => by cases h)⟩, bs⟩ ?_ fun ρ s h => h
    rintro pre w rr hz ρ s ⟨⟨z, x3, x4, x5, x6, x7, x8, rfl, hzl, hzg, hze⟩, b, rfl⟩
    have hwm : w ∈ ws := by rw [hz]; simp
    have gw := g.all w hwm
    have gl := gw.len
    have hpl : pre.length < ws.length := by rw [hz]; simp
    refine ⟨_, by simp [Wish.dL]; rfl, ?_⟩
    simp [wipeR, -rng1_eq]
    have e1 : wD (w.row.map rowD) = w.row.map fun o => W.d (rowD o) := by simp [wD]
    rw [e1]
    refine wS_mid (I_e2 ws z w t w.row) ?_ ?_
    · refine forE_at (I_e2 ws z w t) ⟨⟨[], _, rfl, EasyR.nil⟩, bs⟩ ?_ fun ρ s h => h
      rintro pr o r2 hz2 ρ s ⟨⟨row', x8, rfl, he⟩, b, rfl⟩
      have hL : row'.length < 16777216 := by
        have := congrArg List.length hz2
        rw [List.length_append, List.length_cons] at this
        have := he.1
        omega
      refine ⟨_, rfl, ?_⟩
      cases o with
      | none =>
        simp [rowD, hL, wipeR, -rng1_eq]
        refine ⟨⟨row' ++ [none], _, by simp [wD, rowD]; rfl, he.app fun q' hq' => by cases hq'⟩, bs⟩
      | some q =>
        simp [rowD, wipeR, -rng1_eq]
        refine wS_use (pull_wp _ _ _ (by decide) (by decide)) ?_
        rintro _ _ ⟨k, b, rfl, rfl, k0, k1⟩
        simp [wipeR, -rng1_eq]
        by_cases c : 0 < k
        · simp [c, wipeR, -rng1_eq]
          refine wS_use (pull_wp _ _ _ (by decide) (by decide)) ?_
          rintro _ _ ⟨x, b, rfl, rfl, x0, x1⟩
          simp [wipeR, -rng1_eq]
          refine wS_use (pull_wp _ _ _ (by decide) (by decide)) ?_
          rintro _ _ ⟨y, b, rfl, rfl, y0, y1⟩
          simp [wipeR, -rng1_eq]
          simp [hL, wipeR, -rng1_eq]
          refine ⟨⟨row' ++ [some (q.1 - x, q.2 + y)], _, by simp [wD, rowD]; rfl, he.app fun q' hq' => ⟨q, rfl, ?_⟩⟩, bs⟩
          cases hq'
          exact ⟨by show q.1 - x ≤ q.1; omega, by show q.2 ≤ q.2 + y; omega⟩
        · simp [c, hL, wipeR, -rng1_eq]
          refine ⟨⟨row' ++ [none], _, by simp [wD, rowD]; rfl, he.app fun q' hq' => by cases hq'⟩, bs⟩
    · rintro ρ s ⟨⟨row', x8, rfl, he⟩, b, rfl⟩
      have f := gw.f
      have em := foot_made w.l w.m (b.cell :: t) f.l1 f.l9 f.dr f.m0 f.m1
      simp at em
      have hL : row'.length ≤ 16777216 := by have := he.1; omega
      have hL2 : z.length < 16777216 := by omega
      simp [em, hL, hL2, wipeR, -rng1_eq]
      refine ⟨⟨z ++ [⟨w.l, w.m, w.a, row'⟩], _, _, _, _, _, _, by simp [wD, Wish.d]; and_intros <;> rfl, by simp [hzl], ?_, ?_⟩, bs⟩
      · intro v hv
        rcases List.mem_append.mp hv with hv | hv
        · exact hzg v hv
        · rw [List.mem_singleton.mp hv]; exact good_easy gw he
      · intro v hv
        rcases List.mem_append.mp hv with hv | hv
        · exact hze v hv
        · rw [List.mem_singleton.mp hv]; exact ⟨w, hwm, easy_of he⟩
  · rintro ρ s ⟨⟨z, x3, x4, x5, x6, x7, x8, rfl, hzl, hzg, hze⟩, b, rfl⟩
    simp [wipeR, -rng1_eq]
    exact ⟨z, rfl, ⟨hzg, by omega⟩, hze, bs⟩
end TG

set_option linter.all false
set_option maxRecDepth 100000
namespace TG
open PySem L2
/-! ### heights that a cell can have -/
@[simp] theorem eMaxD_eq (a : Cmp (List W)) (ρ : Rho) (s : S) : eMaxD a ρ s = (a ρ s).bind kMaxD := (rfl)
def maxO : List Int → Option Int | [] => none | n :: ms => some (ms.foldl max n)
def hgtD : Option Int → D | none => .non | some i => .int i
@[simp] theorem kMaxD_ints (l : List Int) (s : S) : kMaxD [.d (.lst (l.map D.int))] s = .ok (.d (hgtD (maxO l))) s := by
  show (match asIntsL (.d (.lst (l.map D.int))) s with
    | some [] => Res.ok (W.d .non) s
    | some (n :: ms) => .ok (.d (.int (ms.foldl max n))) s
    | none => .no) = _
  rw [asIntsL_ints]
  cases l <;> rfl
theorem foldl_max_ge : ∀ (l : List Int) (n : Int), n ≤ l.foldl max n ∧ (∀ x ∈ l, x ≤ l.foldl max n) ∧ (l.foldl max n = n ∨ l.foldl max n ∈ l)
  | [], n => ⟨Int.le_refl _, (fun x hx => by cases hx), .inl rfl⟩
  | a :: r, n => by
    obtain ⟨h1, h2, h3⟩ := foldl_max_ge r (max n a)
    rw [List.foldl_cons]
    refine ⟨by omega, fun x hx => ?_, ?_⟩
    · rcases List.mem_cons.mp hx with rfl | hx
      · omega
      · exact h2 x hx
    · rcases h3 with e | e
      · by_cases c : a ≤ n
        · left; omega
        · right
          rw [e, show max n a = a by omega]
          exact .head _
      · right; exact .tail _ e
theorem maxO_some {l : List Int} {v : Int} (h : maxO l = some v) : v ∈ l ∧ ∀ x ∈ l, x ≤ v := by
  cases l with
  | nil => cases h
  | cons n ms =>
    cases h
    obtain ⟨h1, h2, h3⟩ := foldl_max_ge ms n
    refine ⟨?_, fun x hx => ?_⟩
    · rcases h3 with e | e
      · rw [e]; exact .head _
      · exact .tail _ e
    · rcases List.mem_cons.mp hx with rfl | hx
      · exact h1
      · exact h2 x hx
theorem maxO_none {l : List Int} (h : maxO l = none) : l = [] := by
  cases l with
  | nil => rfl
  | cons n ms => cases h
theorem itemG (r : List Int) (c : Int) (h0 : 0 ≤ c) (h1 : c < r.length) : atI (wD (r.map .int)) c = some (.d (.int (gt r c.toNat))) := by
  obtain ⟨k, rfl⟩ := Int.eq_ofNat_of_zero_le h0
  have hk : k < r.length := by omega
  simp [wD, hk, gt, List.getD_eq_getElem?_getD]
def othersB (r l : List Int) (m a c low : Int) : Bool := ((spotL r.length l m a).filter fun p => !(p.1 == c)).any fun p => decide (low ≤ gt r p.1.toNat - p.2)
def dropsAt (n : Int) (l : List Int) (m a c : Int) : List Int := ((spotL n l m a).filter fun p => p.1 == c).map (·.2)
def leastQ (r : List Int) (w : Wish) (c : Int) (q : Ask) : List Int := if othersB r w.l w.m (w.a + q.1) c q.2.1 = true then [] else [q.2.1 + (dropsAt r.length w.l w.m (w.a + q.1) c).min?.getD 0]
def leastW (r : List Int) (c : Int) (w : Wish) : List Int := (askedL w.row).flatMap (leastQ r w c)
def leastL (r : List Int) (ws : List Wish) (c : Int) : List Int := ws.flatMap (leastW r c)
theorem others_iff {r l : List Int} {m a c low : Int} : othersB r l m a c low = true ↔ ∃ p ∈ spotL r.length l m a, p.1 ≠ c ∧ low ≤ gt r p.1.toNat - p.2 := by
  unfold othersB
  simp only [List.any_eq_true, List.mem_filter, Bool.not_eq_true', beq_eq_false_iff_ne, decide_eq_true_eq]
  constructor
  · rintro ⟨p, ⟨h1, h2⟩, h3⟩; exact ⟨p, h1, h2, h3⟩
  · rintro ⟨p, h1, h2, h3⟩; exact ⟨p, ⟨h1, h2⟩, h3⟩
theorem drops_mem {n : Int} {l : List Int} {m a c d : Int} : d ∈ dropsAt n l m a c ↔ ∃ p ∈ spotL n l m a, p.1 = c ∧ p.2 = d := by
  unfold dropsAt
  simp only [List.mem_map, List.mem_filter, beq_iff_eq]
  constructor
  · rintro ⟨p, ⟨h1, h2⟩, h3⟩; exact ⟨p, h1, h2, h3⟩
  · rintro ⟨p, h1, h2, h3⟩; exact ⟨p, ⟨h1, h2⟩, h3⟩
/-- where no other cell lifts enough, this one does -/
theorem drops_min {r l : List Int} {m a c low : Int} (h : 0 < r.length) (hl : 1 ≤ l.length) (hlow : low ≤ liftV r l m a) (ho : ¬ othersB r l m a c low = true) : ∃ d, (dropsAt r.length l m a c).min? = some d ∧ d ∈ dropsAt r.length l m a c ∧ ∀ x ∈ dropsAt r.length l m a c, d ≤ x := by
  obtain ⟨p, hp, k⟩ := (le_lift h hl).mp hlow
  have hpc : p.1 = c := Classical.byContradiction fun hn => ho (others_iff.mpr ⟨p, hp, hn, k⟩)
  have hm : p.2 ∈ dropsAt r.length l m a c := drops_mem.mpr ⟨p, hp, hpc, rfl⟩
  cases e : (dropsAt r.length l m a c).min? with
  | none =>
    rw [List.min?_eq_none_iff] at e
    rw [e] at hm
    cases hm
  | some d =>
    have := List.min?_eq_some_iff.mp e
    exact ⟨d, rfl, this.1, this.2⟩
theorem len_leastQ (r : List Int) (w : Wish) (c : Int) (q : Ask) : (leastQ r w c q).length ≤ 1 := by
  unfold leastQ
  split <;> simp
theorem len_leastW (r : List Int) (c : Int) (w : Wish) : (leastW r c w).length ≤ w.row.length := by
  have := len_flat (leastQ r w c) 1 (askedL w.row) fun q _ => len_leastQ r w c q
  have := askedL_len w.row
  unfold leastW
  omega
theorem len_leastL (r : List Int) (c : Int) (ws : List Wish) (k : Nat) (h : ∀ w ∈ ws, w.row.length ≤ k) : (leastL r ws c).length ≤ ws.length * k := len_flat _ _ _ fun w hw => Nat.le_trans (len_leastW r c w) (h w hw)
def I_l1 (r : List Int) (ws : List Wish) (c : Int) (s : S) (pre : List Wish) (ρ : Rho) (s' : S) : Prop := (∃ x4 x5 x6 x7 x8 x9 x10 x11 x12 x13 : EV, ρ = [.w (intsD r), .w (wishesD ws), .w (.d (.int c)), .own (wD ((leastL r pre c).map .int)), x4, x5, x6, x7, x8, x9, x10, x11, x12, x13]) ∧ s' = s
def I_l2 (r : List Int) (ws : List Wish) (c : Int) (s : S) (pre : List Wish) (w : Wish) (pr : List Ask) (ρ : Rho) (s' : S) : Prop := (∃ x4 x8 x9 x10 x11 x12 x13 : EV, ρ = [.w (intsD r), .w (wishesD ws), .w (.d (.int c)), .own (wD ((leastL r pre c ++ pr.flatMap (leastQ r w c)).map .int)), x4, .w (.d (footD w.l w.m)), .w (.d (.int w.a)), .w (.d (.tup (w.row.map rowD))), x8, x9, x10, x11, x12, x13]) ∧ s' = s
theorem least_eq (r : List Int) (ws : List Wish) (c : Int) (s : S) (h : 0 < r.length) (h' : r.length ≤ 48) (hw : GoodWs r.length ws) (hlo : Lows r ws) : f_least_height [intsD r, wishesD ws, .d (.int c)] s = .ok (.w (.d (hgtD (maxO (leastL r ws c))))) s := by
  have hwl := hw.len
  refine eq_wE ?_
  rw [f_least_height]
  refine wE_fn (by rfl) ?_
  simp [b_least_height, wipeR, -rng1_eq]
  rw [seq_wishes]
  refine wS_mid (I_l1 r ws c s ws) ?_ ?_
  · refine forE_at (I_l1 r ws c s) ⟨⟨_, _, _, _, _, _, _, _, _, _, rfl⟩, rfl⟩ ?_ fun ρ s' h => h
    rintro pre w rr hz ρ s' ⟨⟨x4, x5, x6, x7, x8, x9, x10, x11, x12, x13, rfl⟩, rfl⟩
    have hwm : w ∈ ws := by rw [hz]; simp
    have gw := hw.all w hwm
    have gl := gw.len
    have g9 := gw.f.l9
    have hpl : (leastL r pre c).length ≤ 1000 * 48 := by
      have h1 := len_leastL r c pre 48 fun v hv => by have := (hw.all v (by rw [hz]; exact List.mem_append_left _ hv)).len; omega
      have h2 : pre.length ≤ 1000 := by
        have h3 := congrArg List.length hz
        rw [List.length_append, List.length_cons] at h3
        omega
      exact Nat.le_trans h1 (Nat.mul_le_mul_right 48 h2)
    have ha := asked_eq w s' (by omega)
    refine ⟨_, rfl, ?_⟩
    simp only [Wish.d] at ha
    simp [ha, Wish.d, wipeR, -rng1_eq]
    have e1 : wD ((askedL w.row).map askD) = (askedL w.row).map fun q => W.d (askD q) := by simp [wD]
    rw [e1]
    refine forE_at (I_l2 r ws c s' pre w) ⟨⟨_, _, _, _, _, _, _, by simp; and_intros <;> rfl⟩, rfl⟩ ?_ ?_
    · rintro pr q qq hzz ρ s2 ⟨⟨x4, x8, x9, x10, x11, x12, x13, rfl⟩, rfl⟩
      have hqm : q ∈ askedL w.row := by rw [hzz]; simp
      have hprl : pr.length ≤ 48 := by
        have h3 := congrArg List.length hzz
        rw [List.length_append, List.length_cons] at h3
        have := askedL_len w.row
        omega
      have hpql := len_flat (leastQ r w c) 1 pr fun q _ => len_leastQ r w c q
      have ht := touched_eq r.length w.l w.m (w.a + q.1) s2 (by omega) (by omega)
      have hLs : (tchD r.length w.l w.m (w.a + q.1)).length ≤ 16777216 := by simp [tchD]; omega
      refine ⟨_, by simp [askD]; rfl, ?_⟩
      simp [ht, hLs, wipeR, -rng1_eq]
      rw [spot_D, lcM_fn (p := fun p : Int × Int => !(p.1 == c)) (v := fun p : Int × Int => .bl (decide (q.2.1 ≤ gt r p.1.toNat - p.2)))]
      rotate_left
      · intro p hp
        have hr := spotL_rng (by omega) hp
        refine ⟨_, by simp [pairD]; rfl, by simp, fun _ => by simp [itemG r p.1 hr.1 hr.2]⟩
      have hsl := spotL_len r.length w.m (w.a + q.1) w.l
      have hfl : ((spotL r.length w.l w.m (w.a + q.1)).filter fun p : Int × Int => !(p.1 == c)).length ≤ 16777216 := Nat.le_trans (List.length_filter_le _ _) (by omega)
      have hfl2 : ((spotL r.length w.l w.m (w.a + q.1)).filter fun p : Int × Int => p.1 == c).length ≤ 16777216 := Nat.le_trans (List.length_filter_le _ _) (by omega)
      have hany := fAny_bls (((spotL r.length w.l w.m (w.a + q.1)).filter fun p : Int × Int => !(p.1 == c)).map fun p : Int × Int => decide (q.2.1 ≤ gt r p.1.toNat - p.2)) s2
      rw [List.map_map, List.any_map] at hany
      have e2 : ((spotL r.length w.l w.m (w.a + q.1)).filter fun p : Int × Int => !(p.1 == c)).map (D.bl ∘ fun p : Int × Int => decide (q.2.1 ≤ gt r p.1.toNat - p.2)) = ((spotL r.length w.l w.m (w.a + q.1)).filter fun p : Int × Int => !(p.1 == c)).map fun p : Int × Int => D.bl (decide (q.2.1 ≤ gt r p.1.toNat - p.2)) := rfl
      have e3 : ((spotL r.length w.l w.m (w.a + q.1)).filter fun p : Int × Int => !(p.1 == c)).any (id ∘ fun p : Int × Int => decide (q.2.1 ≤ gt r p.1.toNat - p.2)) = othersB r w.l w.m (w.a + q.1) c q.2.1 := rfl
      rw [e2, e3] at hany
      have hc1 : (leastL r pre c).length + (pr.flatMap (leastQ r w c)).length < 16777216 := by omega
      cases ho : othersB r w.l w.m (w.a + q.1) c q.2.1 with
      | true =>
        rw [ho] at hany
        have e9 : leastL r pre c ++ (pr ++ [q]).flatMap (leastQ r w c) = leastL r pre c ++ pr.flatMap (leastQ r w c) := by simp [leastQ, ho]
        simp [hfl, hany, wipeR, -rng1_eq]
        have e10 : wD (List.map D.int (leastL r pre c) ++ List.map D.int (pr.flatMap (leastQ r w c))) = wD ((leastL r pre c ++ (pr ++ [q]).flatMap (leastQ r w c)).map .int) := by
          rw [e9, List.map_append]
        rw [e10]
        exact ⟨⟨_, _, _, _, _, _, _, rfl⟩, rfl⟩
      | false =>
        rw [ho] at hany
        obtain ⟨d, hd, _, _⟩ := drops_min (m := w.m) (a := w.a + q.1) (c := c) h gw.f.l1 (hlo w hwm q hqm) (by rw [ho]; simp)
        have e9 : leastL r pre c ++ (pr ++ [q]).flatMap (leastQ r w c) = leastL r pre c ++ pr.flatMap (leastQ r w c) ++ [q.2.1 + d] := by simp [leastQ, ho, hd]
        simp [hfl, hany, hLs, wipeR, -rng1_eq]
        rw [spot_D, lcM_fn (p := fun p : Int × Int => p.1 == c) (v := fun p : Int × Int => .int p.2)]
        rotate_left
        · intro p hp
          exact ⟨_, by simp [pairD]; rfl, by simp, fun _ => by simp⟩
        have e4 : ((spotL r.length w.l w.m (w.a + q.1)).filter fun p : Int × Int => p.1 == c).map (fun p : Int × Int => D.int p.2) = (dropsAt r.length w.l w.m (w.a + q.1) c).map .int := by rw [dropsAt, List.map_map]; rfl
        have hdl : (dropsAt r.length w.l w.m (w.a + q.1) c).length ≤ 16777216 := by rw [dropsAt, List.length_map]; exact hfl2
        rw [e4]
        simp [hdl, hd, hc1, -List.length_flatMap, wipeR, -rng1_eq]
        have e5 : wD (List.map D.int (leastL r pre c) ++ List.map D.int (pr.flatMap (leastQ r w c))) ++ [W.d (D.int (q.2.1 + d))] = wD ((leastL r pre c ++ (pr ++ [q]).flatMap (leastQ r w c)).map .int) := by
          rw [e9]
          simp [wD]
        rw [e5]
        exact ⟨⟨_, _, _, _, _, _, _, rfl⟩, rfl⟩
    · rintro ρ s2 ⟨⟨x4, x8, x9, x10, x11, x12, x13, rfl⟩, rfl⟩
      refine ⟨⟨_, _, _, _, _, _, _, _, _, _, by rw [show leastL r (pre ++ [w]) c = leastL r pre c ++ leastW r c w by simp [leastL]]; rfl⟩, rfl⟩
  · rintro ρ s' ⟨⟨x4, x5, x6, x7, x8, x9, x10, x11, x12, x13, rfl⟩, rfl⟩
    have hL : (leastL r ws c).length ≤ 16777216 := by
      have h1 := len_leastL r c ws 48 fun v hv => by have := (hw.all v hv).len; omega
      omega
    simp [hL, wipeR, -rng1_eq]
end TG

set_option linter.all false
set_option maxRecDepth 100000
namespace TG
open PySem L2
/-! ### one cell set -/
theorem gt_set (r : List Int) (c : Nat) (h : Int) (i : Nat) (hi : i < r.length) : gt (r.set c h) i = if c = i then h else gt r i := by
  unfold gt
  rw [List.getD_eq_getElem?_getD, List.getElem?_set]
  by_cases e : c = i
  · subst e
    simp [hi]
  · simp [e, List.getD_eq_getElem?_getD]
theorem set_le {r : List Int} {c : Nat} {h : Int} (hh : h ≤ gt r c) : LeR (r.set c h) r := by
  refine ⟨by simp, fun i hi => ?_⟩
  rw [gt_set r c h i (by simpa using hi)]
  split
  · rename_i e; rw [← e]; exact hh
  · exact Int.le_refl _
theorem set_lows {r : List Int} {ws : List Wish} {c : Nat} {h : Int} (h0 : 0 < r.length) (hc : c < r.length) (hf : FeetW ws) (hlo : Lows r ws) : Lows (r.set c h) ws ↔ ∀ x ∈ leastL r ws c, x ≤ h := by
  have hq : 0 < (r.set c h).length := by simpa using h0
  constructor
  · intro k x hx
    obtain ⟨w, hw, hx⟩ := List.mem_flatMap.mp hx
    obtain ⟨q, hqm, hx⟩ := List.mem_flatMap.mp hx
    unfold leastQ at hx
    split at hx
    · cases hx
    · rename_i ho
      obtain ⟨d, hd, _, hdm⟩ := drops_min (m := w.m) (a := w.a + q.1) (c := (c : Int)) h0 (hf w hw) (hlo w hw q hqm) ho
      rw [hd] at hx
      have hx := List.mem_singleton.mp hx
      obtain ⟨p, hp, hk⟩ := (le_lift hq (hf w hw)).mp (k w hw q hqm)
      rw [List.length_set] at hp
      have hr := spotL_rng (show (0 : Int) < r.length by omega) hp
      rw [gt_set r c h _ (by omega)] at hk
      by_cases e : c = p.1.toNat
      · rw [if_pos e] at hk
        have := hdm p.2 (drops_mem.mpr ⟨p, hp, by omega, rfl⟩)
        rw [hx]
        simp only [Option.getD_some]
        omega
      · rw [if_neg e] at hk
        exact absurd (others_iff.mpr ⟨p, hp, by omega, hk⟩) ho
  · intro k w hw q hqm
    rw [le_lift hq (hf w hw), List.length_set]
    cases ho : othersB r w.l w.m (w.a + q.1) c q.2.1 with
    | true =>
      obtain ⟨p, hp, hne, hk⟩ := others_iff.mp ho
      have hr := spotL_rng (show (0 : Int) < r.length by omega) hp
      refine ⟨p, hp, ?_⟩
      rw [gt_set r c h _ (by omega), if_neg (by omega)]
      exact hk
    | false =>
      obtain ⟨d, hd, hdm, _⟩ := drops_min (m := w.m) (a := w.a + q.1) (c := (c : Int)) h0 (hf w hw) (hlo w hw q hqm) (by rw [ho]; simp)
      obtain ⟨p, hp, e1, e2⟩ := drops_mem.mp hdm
      have := k (q.2.1 + d) (List.mem_flatMap.mpr ⟨w, hw, List.mem_flatMap.mpr ⟨q, hqm, by unfold leastQ; rw [if_neg (by rw [ho]; simp), hd]; simp⟩⟩)
      refine ⟨p, hp, ?_⟩
      rw [gt_set r c h _ (by omega), if_pos (by omega)]
      omega
/-- a cell within its heights -/
theorem set_gives {r : List Int} {ws : List Wish} {c : Nat} {h : Int} (h0 : 0 < r.length) (hc : c < r.length) (hf : FeetW ws) (hg : Gives r ws) (hh : h ≤ gt r c) : Gives (r.set c h) ws ↔ ∀ x ∈ leastL r ws c, x ≤ h := by
  obtain ⟨hlo, hhi⟩ := gives_split.mp hg
  rw [← set_lows h0 hc hf hlo, gives_split]
  exact ⟨fun k => k.1, fun k => ⟨k, highs_mono (set_le hh) (by simpa using h0) hf hhi⟩⟩
/-- what a cam that gives the wishes has is not below -/
theorem least_le {q r : List Int} {ws : List Wish} {c : Nat} (hle : LeR q r) (h0 : 0 < r.length) (hc : c < r.length) (hf : FeetW ws) (hg : Gives q ws) (hlo : Lows r ws) : ∀ x ∈ leastL r ws c, x ≤ gt q c := by
  rw [← set_lows h0 hc hf hlo]
  have hl := (gives_split.mp hg).1
  refine lows_mono (q := q) ⟨by rw [List.length_set]; exact hle.1, fun i hi => ?_⟩ (by rw [hle.1]; exact h0) hf hl
  rw [gt_set r c _ i (by rw [← hle.1]; exact hi)]
  split
  · rename_i e; rw [e]; exact Int.le_refl _
  · exact hle.2 i hi
/-- above the greatest, within the blank, it is too much -/
theorem set_more {blank : List Int} {ws : List Wish} {c : Nat} {h : Int} (h0 : 0 < blank.length) (hc : c < blank.length) (hf : FeetW ws) (hb : h ≤ gt blank c) (hh : gt (fullV blank ws) c < h) : ¬ Gives ((fullV blank ws).set c h) ws := fun hg => by
  have hl : (fullV blank ws).length = blank.length := fullV_len _ _
  have hle : LeR ((fullV blank ws).set c h) blank := ⟨by rw [List.length_set, hl], fun i hi => by
    rw [List.length_set] at hi
    rw [gt_set _ c h i hi]
    split
    · rename_i e; rw [← e]; exact hb
    · exact (full_le blank ws).2 i hi⟩
  have := ((le_full_iff h0 hf).mpr ⟨hle, (gives_split.mp hg).2⟩).2 c (by rw [List.length_set]; omega)
  rw [gt_set _ c h c (by omega), if_pos rfl] at this
  omega
/-! heights -/
def hgtsL (r : List Int) (ws : List Wish) : List D := (List.range r.length).map fun c : Nat => .tup [hgtD (maxO (leastL r ws c)), .int (gt r c)]
theorem heights_eq (blank : List Int) (ws : List Wish) (s : S) (h : 3 ≤ blank.length) (h' : blank.length ≤ 48) (g : GoodWs blank.length ws) (hc : canV blank ws = true) : f_heights [intsD blank, wishesD ws] s = .ok (.own (wD (hgtsL (fullV blank ws) ws))) s := by
  have e1 := lookW_eq blank ws s h h' g
  have e2 := can_eq blank ws s (by omega) (by omega) (g.small (by omega)) g.len
  have e3 := fullOf_eq blank ws s (by omega) (by omega) (g.small (by omega))
  have lb : (fullV blank ws).length = blank.length := fullV_len _ _
  have hlo := canV_iff.mp hc
  rw [hc] at e2
  generalize hr : fullV blank ws = r at *
  have hr1 := fun s => rng1_nat r.length s (by omega)
  have hL : r.length ≤ 16777216 := by omega
  rw [f_heights, runF_eq]
  simp [b_heights, e1, e2, e3, hr1, hL, wipeR, -rng1_eq]
  rw [lcM_fn' (v := fun c : Nat => .tup [hgtD (maxO (leastL r ws c)), .int (gt r c)])]
  · rfl
  · intro c hcm
    have hcm := List.mem_range.mp hcm
    have hle := least_eq r ws c s (by omega) (by omega) (by rw [lb]; exact g) hlo
    have hg := itemG r c (by omega) (by omega)
    simp at hg
    exact ⟨_, rfl, by simp [hle, hg]⟩
end TG

set_option Elab.async false
set_option linter.all false
set_option maxRecDepth 100000
set_option maxHeartbeats 4000000
/-! return [f, g, ..][i](e, ..) -/
namespace TG
open PySem PySem.Spec PyProof.Rows L2
theorem arm_sub (a b : Expr) (p0 : Pos) (args : List Expr) (kws : List Keyword) (pos : Pos) (env : Env) : eval (.Call (.Subscript a b p0) args kws pos) env = (do
    let f ← eval (.Subscript a b p0) env
    callWith pos f [] (backTo pos (starEach args env)) (backToKw pos (keywordEach kws env))) := by rfl
section
variable (X : Cx) (cl : Str → Option Addr) (k : Nat)
/-- the defs that a list names -/
inductive FL : List Expr → List Sem1 → Prop
  | nil : FL [] []
  | cons {x : Str} {p : Pos} {f : Sem1} {ps : List Str} {es : List Expr} {fs : List Sem1} (F : FnAt X.prog X.w X.K X.mg X.base cl k x ps f) (hg : Gl X x) (nd : (x == ("__debug__" : Str)) = false) (hs : starEach (.Name x p :: es) X.env = (false, eval (.Name x p) X.env) :: starEach es X.env) (r : FL es fs) : FL (.Name x p :: es) (f :: fs)
end
def tAll (vs : List V) : TA := fun _ H Q => Q vs H
inductive FA (X : Cx) (cl : Str → Option Addr) (k : Nat) : List Addr → List Sem1 → Prop
  | nil : FA X cl k [] []
  | cons {a : Addr} {fd : FuncData} {f : Sem1} {ps : List Str} {as : List Addr} {fs : List Sem1} (h1 : PySem.W.keepIn X.K (.ref a) = true) (h2 : Binds X.K fd ps []) (h3 : FnOk X.prog X.w X.K X.mg X.base (L2.CX X.prog X.w) k a fd ps (spOf X.K cl f)) (r : FA X cl k as fs) : FA X cl k (a :: as) (f :: fs)
section
variable {X : Cx} {cl : Str → Option Addr} {Wx : WX} {k : Nat}
theorem FL.all : ∀ {es : List Expr} {fs : List Sem1}, FL X cl k es fs → ∃ as, FA X cl k as fs ∧ PA X es (tAll (as.map V.ref))
  | _, _, .nil => ⟨[], .nil, pa_nil⟩
  | _, _, .cons F hg nd hs r => by
    obtain ⟨a, fd, q1, q2, q3, q4⟩ := F.ex
    obtain ⟨as, h1, h2⟩ := r.all
    exact ⟨a :: as, .cons q2 q3 q4 h1, PA.weaken (pa_cons (pe_glob hg q1 (v := .ref a) rfl nd) h2 hs) fun σ H Q h => h⟩
theorem FA.len {as : List Addr} {fs : List Sem1} (h : FA X cl k as fs) : as.length = fs.length := by
  induction h with
  | nil => rfl
  | cons _ _ _ _ ih => simp [ih]
theorem FA.at {as : List Addr} {fs : List Sem1} (h : FA X cl k as fs) : ∀ {i : Nat} {f : Sem1}, fs[i]? = some f → ∃ a fd ps, as[i]? = some a ∧ PySem.W.keepIn X.K (.ref a) = true ∧ Binds X.K fd ps [] ∧ FnOk X.prog X.w X.K X.mg X.base (L2.CX X.prog X.w) k a fd ps (spOf X.K cl f) := by
  induction h with
  | nil => intro i f e; simp at e
  | @cons a fd g ps as fs h1 h2 h3 r ih =>
    intro i f e
    cases i with
    | zero =>
      simp at e
      subst e
      exact ⟨a, fd, ps, rfl, h1, h2, h3⟩
    | succ i => exact ih (by simpa using e)
def kRetIx (fs : List Sem1) (a : Cmp (List TG.W)) : TG.W → Stm := fun w ρ s => match asInt w with
  | some i => if 0 ≤ i then (match fs[i.toNat]? with | some f => ebS (a ρ s) ρ (kRetC f) | none => .no) else .no
  | none => .no
def sRetIx (fs : List Sem1) (ei : Cmp TG.W) (a : Cmp (List TG.W)) : Stm := fun ρ s => ebS (ei ρ s) ρ (kRetIx fs a)
theorem js_retIx {es as : List Expr} {e a : Expr} {fs : List Sem1} {ei : Cmp TG.W} {el : Cmp (List TG.W)} {p1 p2 pos pos' : Pos} (ok : XOk X Wx) (hr : Room k X.A) (L : FL X cl k es fs) (hi : JE cl Wx X e ei) (ha : JA cl Wx X (a :: as) el)
    (hs : PlainIx e := by exact fun _ _ => rfl) (hz : fs.length ≤ 1000 := by decide) (h2 : starEach (a :: as) X.env = (false, eval a X.env) :: starEach as X.env := by rfl) (h3 : ((backTo pos (starEach as X.env)).any fun x => x.fst) = false := by rfl) :
    JS cl Wx X (.Return (some (.Call (.Subscript (.List es p1) e p2) (a :: as) [] pos)) pos') (sRetIx fs ei el) := by
  obtain ⟨ads, fa, pa⟩ := L.all
  have P : PE X (.Call (.Subscript (.List es p1) e p2) (a :: as) [] pos) (fun σ H Q => tOp (rIxL X.K) (tLst (tAll (ads.map V.ref))) (Tof X.K cl (rrW X.K cl) Wx ei) σ H fun v H1 => ∃ (i : Nat) (ad : Addr) (f : Sem1), v = .ref ad ∧ ads[i]? = some ad ∧ fs[i]? = some f ∧ (Tof X.K cl (rrA X.K cl) Wx el) σ H1 fun vs H2 => spOf X.K cl f vs H2 Q (WE Wx σ)) := by
    refine ⟨fun pins s σ H Q I h => ?_⟩
    rw [arm_sub]
    refine wpAny_bind (thn ((pe_ix ix_list (pe_lst pa) hi hs).run pins s σ H _ I h) fun u s1 ⟨v, H1, I1, rv, i, ad, f, ev, e1, e2, q⟩ => ?_)
    subst ev
    obtain rfl : u = Value.ref ad := rv
    obtain ⟨ad', fd, ps, e3, q1, q2, q3⟩ := fa.at e2
    rw [e1] at e3
    cases e3
    exact PySem.W.callWith_K (h₀ := X.base) I1.ok.mod.kin q1 (thn (ha.run pos pins s1 σ H1 _ I1 q) fun us s2 ⟨vs, H2, I2, r, qq⟩ => ⟨I2.kIn, run_fnS (E := WE Wx) q3 hr q2 (passAt ok.tk σ) I2 r qq⟩) h2 h3
  refine PS.weaken (ps_ret P) fun E σ H ⟨H0, m, ow, s, ρ, cx, h⟩ => ?_
  refine ⟨by rw [List.length_map, fa.len, sizeLine_eq]; omega, fun p hp => ?_⟩
  have g0 : GoE H0 H m H0 (upd H p (.lst (ads.map V.ref))) m := Go.fresh hp
  have c0 := cx.go g0 (cx.st.fresh hp)
  have h : RunS X.K cl Wx H0 H m ow E (ebS (ei ρ s) ρ (kRetIx fs el)) := h
  refine ⟨H0, m, ow, s, ρ, c0, RunS.ofE c0 (h.shift g0.lift) fun w s1 v H1 H1' m1 g c rr h4 => ?_⟩
  unfold kRetIx at h4
  split at h4
  · rename_i i ei2
    by_cases hi0 : 0 ≤ i
    · rw [if_pos hi0] at h4
      split at h4
      · rename_i f ef
        have hil : i.toNat < fs.length := (List.getElem?_eq_some_iff.mp ef).1
        obtain ⟨ad, fd, ps, e3, _⟩ := fa.at ef
        have hl : SqL X.K H1' p (ads.map V.ref) := sqL_of (g.fr p _ upd_same (cx.st.notM hp) (by simp))
        refine ⟨p, ads.map V.ref, i, .ref ad, rfl, asInt_ok rr ei2, hl, ?_, i.toNat, ad, f, rfl, e3, ef, H1, m1, ow, s1, ρ, c, RunS.ofE c h4 fun ws s2 vs H2 H2' m2 g2 c2 rr2 h5 => call_run c2.st rr2 (call_ret c2 h5)⟩
        unfold atI ixN
        rw [if_pos hi0, if_pos (by rw [List.length_map, fa.len]; omega)]
        simp [e3]
      · exact h4.elim
    · rw [if_neg hi0] at h4
      exact h4.elim
  · exact h4.elim
end
end TG

set_option Elab.async false
set_option linter.all false
set_option maxRecDepth 100000
set_option maxHeartbeats 4000000
/-! o.m(e, ..), m a def of o's class -/
namespace TG
open PySem PySem.Spec PyProof.Rows L2
structure MethAt (P : Program) (w : World) (K : PySem.W.Frag) (mg : Str → Option Value) (base : Heap) (cl : Str → Option Addr) (k : Nat) (c m : Str) (ps : List Str) (f : Sem1) : Prop where
  ex : ∃ (C a : Addr) (fd : FuncData), cl c = some C ∧ Cls K C ∧ Meth K C m a ∧ Binds K fd ps [] ∧ FnOk P w K mg base (L2.CX P w) k a fd ps (spOf K cl f)
theorem MethAt.mono {P : Program} {w : World} {K : PySem.W.Frag} {mg : Str → Option Value} {base : Heap} {cl : Str → Option Addr} {j k : Nat} {c m : Str} {ps : List Str} {f : Sem1} (F : MethAt P w K mg base cl j c m ps f) (h : j ≤ k) : MethAt P w K mg base cl k c m ps f := by
  obtain ⟨C, a, fd, h1, h2, h3, h4, h5⟩ := F.ex
  exact ⟨C, a, fd, h1, h2, h3, h4, h5.mono h⟩
def tMethA (C : Addr) (m : Str) (sp : Sp) (E : L2.St → XK) (ta : TE) (t : TA) : TE := fun σ H Q => ta σ H fun x H1 => ∃ a dx fs, x = .ref a ∧ H1 a = some (.ins C dx fs) ∧ fs.lookup m = none ∧ t σ H1 fun vs H2 => sp (.ref a :: vs) H2 Q (E σ)
section
variable {X : Cx} {CX : CXT} {k : Nat} {f C : Addr} {fd : FuncData} {ps : List Str} {sp : Sp} {E : L2.St → XK} {m : Str} {apos pos : Pos} {e o : Expr} {es : List Expr} {ta : TE} {t : TA}
theorem pe_methA {pl : Sem Bool} (he : PE X o ta) (c : Cls X.K C) (hm : Meth X.K C m f) (F : FnOk X.prog X.w X.K X.mg X.base CX k f fd ps sp) (hr : Room k X.A) (hb : Binds X.K fd ps []) (hx : ∀ σ, PassesAt CX X σ (E σ)) (ha : PA X (e :: es) t)
    (q1 : starEach (e :: es) X.env = (false, eval e X.env) :: starEach es X.env) (q2 : (backTo pos (starEach es X.env)).any (·.1) = false)
    (q3 : eval (.Call (.Attribute o m apos) (e :: es) [] pos) X.env = (do
      let ov ← eval o X.env
      standAt apos.atName
      let (f, first) ← holding [ov] (getMethod ov m pl)
      callWith pos f first (backTo pos (starEach (e :: es) X.env)) (backToKw pos (keywordEach [] X.env)))) : PE X (.Call (.Attribute o m apos) (e :: es) [] pos) (tMethA C m sp E ta t) :=
  ⟨fun pins s σ H Q I h => PySem.W.methodCall_KW (pl := pl) (thn (he.run pins s σ H _ I h) fun u s1 ⟨x, H1, I1, rx, a, dx, fs, ex, ea, l, q⟩ => by
    subst ex
    obtain rfl : u = Value.ref a := rx
    exact getmeth_ok I1 ea c hm l (PySem.W.callWith_K (first := [.ref a]) (h₀ := X.base) I.ok.mod.kin hm.kp (thn (ha.run pos pins s1 σ H1 _ I1 q) fun us s2 ⟨vs, H2, I2, r, qq⟩ => ⟨I2.kIn, run_fnS (us := .ref a :: us) (vs := .ref a :: vs) F hr hb (hx σ) I2 (.cons rfl r) qq⟩) q1 q2)) q3⟩
theorem pe_methA0 {pl : Sem Bool} (he : PE X o ta) (c : Cls X.K C) (hm : Meth X.K C m f) (F : FnOk X.prog X.w X.K X.mg X.base CX k f fd ps sp) (hr : Room k X.A) (hb : Binds X.K fd ps []) (hx : ∀ σ, PassesAt CX X σ (E σ))
    (q3 : eval (.Call (.Attribute o m apos) [] [] pos) X.env = (do
      let ov ← eval o X.env
      standAt apos.atName
      let (f, first) ← holding [ov] (getMethod ov m pl)
      callWith pos f first (backTo pos (starEach [] X.env)) (backToKw pos (keywordEach [] X.env)))) : PE X (.Call (.Attribute o m apos) [] [] pos) (tMethA C m sp E ta tNil) :=
  ⟨fun pins s σ H Q I h => PySem.W.methodCall_KW (pl := pl) (thn (he.run pins s σ H _ I h) fun u s1 ⟨x, H1, I1, rx, a, dx, fs, ex, ea, l, q⟩ => by
    subst ex
    obtain rfl : u = Value.ref a := rx
    exact getmeth_ok I1 ea c hm l (PySem.W.callWith_K0 (first := [.ref a]) I1.kIn hm.kp (run_fnS (us := [.ref a]) (vs := [.ref a]) F hr hb (hx σ) I1 (.cons rfl .nil) q))) q3⟩
end
/-- an instance of the class c without an attribute m of its own -/
def insOf (c m : Str) (x : TG.W) (s : S) : Bool := match x with
  | .d (.ins c' l) => decide (c' = c) && (l.lookup m).isNone
  | .d _ => false
  | .r n => match s[n]? with | some (.ins c' l) => decide (c' = c) && (l.lookup m).isNone | _ => false
section
variable {K : PySem.W.Frag} {cl : Str → Option Addr} {H0 H : Hp} {mm : List Addr} {s : S}
theorem RepF.none {fs : List (Str × V)} {l : List (Str × TG.D)} {f : Str} (h : RepF K cl H0 fs l) (e : l.lookup f = none) : fs.lookup f = none := by
  induction l generalizing fs with
  | nil => cases h; rfl
  | cons a l ih =>
    obtain ⟨g, y⟩ := a
    cases h with
    | @cons _ v _ vs _ h1 h2 =>
      cases q : (f == g) with
      | true => simp [List.lookup, q] at e
      | false =>
        simp only [List.lookup, q] at e ⊢
        exact ih h2 e
theorem RepWK.none {fs : List (Str × V)} {l : List (Str × TG.W)} {f : Str} (h : RepWK K cl H0 mm fs l) (e : l.lookup f = none) : fs.lookup f = none := by
  induction h with
  | nil => rfl
  | @cons g v d vs ds h1 h2 ih =>
    cases q : (f == g) with
    | true => simp [List.lookup, q] at e
    | false =>
      simp only [List.lookup, q] at e ⊢
      exact ih e
theorem insOf_ok {c m : Str} {C : Addr} {v : V} {x : TG.W} (hC : cl c = some C) (st : Stt K cl H0 H mm s) (r : RepW K cl H0 mm v x) (e : insOf c m x s = true) : ∃ a dx fs, v = .ref a ∧ H a = some (.ins C dx fs) ∧ fs.lookup m = none := by
  cases x with
  | d x =>
    cases x with
    | ins c' l =>
      have e : (decide (c' = c) && (l.lookup m).isNone) = true := e
      rw [Bool.and_eq_true, decide_eq_true_eq, Option.isNone_iff_eq_none] at e
      obtain ⟨rfl, e2⟩ := e
      cases r with
      | ins h1 h2 h3 =>
        rw [hC] at h2
        cases h2
        exact ⟨_, _, _, rfl, st.sub _ _ h1, h3.none e2⟩
    | _ => exact Bool.noConfusion (show false = true from e)
  | r n =>
    obtain ⟨a, h1, rfl⟩ := r
    have e : (match s[n]? with | some (.ins c' l) => decide (c' = c) && (l.lookup m).isNone | _ => false) = true := e
    split at e
    · rename_i c' l hs
      rw [Bool.and_eq_true, decide_eq_true_eq, Option.isNone_iff_eq_none] at e
      obtain ⟨rfl, e2⟩ := e
      obtain ⟨_, C', dx, fs, k1, k2, k3⟩ := st.cell n a _ h1 hs
      rw [hC] at k2
      cases k2
      exact ⟨a, dx, fs, rfl, k1, k3.none e2⟩
    · cases e
end
/-- what is done with what the def gives -/
def kMeth2 {α : Type} (f : Sem1) (out : RV → S → Res α) (x : TG.W) : List TG.W → S → Res α := fun ws s => (f (x :: ws) s).bind out
def kMeth {α : Type} (c m : Str) (f : Sem1) (out : RV → S → Res α) (a : Cmp (List TG.W)) (ρ : Rho) : TG.W → S → Res α := fun x s => if insOf c m x s = true then (a ρ s).bind (kMeth2 f out x) else .no
def eMeth (c m : Str) (f : Sem1) (o : Cmp TG.W) (a : Cmp (List TG.W)) : Cmp TG.W := fun ρ s => (o ρ s).bind (kMeth c m f frzV a ρ)
def eMethC (c m : Str) (f : Sem1) (o : Cmp TG.W) (a : Cmp (List TG.W)) : Cmp TG.W := fun ρ s => (o ρ s).bind (kMeth c m f kProm a ρ)
def kOwnL : RV → S → Res (List TG.W) := fun rv s => match rv with | .own l => .ok l s | _ => .no
def eMethL (c m : Str) (f : Sem1) (o : Cmp TG.W) (a : Cmp (List TG.W)) : Cmp (List TG.W) := fun ρ s => (o ρ s).bind (kMeth c m f kOwnL a ρ)
section
variable {X : Cx} {cl : Str → Option Addr} {Wx : WX} {e o : Expr} {es : List Expr} {pos apos : Pos} {eo : Cmp TG.W} {el : Cmp (List TG.W)} {k : Nat} {c m : Str} {ps : List Str} {f : Sem1} {pl : Sem Bool}
theorem je_meth (ok : XOk X Wx) (hr : Room k X.A) (F : MethAt X.prog X.w X.K X.mg X.base cl k c m ps f) (ho : JE cl Wx X o eo) (ha : JA cl Wx X (e :: es) el)
    (q1 : starEach (e :: es) X.env = (false, eval e X.env) :: starEach es X.env := by rfl) (q2 : (backTo pos (starEach es X.env)).any (·.1) = false := by rfl)
    (q3 : eval (.Call (.Attribute o m apos) (e :: es) [] pos) X.env = (do
      let ov ← eval o X.env
      standAt apos.atName
      let (f, first) ← holding [ov] (getMethod ov m pl)
      callWith pos f first (backTo pos (starEach (e :: es) X.env)) (backToKw pos (keywordEach [] X.env))) := by rfl) : JE cl Wx X (.Call (.Attribute o m apos) (e :: es) [] pos) (eMeth c m f eo el) := by
  obtain ⟨C, a, fd, hC, h2, h3, h4, h5⟩ := F.ex
  refine PE.weaken (pe_methA ho h2 h3 h5 hr h4 (fun σ => passAt ok.tk σ) ha q1 q2 q3) fun σ H Q ⟨H0, mm, ow, s, ρ, cx, h⟩ => ⟨H0, mm, ow, s, ρ, cx, RunE.bind h fun x s1 v H1 H1' m1 g st rr h6 => ?_⟩
  by_cases hi : insOf c m x s1 = true
  · have h7 : RunE X.K cl (rrW X.K cl) Wx H1 H1' m1 σ Q (if insOf c m x s1 = true then (el ρ s1).bind (kMeth2 f frzV x) else .no) := h6
    rw [if_pos hi] at h7
    obtain ⟨p, dx, fs, rfl, k1, k2⟩ := insOf_ok hC st rr hi
    exact ⟨p, dx, fs, rfl, k1, k2, H1, m1, ow, s1, ρ, cx.go g st, RunE.bind h7 fun ws s2 vs H2 H2' m2 g' st' rr' h8 => call_run st' (.cons (RepW.mono g'.s0 g'.pre rr) rr') (call_frz st' h8)⟩
  · have h7 : RunE X.K cl (rrW X.K cl) Wx H1 H1' m1 σ Q (if insOf c m x s1 = true then (el ρ s1).bind (kMeth2 f frzV x) else .no) := h6
    rw [if_neg hi] at h7
    exact h7.elim
theorem je_meth0 (ok : XOk X Wx) (hr : Room k X.A) (F : MethAt X.prog X.w X.K X.mg X.base cl k c m ps f) (ho : JE cl Wx X o eo)
    (q3 : eval (.Call (.Attribute o m apos) [] [] pos) X.env = (do
      let ov ← eval o X.env
      standAt apos.atName
      let (f, first) ← holding [ov] (getMethod ov m pl)
      callWith pos f first (backTo pos (starEach [] X.env)) (backToKw pos (keywordEach [] X.env))) := by rfl) : JE cl Wx X (.Call (.Attribute o m apos) [] [] pos) (eMeth c m f eo eNil) := by
  obtain ⟨C, a, fd, hC, h2, h3, h4, h5⟩ := F.ex
  refine PE.weaken (pe_methA0 ho h2 h3 h5 hr h4 (fun σ => passAt ok.tk σ) q3) fun σ H Q ⟨H0, mm, ow, s, ρ, cx, h⟩ => ⟨H0, mm, ow, s, ρ, cx, RunE.bind h fun x s1 v H1 H1' m1 g st rr h6 => ?_⟩
  by_cases hi : insOf c m x s1 = true
  · have h7 : RunE X.K cl (rrW X.K cl) Wx H1 H1' m1 σ Q (if insOf c m x s1 = true then (f [x] s1).bind frzV else .no) := h6
    rw [if_pos hi] at h7
    obtain ⟨p, dx, fs, rfl, k1, k2⟩ := insOf_ok hC st rr hi
    exact ⟨p, dx, fs, rfl, k1, k2, call_run st (.cons rr .nil) (call_frz st h7)⟩
  · have h7 : RunE X.K cl (rrW X.K cl) Wx H1 H1' m1 σ Q (if insOf c m x s1 = true then (f [x] s1).bind frzV else .no) := h6
    rw [if_neg hi] at h7
    exact h7.elim
end
end TG

set_option Elab.async false
set_option linter.all false
set_option maxRecDepth 100000
set_option maxHeartbeats 4000000
/-! own dicts: made, stored to, read; max of a tuple of ints; != of two feet -/
namespace NE
open PySem PySem.Spec PyProof.Rows PySem.SeqAt
section
variable {M : Model} {prog : Program} {w : World} {A : Around} {E : Value → Shared → Prop} {s : Shared} {K : PySem.W.Frag} {x C f h₀L : Addr} {ox : Obj} {od : Option Obj} {b : Value}
theorem ifBound_objNe {args : List Value} {Q : Option Value → Shared → Prop} (X : K.In s.heap) (I : PySem.W.InstAt s.heap x ox C od) (hs : PySem.W.findIn K (.ref C) "__ne__" = some (some (.builtin "object.__ne__")))
    (h : wpAny M A (call (.builtin "object.__ne__") (.ref x :: args)) (fun v => Q (some v)) E s) : wpAny M A (callSpecialIfBound? (.ref x) "__ne__" args) Q E s := by
  simp only [callSpecialIfBound?, bindSpecialIfBound?]
  refine wpAny_holding (wpAny_bind (wpAny_bind (wpAny_bind (I.type.here ((PySem.W.looks_findIn X hs).here ?_)))))
  refine wpAny_bind (wpAny_askSetting (wpAny_ite ?_))
  have fin : wpAny M A (call (.builtin "object.__ne__") ([.ref x] ++ args) >>= fun v => pure (some v)) Q E s := wpAny_bind (wpAny_mono h (fun v s' h' => wpAny_pure h') fun _ _ h' => h')
  split
  · exact wpAny_bind (wpAny_of_eq (F.cmp_object.ne.bind _) (wpAny_pure (by exact fin)))
  · exact wpAny_tryCatch (wpAny_bind (wpAny_of_eq (F.cmp_object.ne.bind _) (wpAny_pure (by exact fin))))
theorem objNe_entry (X : K.In s.heap) (I : PySem.W.InstAt s.heap x ox C od) (hs : PySem.W.findIn K (.ref C) "__eq__" = some (some (.ref f))) (hf : PySem.W.isFn K (.ref f) = true) (hu : A.units < cLine) {Q : Fin → Shared → Prop}
    (hcall : wpAny (model prog w) A (call (.ref f) [.ref x, b]) (fun v s' => v = .bool true ∧ Q (.done (.ret (.bool false))) s') E s) :
    wpAny (model prog w) A (Builtin.«object.__ne__» ⟨[.ref x, b], []⟩) Q E s := by
  unfold Builtin.«object.__ne__»
  repeat (first
    | with_reducible refine wpAny_cRoomFor hu ?_
    | (refine wpAny_bind (m := callSpecialIfBound? (.ref x) (Str.ofString "__eq__") [b])
        (PySem.W.ifBound_K X I hs hf (wpAny_mono hcall (fun r s' hr => by
          obtain ⟨rfl, hq⟩ := hr
          repeat (first | exact hq | exact wpAny_pure hq | exact wpAny_truthy_bool hq | (refine wpAny_bind (m := truthy (.bool _)) (wpAny_truthy_bool ?_)) | wp_step)) fun _ _ e => e)))
    | wp_step)
theorem rc_ne (X : K.In s.heap) (I : PySem.W.InstAt s.heap x ox C od) (hb : PySem.W.Looks (model prog w) s.heap (typeOf b) (.ref C)) (hm : PySem.W.mroIn K C (.type "object") = some true)
    (hn : PySem.W.findIn K (.ref C) "__ne__" = some (some (.builtin "object.__ne__")))
    (hs : PySem.W.findIn K (.ref C) "__eq__" = some (some (.ref f))) (hf : PySem.W.isFn K (.ref f) = true) (hu : A.units + 1 < cLine) {Q : Value → Shared → Prop}
    (hcall : wpAny (model prog w) A.in1 (call (.ref f) [.ref x, b]) (fun v s' => v = .bool true ∧ Q (.bool false) s') E s) :
    wpAny (model prog w) A (richCompare .NotEq (.ref x) b) Q E s := by
  have one : wpAny (model prog w) A (tryCompare (.ref x) "__ne__" b) (fun r s' => r = some (.bool false) ∧ Q (.bool false) s') E s := by
    unfold tryCompare
    refine wpAny_bind (ifBound_objNe X I hn (wpAny_call (codeAny_call_builtin F.cmp_object.ne.plain F.cmpEntry_ne (PySem.W.check_slot F.cmpKind_ne F.cmpSplit_ne (I.type.andThen (PySem.W.looks_mroIn X hm)) (F.cmpArgs_ne _ _)
      (objNe_entry (A := A.in1) X I hs hf hu (wpAny_mono hcall (fun v s' hv => ?_) fun _ _ e => e))))))
    obtain ⟨rfl, hq⟩ := hv
    first | exact ⟨rfl, wpAny_pure ⟨rfl, hq⟩⟩ | exact ⟨rfl, wpAny_pure (wpAny_pure ⟨rfl, hq⟩)⟩ | exact ⟨rfl, rfl, hq⟩
  unfold richCompare
  simp only [oneThing_ref]
  refine wpAny_holding (wpAny_bind (wpAny_cRoomFor (Nat.lt_of_succ_lt hu) ?_))
  refine wpAny_bind (I.type.here (wpAny_bind (hb.here ?_)))
  rw [cmpInfo_NotEq]
  dsimp only
  rw [show (Value.ref C != Value.ref C) = false from by simp]
  simp only [Bool.false_eq_true, if_false]
  refine wpAny_bind (wpAny_pure ?_)
  simp only [Bool.false_eq_true, if_false]
  refine wpAny_bind (wpAny_mono one (fun r s' z => ?_) fun _ _ e => e)
  obtain ⟨rfl, hq⟩ := z
  first | exact wpAny_pure hq | exact wpAny_pure (wpAny_pure hq)
end
end NE
namespace L2
open PySem PySem.Spec PyProof.Rows
theorem rc_neIns {X : Cx} {n : Nat} {CX : CXT} {C f : Addr} {fd : FuncData} {ps : List Str} {R : Addr → Addr → Hp → Prop} {E : XK} (F : FnOk X.prog X.w X.K X.mg X.base CX n f fd ps (spEq R))
    (hm : PySem.W.mroIn X.K C (.type "object") = some true) (hn : PySem.W.findIn X.K (.ref C) "__ne__" = some (some (.builtin "object.__ne__")))
    (hs : PySem.W.findIn X.K (.ref C) "__eq__" = some (some (.ref f))) (hf : PySem.W.isFn X.K (.ref f) = true) (hb : Binds X.K fd ps []) (hx : Passes CX X E)
    {A : Around} {pins : List (Addr × Obj)} {s : Shared} {σ : St} {H : Hp} {a b dx dy : Addr} {fs gs : List (Str × V)} (sb : Sub X (n + 1) A) (I : Inv X pins σ H s) (ha : H a = some (.ins C dx fs)) (hb' : H b = some (.ins C dy gs)) (hr : R a b H) :
    wpAny (model X.prog X.w) A (richCompare .NotEq (.ref a) (.ref b)) (fun r s' => r = .bool false ∧ ∃ H', Inv X pins σ H' s' ∧ Ext H H') X.xe s := by
  obtain ⟨mA, J, _⟩ := ins_get I.hok ha
  obtain ⟨mB, J', _⟩ := ins_get I.hok hb'
  obtain ⟨od, J, _⟩ := J.look
  obtain ⟨od', J', _⟩ := J'.look
  have hu : A.units + 1 < cLine := by have := sb.room.units; omega
  refine NE.rc_ne I.kIn J J'.type hm hn hs hf hu ?_
  have hsp : spEq R [.ref a, .ref b] H (fun v H' => v = .bl true ∧ Ext H H') E := ⟨a, b, rfl, hr, fun H' e => ⟨rfl, e⟩⟩
  have sb1 := sb.in1
  have e0 : Env0 X.prog X.w X.K X.mg X.base A.in1 X.stack s H := by
    have e := I.env0
    exact ⟨by rw [sb1.fr]; exact e.frames, e.mod, e.bs, e.bsz, e.funs, e.frf, e.hok, e.bare⟩
  have hl := F.len _ _ _ _ hsp
  have r2 : Vals [V.ref a, V.ref b] [Value.ref a, Value.ref b] := .cons rfl (.cons rfl .nil)
  refine wpAny_call (codeAny_mono (F.run A.in1 X.stack s H ⟨[.ref a, .ref b], []⟩ [.ref a, .ref b] [.ref a, .ref b] _ E sb1.room e0 (by
    have := hb s [.ref a, .ref b] I.kIn (by simpa using hl)
    simpa using this) r2 hsp) fun r s' hq => ?_)
  cases r with
  | error e => exact hx pins σ H s e s' I hq
  | ok fl =>
    cases fl with
    | ret w =>
      obtain ⟨z, H', I', rz, ez, ex⟩ := I.after hq
      subst ez
      cases rz
      exact ⟨rfl, rfl, H', I', ex⟩
    | next => exact False.elim hq
    | brk => exact False.elim hq
    | cont => exact False.elim hq
def rMaxT (K : PySem.W.Frag) : List V → Hp → VK → Prop := fun vs H Q => ∃ (a : Addr) (n : Int) (ns : List Int), vs = [V.ref a] ∧ SqT K H a ((n :: ns).map V.int) ∧ Q (.int (ns.foldl max n)) H
theorem cr_maxT {X : Cx} (hc : X.calm = true) (hu : X.A.units + 1 < cLine) : CallR X (.builtin "max") (rMaxT X.K) := by
  intro pins s σ H vs us Q I r h
  obtain ⟨a, n, ns, rfl, hs, q⟩ := h
  obtain ⟨its, rv, hl, _⟩ := I.tuple hs
  rw [Vals.ref1 r]
  have hi : IntsAre its (n :: ns) := ints_of_vals rv
  refine PySem.W.max_tuple_data (I.ok.hd hc) hl (x := .int n) (xs := ns.map .int) (IntsAre.reads _ (by simpa using hi)) (alike_ints (n :: ns)) (by rw [show (PyData.int n :: ns.map PyData.int) = (n :: ns).map PyData.int from rfl, depth_ints]; omega) fun i v h' tk bs _ hr hk => ?_
  rw [PySem.W.maxD_ints] at hr
  cases hr
  exact ⟨.int _, H, I.kept hk, ⟨_, rfl⟩, q⟩
end L2
namespace TG
open PySem PySem.Spec PyProof.Rows L2
def fMaxT : TG.W → S → Res TG.W := fun x s => match asTup x with
  | some l => (match allInts (wD l) with | some (n :: ns) => .ok (.d (.int (ns.foldl max n))) s | _ => .no)
  | none => .no
theorem calls_maxT {K : PySem.W.Frag} {cl : Str → Option Addr} : CallS K cl (rMaxT K) (c1 fMaxT) := calls1 fun Wx σ H0 H m s x wx Q st rx h => by
  unfold fMaxT at h
  split at h
  · rename_i l e1
    split at h
    · rename_i n ns e2
      obtain ⟨p, vs, q1, q2, q3⟩ := asTup_ok rx e1
      have := (q3.ws (m := m)).ints e2
      subst this
      exact ⟨p, n, ns, by rw [q1], sqT_of (st.sub _ _ q2), RunE.done (RR := rrW K cl) h st .int⟩
    · exact h.elim
  · exact h.elim
/-! ### != of two feet of the same data -/
structure NeFoot (P : Program) (w : World) (K : PySem.W.Frag) (mg : Str → Option Value) (base : Heap) (cl : Str → Option Addr) (k : Nat) (ps : List Str) (f : Sem1) : Prop where
  eq : EqFoot P w K mg base cl k ps f
  ne : ∀ C, cl "Foot" = some C → PySem.W.findIn K (.ref C) "__ne__" = some (some (.builtin "object.__ne__")) ∧ PySem.W.mroIn K C (.type "object") = some true
section
variable {X : Cx} {cl : Str → Option Addr} {k : Nat} {ps : List Str} {f : Sem1}
def rNeI (K : PySem.W.Frag) (cl : Str → Option Addr) : R2 := fun x y H Q => (∃ d : TG.D, isFootD d = true ∧ Two K cl d x y H) ∧ ∀ H', Ext H H' → Q (.bl false) H'
theorem op_neI (F : NeFoot X.prog X.w X.K X.mg X.base cl k ps f) (hr : Room (k + 1) X.A) : OpR X (compareOp .NotEq) (rNeI X.K cl) := by
  intro pins s σ H x y v u Q I rx ry hq
  obtain ⟨⟨d, hd, H0, sm, r1, r2⟩, q⟩ := hq
  show wpAny (model X.prog X.w) X.A (richCompare .NotEq v u) (EP X pins σ Q) X.xe s
  obtain ⟨C, a, fd, h1, h2, h3, h4, h5⟩ := F.eq.ex
  obtain ⟨n1, n2⟩ := F.ne C h1
  have G : FnOk X.prog X.w X.K X.mg X.base (L2.CX X.prog X.w) k a fd ps (spEq (RFoot X.K cl)) := h5.imp fun vs H Q E ⟨x, y, e, ⟨d, hf, H0, s, r1, r2⟩, q⟩ => by
    subst e
    refine ⟨H0, [], [], [.d d, .d d], ⟨s, rfl, List.nodup_nil, fun n a c h => by simp at h⟩, .cons r1 (.cons r2 .nil), ?_⟩
    rw [F.eq.self d hf]
    intro v H0' H' m' g st rr
    have e : v = .bl true := by
      have rr : RepW X.K cl H0' m' v (.d (.bl true)) := rr
      cases rr
      rfl
    subst e
    exact q H' fun a o h => g.fr a o h (by simp) (by simp)
  cases d with
  | ins c l =>
    cases r1 with
    | ins a1 a2 a3 =>
      cases r2 with
      | ins b1 b2 b3 =>
        have hc : c = "Foot" := by
          unfold isFootD at hd
          split at hd
          · rename_i e
            injection e with e1 e2
            simp only [Bool.and_eq_true, decide_eq_true_eq] at hd
            rw [e1]
            exact hd.1.1.1
          · cases hd
        subst hc
        rw [h1] at a2 b2
        cases a2
        cases b2
        cases rx
        cases ry
        refine wpAny_mono (rc_neIns G n2 n1 h2 h3 h4 noPass ⟨hr, rfl⟩ I (sm _ _ a1) (sm _ _ b1) ⟨.ins "Foot" l, hd, H0, sm, .ins a1 h1 a3, .ins b1 h1 b3⟩) (fun r s' z => ?_) fun _ _ e => e
        obtain ⟨rfl, H', I', ex⟩ := z
        exact ⟨.bl false, H', I', rfl, q H' ex⟩
  | _ => cases hd
open Classical in
noncomputable def fNeI : TG.W → TG.W → S → Res TG.W := fun x y s => match x, y with
  | .d l, .d r => if l = r ∧ isFootD l = true then .ok (.d (.bl false)) s else .no
  | _, _ => .no
theorem ops_neI {K : PySem.W.Frag} : OpS K cl (rNeI K cl) fNeI := fun Wx σ H0 H m s x y wx wy Q st rx ry h => by
  unfold fNeI at h
  split at h
  · rename_i l r
    split at h
    · rename_i hh
      obtain ⟨rfl, h1⟩ := hh
      refine ⟨⟨l, h1, H0, st.sub, rx, ry⟩, fun H' e => ?_⟩
      exact h (.bl false) H0 H' m ⟨Same.refl _, List.prefix_rfl, fun a o h _ _ => e a o h, fun a h => by
        cases q : H a with
        | none => exact absurd q h
        | some o => rw [e a o q]; simp, fun _ _ _ _ h => h, fun _ h => .inl h, fun _ h => .inl h⟩ ⟨st.sub.trans e, st.len, st.nd, fun n a c q1 q2 => by
          obtain ⟨z1, z2⟩ := st.cell n a c q1 q2
          exact ⟨z1, z2.mono (Same.refl _) List.prefix_rfl fun o q => e a o q⟩⟩ .bl
    · exact h.elim
  · exact h.elim
end
/-! ### own dicts -/
def keyI (k : Int) : Key := .inl k
def valDW (l : List (Key × TG.W)) (k : Key) : Option TG.W := (l.find? fun kv => decide (kv.1 = k)).map (·.2)
def putDW (l : List (Key × TG.W)) (k : Key) (v : TG.W) : List (Key × TG.W) :=
  if (l.any fun kv => decide (kv.1 = k)) = true then l.map (fun kv => if kv.1 = k then (kv.1, v) else kv) else l ++ [(k, v)]
section
variable {K : PySem.W.Frag} {cl : Str → Option Addr} {H0 : Hp} {m : List Addr} {kvs : List (Key × V)} {l : List (Key × TG.W)}
theorem rdk_get (h : RepWK K cl H0 m kvs l) (k : Key) : (valV kvs k = none ∧ valDW l k = none) ∨ ∃ v x, valV kvs k = some v ∧ valDW l k = some x ∧ RepW K cl H0 m v x := by
  induction h with
  | nil => exact .inl ⟨rfl, rfl⟩
  | @cons q v d vs ds h1 h2 ih =>
    by_cases e : q = k
    · exact .inr ⟨v, d, by simp [valV, e], by simp [valDW, e], h1⟩
    · have e1 : valV ((q, v) :: vs) k = valV vs k := valV_neg (p := (q, v)) e
      have e2 : valDW ((q, d) :: ds) k = valDW ds k := by simp [valDW, List.find?_cons, e]
      rw [e1, e2]
      exact ih
theorem rdk_keys (h : RepWK K cl H0 m kvs l) (k : Key) : (kvs.any fun kv => decide (kv.1 = k)) = l.any fun kv => decide (kv.1 = k) := by
  induction h with
  | nil => rfl
  | cons h1 h2 ih => rw [List.any_cons, List.any_cons, ih]
theorem rdk_repl {v : V} {x : TG.W} (r : RepW K cl H0 m v x) (k : Key) (h : RepWK K cl H0 m kvs l) : RepWK K cl H0 m (kvs.map fun kv => if kv.1 = k then (kv.1, v) else kv) (l.map fun kv => if kv.1 = k then (kv.1, x) else kv) := by
  induction h with
  | nil => exact .nil
  | @cons q u d vs ds h1 h2 ih =>
    rw [List.map_cons, List.map_cons]
    by_cases e : q = k
    · rw [if_pos e, if_pos e]; exact .cons r ih
    · rw [if_neg e, if_neg e]; exact .cons h1 ih
theorem rdk_snoc {v : V} {x : TG.W} (r : RepW K cl H0 m v x) (k : Key) (h : RepWK K cl H0 m kvs l) : RepWK K cl H0 m (kvs ++ [(k, v)]) (l ++ [(k, x)]) := by
  induction h with
  | nil => exact .cons r .nil
  | cons h1 h2 ih => exact .cons h1 ih
theorem rdk_put {v : V} {x : TG.W} (h : RepWK K cl H0 m kvs l) (r : RepW K cl H0 m v x) (k : Key) : RepWK K cl H0 m (putK kvs k v) (putDW l k x) := by
  unfold putK putDW
  rw [rdk_keys h k]
  split
  · exact rdk_repl r k h
  · exact rdk_snoc r k h
theorem rdk_len (h : RepWK K cl H0 m kvs l) : kvs.length = l.length := by
  induction h with
  | nil => rfl
  | cons h1 h2 ih => rw [List.length_cons, List.length_cons, ih]
end
def eDNew : Cmp (List (Key × TG.W)) := fun _ s => .ok [] s
def kGetO2 (l : List (Key × TG.W)) (k : Int) : TG.W → S → Res TG.W := fun z s => .ok ((valDW l (keyI k)).getD z) s
def kGetO (l : List (Key × TG.W)) (f : Cmp TG.W) (ρ : Rho) : TG.W → S → Res TG.W := fun y s => match asInt y with | some k => (f ρ s).bind (kGetO2 l k) | none => .no
def eGetO (i : Nat) (e f : Cmp TG.W) : Cmp TG.W := fun ρ s => match (ρ[i]? : Option EV) with | some (.ownD l) => (e ρ s).bind (kGetO l f ρ) | _ => .no
def kIxKO (l : List (Key × TG.W)) : TG.W → S → Res TG.W := fun y s => match asInt y with | some k => (match valDW l (keyI k) with | some x => .ok x s | none => .no) | none => .no
def eIxKO (i : Nat) (e : Cmp TG.W) : Cmp TG.W := fun ρ s => match (ρ[i]? : Option EV) with | some (.ownD l) => (e ρ s).bind (kIxKO l) | _ => .no
def kSetKO2 (i : Nat) (l : List (Key × TG.W)) (x : TG.W) : TG.W → Stm := fun z ρ s => match asInt z with | some k => if l.length < 16777216 then .nx (ρ.set i (.ownD (putDW l (keyI k) x))) s else .no | none => .no
def kSetKO (i : Nat) (k : Cmp TG.W) : TG.W → Stm := fun x ρ s => match (ρ[i]? : Option EV) with | some (.ownD l) => ebS (k ρ s) ρ (kSetKO2 i l x) | _ => .no
def sSetKO (i : Nat) (k v : Cmp TG.W) : Stm := fun ρ s => ebS (v ρ s) ρ (kSetKO i k)
section
variable {X : Cx} {cl : Str → Option Addr} {Wx : WX} {e i o f : Expr} {pos p1 p2 p3 p : Pos} {ea ei ef : Cmp TG.W} {x : Str}
theorem jd_new : JD cl Wx X (.Dict [] [] pos) eDNew := PE.weaken pe_dnewK fun σ H Q ⟨H0, m, ow, s, ρ, cx, h⟩ p hp => by
  have h : RunE X.K cl (rrD X.K cl) Wx H0 H m σ Q (.ok [] s) := h
  have h0 : H0 p = none := by
    cases q : H0 p with
    | none => rfl
    | some o => have := cx.st.sub _ _ q; rw [hp] at this; cases this
  have hm : p ∉ m := fun z => by
    obtain ⟨n, hn, hn2⟩ := List.mem_iff_getElem.mp z
    have e1 : m[n]? = some p := by rw [List.getElem?_eq_getElem hn, hn2]
    obtain ⟨c, hc⟩ : ∃ c, s[n]? = some c := ⟨s[n]'(by rw [← cx.st.len]; exact hn), List.getElem?_eq_getElem _⟩
    obtain ⟨_, k1⟩ := cx.st.cell n p c e1 hc
    cases c with
    | lst l => obtain ⟨vs, k2, _⟩ := k1; rw [hp] at k2; cases k2
    | dic l => obtain ⟨vs, k2, _⟩ := k1; rw [hp] at k2; cases k2
    | ins c l => obtain ⟨C, dx, fs, k2, _⟩ := k1; rw [hp] at k2; cases k2
  have ne : ∀ a o, H a = some o → a ≠ p := fun a o q z => by subst z; rw [hp] at q; cases q
  refine h (.ref p) H0 (upd H p (.dK [])) m ⟨Same.refl _, List.prefix_rfl, fun a o q _ _ => by rw [upd_ne (ne a o q)]; exact q, fun a q => by
    unfold upd; split
    · simp
    · exact q, fun _ _ _ _ q => q, fun _ q => .inl q, fun _ q => .inl q⟩ (cx.st.updOwn h0 hm) ⟨p, [], rfl, hp, upd_same, h0, hm, .nil⟩
theorem je_getO (n : Nat) (hr : Room 1 X.A) (he : JE cl Wx X e ei) (hf : JE cl Wx X f ef) (hN : X.N[n]? = some x := by rfl) (hv : Vis X.env.scope x := by first | exact Or.inl rfl | exact Or.inr (Or.inl rfl) | exact Or.inr (Or.inr rfl)) (hd : (x == ("__debug__" : Str)) = false := by decide)
    (hcd : (x == ("__classdict__" : Str)) = false := by decide)
    (m1 : attributeBase (.Name x p1) "get" X.env (eval (.Name x p1) X.env) = eval (.Name x p1) X.env := by rfl)
    (m2 : ((backTo p3 (starEach [e, f] X.env)).all (fun x => !x.1) && (backToKw p3 (keywordEach [] X.env)).all (fun x => x.1.isSome) && decide (([e, f] : List Expr).length + ([] : List Keyword).length + (if ([] : List Keyword).isEmpty then 0 else 1) < 30)) = true := by rfl)
    (m3 : (p2.endLine == p3.line) = true := by rfl) (m4 : backTo p3 (starEach [e, f] X.env) = [(false, eval e X.env), (false, eval f X.env)] := by rfl) :
    JE cl Wx X (.Call (.Attribute (.Name x p1) "get" p2) [e, f] [] p3) (eGetO n ei ef) :=
  PE.weaken (pe_dget2 (by have := hr.units; omega) (pe_var hN hv hd hcd) he hf ⟨m1, m2, m3, m4⟩) fun σ H Q ⟨H0, m, ow, s, ρ, cx, h⟩ => by
    unfold eGetO at h
    split at h
    · rename_i l e0
      obtain ⟨p, vs, h1, h2, h3, h4⟩ := cx.en.slot n _ e0
      refine ⟨.ref p, h1, p, rfl, .inl ⟨vs, .inl h3⟩, H0, m, ow, s, ρ, cx, RunE.bind h fun y s1 v H1 H1' m1 g st rr q => ?_⟩
      have q : RunE X.K cl (rrW X.K cl) Wx H1 H1' m1 σ Q (match asInt y with | some k => (ef ρ s1).bind (kGetO2 l k) | none => .no) := q
      split at q
      · rename_i kk e1
        have c1 := cx.go g st
        refine ⟨H1, m1, ow, s1, ρ, c1, RunE.bind q fun z s2 v2 H2 H2' m2 g2 st2 rr2 q2 => ?_⟩
        have q2 : RunE X.K cl (rrW X.K cl) Wx H2 H2' m2 σ Q (.ok ((valDW l (keyI kk)).getD z) s2) := q2
        obtain ⟨p', us, k1, k2, k3, k4⟩ := (c1.go g2 st2).en.slot n _ e0
        rw [h1] at k1
        cases k1
        have ek : v = .int kk := asInt_ok rr e1
        subst ek
        rcases rdk_get k4 (keyI kk) with ⟨z1, z2⟩ | ⟨u, w, z1, z2, z3⟩
        · refine ⟨none, .inl ⟨us, keyI kk, .inl k3, rfl, z1.symm⟩, ?_⟩
          rw [z2] at q2
          exact RunE.done (RR := rrW X.K cl) q2 st2 rr2
        · refine ⟨some u, .inl ⟨us, keyI kk, .inl k3, rfl, z1.symm⟩, ?_⟩
          rw [z2] at q2
          exact RunE.done (RR := rrW X.K cl) q2 st2 z3
      · exact q.elim
    · exact h.elim
theorem je_ixKO (n : Nat) (hr : Room 1 X.A) (hi : JE cl Wx X e ei) (hN : X.N[n]? = some x := by rfl) (hv : Vis X.env.scope x := by first | exact Or.inl rfl | exact Or.inr (Or.inl rfl) | exact Or.inr (Or.inr rfl)) (hd : (x == ("__debug__" : Str)) = false := by decide)
    (hcd : (x == ("__classdict__" : Str)) = false := by decide) (hs : NoSl e := by exact fun _ _ => rfl) : JE cl Wx X (.Subscript (.Name x p1) e pos) (eIxKO n ei) :=
  PE.weaken (pe_dget (by have := hr.units; omega) (pe_var hN hv hd hcd) hi hs) fun σ H Q ⟨H0, m, ow, s, ρ, cx, h⟩ => by
    unfold eIxKO at h
    split at h
    · rename_i l e0
      obtain ⟨p, vs, h1, h2, h3, h4⟩ := cx.en.slot n _ e0
      refine ⟨.ref p, h1, H0, m, ow, s, ρ, cx, RunE.bind h fun y s1 v H1 H1' m1 g st rr q => ?_⟩
      have q : RunE X.K cl (rrW X.K cl) Wx H1 H1' m1 σ Q (kIxKO l y s1) := q
      obtain ⟨p', us, k1, k2, k3, k4⟩ := (cx.go g st).en.slot n _ e0
      rw [h1] at k1
      cases k1
      unfold kIxKO at q
      split at q
      · rename_i kk e1
        split at q
        · rename_i w e2
          have ek : v = .int kk := asInt_ok rr e1
          subst ek
          rcases rdk_get k4 (keyI kk) with ⟨z1, z2⟩ | ⟨u, w', z1, z2, z3⟩
          · rw [z2] at e2; cases e2
          · rw [z2] at e2
            cases e2
            exact ⟨p, u, rfl, .inl ⟨us, keyI kk, .inl k3, rfl, z1.symm⟩, RunE.done (RR := rrW X.K cl) q st z3⟩
        · exact q.elim
      · exact q.elim
    · exact h.elim
theorem js_setKO (n : Nat) (hr : Room 1 X.A) (hi : JE cl Wx X i ei) (h : JE cl Wx X e ea) (hN : X.N[n]? = some x := by rfl) (hv : Vis X.env.scope x := by first | exact Or.inl rfl | exact Or.inr (Or.inl rfl) | exact Or.inr (Or.inr rfl)) (hd : (x == ("__debug__" : Str)) = false := by decide)
    (hcd : (x == ("__classdict__" : Str)) = false := by decide)
    (ha : ∀ v : Value, assign (.Subscript (.Name x p1) i p2) X.env v = (do let ov ← holding [v] (eval (.Name x p1) X.env); let iv ← holding [v, ov] (eval i X.env); standAt p2; holding [v, ov, iv] (setItem ov iv v); release [v, ov, iv] []) := by exact fun _ => rfl)
    (h1 : swapsWithSole [.Subscript (.Name x p1) i p2] e pos.line X.env = pure false := by rfl) (h2 : swappedStores [.Subscript (.Name x p1) i p2] e X.env = pure none := by rfl) (h3 : List.map (fun x => x.snd) (assignEach [.Subscript (.Name x p1) i p2] X.env) = [assign (.Subscript (.Name x p1) i p2) X.env] := by rfl) :
    JS cl Wx X (.Assign [.Subscript (.Name x p1) i p2] e pos) (sSetKO n ei ea) :=
  PS.weaken (ps_asg h (pg_sub (pe_var hN hv hd hcd) hi (set_dict (by have := hr.units; omega)) ha) h1 h2 h3) fun E σ H ⟨H0, m, ow, s, ρ, cx, h⟩ => ⟨H0, m, ow, s, ρ, cx, RunS.ofE cx h fun y s1 v H1 H1' m1 g c rr q1 => by
    have q1 : RunS X.K cl Wx H1 H1' m1 ow E (kSetKO n ei y ρ s1) := q1
    unfold kSetKO at q1
    split at q1
    · rename_i l e0
      obtain ⟨p, vs, h1, h2, h3, h4⟩ := c.en.slot n _ e0
      refine ⟨.ref p, h1, H1, m1, ow, s1, ρ, c, RunS.ofE c q1 fun z s2 uz H2 H2' m2 g2 c2 r2 q2 => ?_⟩
      have q2 : RunS X.K cl Wx H2 H2' m2 ow E (kSetKO2 n l y z ρ s2) := q2
      obtain ⟨p', us, k1, k2, k3, k4⟩ := c2.en.slot n _ e0
      rw [h1] at k1
      cases k1
      have rr := RepW.mono g2.s0 g2.pre rr
      unfold kSetKO2 at q2
      split at q2
      · rename_i kk e1
        split at q2
        · rename_i hl
          have ek : uz = .int kk := asInt_ok r2 e1
          subst ek
          refine ⟨p, _, rfl, .inl ⟨us, keyI kk, k3, rfl, size_lt (by rw [rdk_len k4]; exact hl), rfl⟩, ?_⟩
          exact q2 _ _ _ _ _ (Go.updOwn k2) (c2.updOwn e0 rfl h1 k2 rfl ⟨p, _, rfl, k2, upd_same, rdk_put k4 rr _⟩)
        · exact q2.elim
      · exact q2.elim
    · exact q1.elim⟩
end
end TG

set_option Elab.async false
set_option linter.all false
set_option maxRecDepth 100000
set_option maxHeartbeats 4000000
/-! a tuple turned about; min of three ints; a list taken apart -/
namespace HT
open PySem PySem.Spec PyProof.Rows
section
variable {prog : Program} {w : World} {A : Around} {E : Value → Shared → Prop} {s : Shared}
theorem adjust_rev (n : Nat) : Builtin.Slice.sliceAdjust none none (-1) (n : Int) = ((n : Int) - 1, -1) := by
  unfold Builtin.Slice.sliceAdjust
  have h1 : (-1 : Int) < 0 := by omega
  simp only [h1, if_true]
theorem places_rev (n : Nat) : Builtin.Slice.slicePlaces ((n : Int) - 1) (-1) (-1) = n := by
  unfold Builtin.Slice.slicePlaces
  have h1 : ¬ ((-1 : Int) > 0) := by omega
  simp only [h1, if_false]
  by_cases h : (n : Int) - 1 > -1
  · rw [if_pos h, show (- -1 : Int) = 1 by decide, Int.ediv_one]
    omega
  · rw [if_neg h]
    omega
theorem pick_rev (xs : Array Value) : ((List.range xs.size).filterMap fun (m : Nat) => xs[(((xs.size : Nat) : Int) - 1 + (m : Int) * (-1)).toNat]?).toArray = xs.toList.reverse.toArray := by
  have e : (fun (m : Nat) => xs[(((xs.size : Nat) : Int) - 1 + (m : Int) * (-1)).toNat]?) = (fun k => xs[k]?) ∘ fun m => xs.size - 1 - m := by
    funext m
    show xs[(((xs.size : Nat) : Int) - 1 + (m : Int) * (-1)).toNat]? = xs[xs.size - 1 - m]?
    rw [show (((xs.size : Nat) : Int) - 1 + (m : Int) * (-1)).toNat = xs.size - 1 - m by omega]
  rw [e, ← List.filterMap_map, PySem.W.krv_range, List.filterMap_reverse, PySem.W.krv_all]
theorem sliceApplied_rev {sl : Addr} {vl vu vs : Value} {n : Nat} {Q : Int × Int × Nat → Shared → Prop} (hs : s.heap.IsSliceOf sl vl vu vs) (pl : IsPart vl none) (pu : IsPart vu none) (ps : IsPart vs (some (-1)))
    (h : Q ((n : Int) - 1, -1, n) s) : wpAny (model prog w) A (Builtin.Slice.sliceApplied (.ref sl) (pure (n : Int))) Q E s := by
  obtain ⟨os, hos, hcs, hds⟩ := id hs
  unfold Builtin.Slice.sliceApplied Builtin.Slice.sliceFields
  refine wpAny_bind (wpAny_bind (wpAny_field hos hds (x := vl) rfl (wpAny_bind (wpAny_field hos hds (x := vu) rfl (wpAny_bind (wpAny_field hos hds (x := vs) rfl (wpAny_pure ?_)))))))
  refine wpAny_bind (slicePart_ ps ?_)
  show wpAny _ _ (if ((-1 : Int) == 0) = true then _ else _) _ _ s
  rw [if_neg (by decide)]
  refine wpAny_bind (slicePart_ pl (wpAny_bind (slicePart_ pu (wpAny_bind (wpAny_pure ?_)))))
  show wpAny _ _ (match Builtin.Slice.sliceAdjust none none (-1) (n : Int) with | (lo, hi) => pure (lo, (-1 : Int), Builtin.Slice.slicePlaces lo hi (-1))) _ _ s
  rw [adjust_rev n]
  show wpAny _ _ (pure ((n : Int) - 1, (-1 : Int), Builtin.Slice.slicePlaces ((n : Int) - 1) (-1) (-1))) _ _ s
  rw [places_rev]
  exact wpAny_pure h
theorem getItem_tuple_rev {t sl : Addr} {items : Array Value} {vl vu vs : Value} {Q : Value → Shared → Prop} (ht : IsTup s.heap t items) (hs : s.heap.IsSliceOf sl vl vu vs) (pl : IsPart vl none) (pu : IsPart vu none) (ps : IsPart vs (some (-1)))
    (h : Q (.ref s.heap.objs.size) { s with heap := s.heap.push { cls := .type "tuple", data := .seq items.toList.reverse.toArray } })
    (hsz : items.size ≤ sizeLine) : wpAny (model prog w) A (getItem (.ref t) (.ref sl)) Q E s := by
  have htake : sizeOk (.seq items.toList.reverse.toArray) := by
    show items.toList.reverse.toArray.size ≤ sizeLine
    rw [List.size_toArray, List.length_reverse, Array.length_toList]
    exact hsz
  obtain ⟨os, hos, hcs, hds⟩ := id hs
  have hTs : s.TypeIs (.ref sl) "slice" := ⟨os, hos, hcs⟩
  unfold getItem
  try with_reducible refine wpAny_holding ?_
  first | refine wpAny_bind (wpAny_pure ?_) | skip
  refine wpAny_bind (wpAny_sequenceKey ht.typeIs (by decide) ?_)
  refine wpAny_bind (wpAny_callSpecial?_slot (name := Str.ofString "__getitem__") ht.typeIs PyProof.Rows.slot_tuple_getitem
    (wpAny_call_entry PyProof.Rows.slot_tuple_getitem ht.typeIs entry_tuple_getitem ?_ (args_tuple_getitem _ _)))
  show wpAny _ _ (Builtin.Tuple.tupleItemsOf (.ref t) >>= _) _ _ s
  refine wpAny_bind (tupleItemsOf_ ht ?_)
  refine wpAny_bind (wpAny_typeOf hTs ?_)
  rw [if_pos (by decide)]
  refine wpAny_bind (sliceApplied_rev hs pl pu ps ?_)
  have hno : ¬ ((((items.size : Nat) : Int) - 1 == 0 && (-1 : Int) == 1 && items.size == items.size) = true) := by
    intro q
    rw [Bool.and_eq_true, Bool.and_eq_true] at q
    exact absurd q.1.2 (by decide)
  show wpAny _ _ (if (((items.size : Nat) : Int) - 1 == 0 && (-1 : Int) == 1 && items.size == items.size) = true then _ else _) _ _ s
  rw [if_neg hno, pick_rev]
  first
    | exact wpAny_bind (m := Builtin.Tuple.tupleExact _) (wpAny_newObj_type (wpAny_pure ⟨_, rfl, wpAny_pure h⟩) htake)
    | exact wpAny_bind (m := Builtin.Tuple.tupleExact _) (wpAny_newObj_type (wpAny_bind (wpAny_pure (wpAny_pure ⟨_, rfl, wpAny_pure h⟩))) htake)
    | exact wpAny_bind (wpAny_bind (m := Builtin.Tuple.tupleExact _) (wpAny_newObj_type (wpAny_pure (wpAny_pure ⟨_, rfl, wpAny_pure h⟩)) htake))
    | exact wpAny_bind (wpAny_bind (m := Builtin.Tuple.tupleExact _) (wpAny_newObj_type (wpAny_pure ⟨_, rfl, wpAny_pure h⟩) htake))
end
end HT
namespace L2
open PySem PySem.Spec PyProof.Rows
section
variable {X : Cx}
def tRevT (K : PySem.W.Frag) (te : TE) : TE := fun σ H Q => te σ H fun x H1 => ∃ a xs, x = .ref a ∧ SqT K H1 a xs ∧ ∀ p, H1 p = none → Q (.ref p) (upd H1 p (.tup xs.reverse))
theorem pe_revT {e : Expr} {te : TE} {k : Nat} {p1 p2 p3 pos : Pos} (he : PE X e te) : PE X (.Subscript e (.Slice none none (some (.UnaryOp .USub (.Constant (.int 1) k p1) p2)) p3) pos) (tRevT X.K te) := by
  refine ⟨fun pins s σ H Q I h => ?_⟩
  refine Subscript_ (thn (he.run pins s σ H _ I h) fun v s1 ⟨x, H1, I1, r1, q1⟩ => ?_)
  obtain ⟨a, xs, ex, hx, q⟩ := q1
  subst ex
  cases r1
  have hst : PO X (some (.UnaryOp .USub (.Constant (.int 1) k p1) p2)) (tPart (tUn (rU fun i => .int (-i)) (tC (.int 1)))) := po_some (pe_un un_neg pe_int)
  refine wpAny_Slice (thn (po_none.run pins s1 σ H1 (fun o H2 => o = none ∧ H2 = H1) I1 ⟨rfl, rfl⟩) fun vl s2 ⟨l, H2, I2, pl, el, e2⟩ => ?_)
  subst el e2
  refine thn (po_none.run pins s2 σ H2 (fun o H3 => o = none ∧ H3 = H2) I2 ⟨rfl, rfl⟩) fun vu s3 ⟨u, H3, I3, pu, eu, e3⟩ => ?_
  subst eu e3
  refine thn (hst.run pins s3 σ H3 (fun o H4 => o = some (-1) ∧ H4 = H3) I3 ⟨1, rfl, -1, rfl, rfl, rfl⟩) fun vs s4 ⟨o, H4, I4, ps, eo, e4⟩ => ?_
  subst eo e4
  have I5 : Inv X pins σ H4 { s4 with heap := s4.heap.push { cls := .type "slice", data := .fields #[vl, vu, vs] } } := I4.kept (t' := s4.toks) fun b ob q => Heap.get?_push_of_some _ q
  obtain ⟨its, r, ht, hz⟩ := I5.tuple hx
  have hlen := r.length
  show wpAny (model X.prog X.w) X.A (subscriptTail e (.Slice none none (some (.UnaryOp .USub (.Constant (.int 1) k p1) p2)) p3) (.ref a) (.ref s4.heap.objs.size)) (EP X pins σ Q) X.xe { s4 with heap := s4.heap.push { cls := .type "slice", data := .fields #[vl, vu, vs] } }
  refine tail_any (ops := [.ref a, .ref s4.heap.objs.size]) ht.typeIs (PyProof.Rows.slot_tuple_getitem.lookup) ?_ (by with_unfolding_all rfl)
  refine HT.getItem_tuple_rev ht (Heap.IsSliceOf.new _ vl vu vs) pl pu ps ?_ (by rw [List.size_toArray]; omega)
  refine ⟨.ref _, _, I5.laid (t' := s4.toks) (o := .tup xs.reverse) (fun b ob q => Heap.get?_push_of_some _ q) (Nat.le_refl _) ?_, rfl, q _ (I5.hok.fresh (Nat.le_refl _))⟩
  exact ⟨by rw [List.length_reverse]; exact hz, _, r.reverse, IsTup.new _ _⟩
def rMin3 : List V → Hp → VK → Prop := fun xs H Q => ∃ i j k : Int, xs = [V.int i, V.int j, V.int k] ∧ Q (V.int (if k < (if j < i then j else i) then k else (if j < i then j else i))) H
theorem call_min3 (hc : X.calm = true) : CallR X (.builtin "min") rMin3 := by
  intro pins s σ H xs us Q I r h
  obtain ⟨i, j, k, rfl, q⟩ := h
  refine call_min3Nu hc pins s σ H _ us Q I r ⟨_, _, _, _, rfl, ?_, q⟩
  by_cases h1 : j < i
  · by_cases h2 : k < j <;> simp [nuMin3, nuMin2, nuLt, nuCB, h1, h2]
  · by_cases h2 : k < i <;> simp [nuMin3, nuMin2, nuLt, nuCB, h1, h2]
end
end L2
namespace TG
open PySem PySem.Spec PyProof.Rows L2
section
variable {X : Cx} {cl : Str → Option Addr} {Wx : WX} {e : Expr} {es : List Expr} {pos p1 p2 p3 : Pos} {ea : Cmp TG.W} {u : List TG.W → Rho → Option Rho} {sl : List Nat}
def kRevT : TG.W → S → Res TG.W := fun x s => match asTup x with | some l => .ok (.d (.tup l.reverse)) s | none => .no
def eRevT (e : Cmp TG.W) : Cmp TG.W := fun ρ s => (e ρ s).bind kRevT
theorem Reps.snoc {K : PySem.W.Frag} {H0 : Hp} {vs : List V} {l : List TG.D} {v : V} {d : TG.D} (h : Reps K cl H0 vs l) (r : Rep K cl H0 v d) : Reps K cl H0 (vs ++ [v]) (l ++ [d]) := match h with
  | .nil => .cons r .nil
  | .cons a b => .cons a (Reps.snoc b r)
theorem Reps.rev {K : PySem.W.Frag} {H0 : Hp} {vs : List V} {l : List TG.D} (h : Reps K cl H0 vs l) : Reps K cl H0 vs.reverse l.reverse := match h with
  | .nil => .nil
  | .cons a b => by
    rw [List.reverse_cons, List.reverse_cons]
    exact Reps.snoc (Reps.rev b) a
theorem je_revT {k : Nat} (he : JE cl Wx X e ea) : JE cl Wx X (.Subscript e (.Slice none none (some (.UnaryOp .USub (.Constant (.int 1) k p1) p2)) p3) pos) (eRevT ea) :=
  PE.weaken (pe_revT he) fun σ H Q ⟨H0, m, ow, s, ρ, cx, h⟩ => ⟨H0, m, ow, s, ρ, cx, RunE.bind h fun x s1 v H1 H1' m1 g st rr h2 => by
    have h2 : RunE X.K cl (rrW X.K cl) Wx H1 H1' m1 σ Q (match asTup x with | some l => .ok (.d (.tup l.reverse)) s1 | none => .no) := h2
    split at h2
    · rename_i l e1
      obtain ⟨p, vs, q1, q2, q3⟩ := asTup_ok rr e1
      exact ⟨p, vs, q1, sqT_of (st.sub _ _ q2), fun b hb => h2 _ _ _ _ (Go.alloc st hb) (st.alloc hb) (Rep.tup upd_same ((Reps.rev q3).mono (same_upd (st.h0 hb))))⟩
    · exact h2.elim⟩
def tgLst (n : Nat) (u : List TG.W → Rho → Option Rho) : Tgt := fun x ρ => match x with | .d (.lst l) => if l.length = n then u (wD l) ρ else none | _ => none
theorem jg_lst {kk : Nat} (n : Nat) (hc : X.calm = true) (h : JGs cl X es u sl) (h1 : (assignEach es X.env).length = n := by rfl) (h2 : List.findIdx? (fun x => x.fst) (assignEach es X.env) = none := by rfl) : JG cl X (.Tuple es kk pos) (tgLst n u) sl :=
  PG.weaken (pg_lst hc h h1 h2) fun v σ H Q ⟨H0, m, ow, s, ρ, w, ρ', cx, r, q, k⟩ => by
    unfold tgLst at q
    split at q
    · rename_i l
      by_cases hl : l.length = n
      · rw [if_pos hl] at q
        cases r with
        | lst e2 e3 => exact ⟨_, _, rfl, sqL_of (cx.st.sub _ _ e2), by rw [e3.length]; exact hl, H0, m, ow, s, ρ, wD l, ρ', cx, e3.ws, q, k⟩
      · rw [if_neg hl] at q; cases q
    · cases q
def fMin3 : TG.W → TG.W → TG.W → S → Res TG.W := fun x y z s => match asInt x, asInt y, asInt z with
  | some i, some j, some k => .ok (.d (.int (if k < (if j < i then j else i) then k else (if j < i then j else i)))) s
  | _, _, _ => .no
def c3 (f : TG.W → TG.W → TG.W → S → Res TG.W) : List TG.W → S → Res TG.W | [x, y, z], s => f x y z s | _, _ => .no
theorem calls_min3 {K : PySem.W.Frag} : CallS K cl rMin3 (c3 fMin3) := fun Wx σ H0 H m s xs ws Q st rx q => by
  cases rx with
  | nil => exact q.elim
  | cons h1 h2 =>
    cases h2 with
    | nil => exact q.elim
    | cons h2 h3 =>
      cases h3 with
      | nil => exact q.elim
      | cons h3 h4 =>
        cases h4 with
        | cons _ _ => exact q.elim
        | nil =>
          have q : RunE K cl (rrW K cl) Wx H0 H m σ Q (fMin3 _ _ _ s) := q
          unfold fMin3 at q
          split at q
          · rename_i i j k e1 e2 e3
            exact ⟨i, j, k, by rw [asInt_ok h1 e1, asInt_ok h2 e2, asInt_ok h3 e3], RunE.done (RR := rrW K cl) q st .int⟩
          · exact q.elim
end
end TG

set_option linter.all false
set_option maxRecDepth 100000
namespace TG
open PySem L2
noncomputable def b_Foot_ridden_by : Stm :=
  (sSeq (sSet 2 (eBin fSub (eBin fAdd (eArgs (c1 fLen) (eCons (eFld "Foot" "drops" (eVar 0)) eNil)) (eArgs (c1 fLen) (eCons (eFld "Foot" "drops" (eVar 1)) eNil))) (eC (.int 1))))
  (sSeq (sIf (eTest (eBin fGt (eVar 2) (eC (.int 9)))) (sRaise0 "TooWide") sNext)
  (sSeq (sSetD 3 eDNew)
  (sSeq (sFor (eEnum (eCons (eFld "Foot" "drops" (eVar 0)) eNil)) (tgTup 2 (tgCons (tgName 4) (tgCons (tgName 5) tgNil))) (sFor (eEnum (eCons (eFld "Foot" "drops" (eVar 1)) eNil)) (tgTup 2 (tgCons (tgName 6) (tgCons (tgName 7) tgNil))) (sSetKO 3 (eBin fAdd (eVar 4) (eVar 6)) (eArgs (c2 fMin2) (eCons (eBin fAdd (eVar 5) (eVar 7)) (eCons (eGetO 3 (eBin fAdd (eVar 4) (eVar 6)) (eBin fAdd (eVar 5) (eVar 7))) eNil))))))
  (sSeq (sSet 8 (eArgs (c1 fTuple) (eCons (eFrz (eLc [9] (eRng1 (eCons (eVar 2) eNil)) (tgName 9) eYes (eIxKO 3 (eVar 9)))) eNil)))
  (sSeq (sIf (eTest (eBin fGt (eArgs (c1 fMaxT) (eCons (eVar 8) eNil)) (eC (.int 99)))) (sRaise0 "TooWide") sNext)
  (sRet (eMake "Foot" f_Foot_init (eCons (eVar 8) (eCons (eBin fAdd (eFld "Foot" "middle" (eVar 0)) (eFld "Foot" "middle" (eVar 1))) eNil))))))))))
noncomputable def f_Foot_ridden_by : Sem1 := runF 2 10 b_Foot_ridden_by
noncomputable def b_v_law_told_8 : Stm :=
  (sTry (subT [("BadFoot", "TooWide", false), ("TooWide", "TooWide", true)]) (sSeq (sSet 2 (eMeth "Foot" "ridden_by" f_Foot_ridden_by (eVar 0) (eCons (eVar 1) eNil)))
  (sRet (eTup (eCons (eFld "Foot" "drops" (eVar 2)) (eCons (eFld "Foot" "middle" (eVar 2)) eNil))))) (("TooWide", (sRet (eC (.str "TooWide")))) :: []))
noncomputable def f_v_law_told_8 : Sem1 := runF 2 3 b_v_law_told_8
def b_v_law_due : Stm :=
  (sSeq (sSetO 2 (eLst eNil))
  (sSeq (sFor (eRng1 (eCons (eBin fSub (eBin fAdd (eArgs (c1 fLen) (eCons (eBin fIx (eVar 0) (eC (.int 0))) eNil)) (eArgs (c1 fLen) (eCons (eBin fIx (eVar 1) (eC (.int 0))) eNil))) (eC (.int 1))) eNil)) (tgName 3) (sSeq (sSet 4 (eFrz (eLc [5] (eRng1 (eCons (eArgs (c1 fLen) (eCons (eBin fIx (eVar 0) (eC (.int 0))) eNil)) eNil)) (tgName 5) (eTest (eChain fLe fLt (eC (.int 0)) (eBin fSub (eVar 3) (eVar 5)) (eArgs (c1 fLen) (eCons (eBin fIx (eVar 1) (eC (.int 0))) eNil)))) (eBin fAdd (eBin fIx (eBin fIx (eVar 0) (eC (.int 0))) (eVar 5)) (eBin fIx (eBin fIx (eVar 1) (eC (.int 0))) (eBin fSub (eVar 3) (eVar 5)))))))
  (sApp 2 (eArgs (c1 fMinL) (eCons (eVar 4) eNil)))))
  (sFrz 2 (sSeq (sIf (eOrT (eTest (eBin fGt (eArgs (c1 fLen) (eCons (eVar 2) eNil)) (eC (.int 9)))) (eTest (eBin fGt (eArgs (c1 fMaxL) (eCons (eVar 2) eNil)) (eC (.int 99))))) (sRet (eC (.str "TooWide"))) sNext)
  (sRet (eTup (eCons (eArgs (c1 fTuple) (eCons (eVar 2) eNil)) (eCons (eBin fAdd (eBin fIx (eVar 0) (eC (.int 1))) (eBin fIx (eVar 1) (eC (.int 1)))) eNil))))))))
def f_v_law_due : Sem1 := runF 2 6 b_v_law_due
noncomputable def b_law_k04 : Stm :=
  (sSeq (sSet 1 (eCell (eCallL f_v_law_bag (eCons (eVar 0) eNil))))
  (sSeq (sFor (eRng1 (eCons (eC (.int 4)) eNil)) (tgName 2) (sSeq (sPar 3 4 (eCons (eCall f_v_law_pair (eCons (eVar 1) eNil)) (eCons (eCall f_v_law_pair (eCons (eVar 1) eNil)) eNil)))
  (sSeq (sPar 5 6 (eCons (eMake "Foot" f_Foot_init (eCons (eBin fIx (eVar 3) (eC (.int 0))) (eCons (eBin fIx (eVar 3) (eC (.int 1))) eNil))) (eCons (eMake "Foot" f_Foot_init (eCons (eBin fIx (eVar 4) (eC (.int 0))) (eCons (eBin fIx (eVar 4) (eC (.int 1))) eNil))) eNil)))
  (sSeq (sIf (eNotT (eTest (eCall (f_v_law_like 12) (eCons (eCall f_v_law_told_8 (eCons (eVar 5) (eCons (eVar 6) eNil))) (eCons (eCall f_v_law_due (eCons (eVar 3) (eCons (eVar 4) eNil))) eNil))))) (sRet (eC (.bl false))) sNext)
  (sSeq (sIf (eNotT (eTest (eCall (f_v_law_like 12) (eCons (eCall f_v_law_told_8 (eCons (eVar 6) (eCons (eVar 5) eNil))) (eCons (eCall f_v_law_due (eCons (eVar 4) (eCons (eVar 3) eNil))) eNil))))) (sRet (eC (.bl false))) sNext)
  (sIf (eOrT (eTest (eBin fNeI (eVar 5) (eMake "Foot" f_Foot_init (eCons (eBin fIx (eVar 3) (eC (.int 0))) (eCons (eBin fIx (eVar 3) (eC (.int 1))) eNil))))) (eTest (eBin fNeI (eVar 6) (eMake "Foot" f_Foot_init (eCons (eBin fIx (eVar 4) (eC (.int 0))) (eCons (eBin fIx (eVar 4) (eC (.int 1))) eNil)))))) (sRet (eC (.bl false))) sNext))))))
  (sRet (eC (.bl true)))))
noncomputable def f_law_k04 : Sem1 := runF 1 7 b_law_k04
noncomputable def b_v_law_both : Stm :=
  (sTry (subT [("BadFoot", "TooWide", false), ("BadRim", "TooWide", false), ("TooWide", "TooWide", true)]) (sRet (eMeth "Foot" "ridden_by" f_Foot_ridden_by (eVar 0) (eCons (eVar 1) eNil))) (("TooWide", (sRet (eC .non))) :: []))
noncomputable def f_v_law_both : Sem1 := runF 2 2 b_v_law_both
noncomputable def b_Foot_about : Stm :=
  (sRet (eMake "Foot" f_Foot_init (eCons (eRevT (eFld "Foot" "drops" (eVar 0))) (eCons (eBin fSub (eBin fSub (eArgs (c1 fLen) (eCons (eFld "Foot" "drops" (eVar 0)) eNil)) (eC (.int 1))) (eFld "Foot" "middle" (eVar 0))) eNil))))
noncomputable def f_Foot_about : Sem1 := runF 1 1 b_Foot_about
noncomputable def b_law_k07 : Stm :=
  (sSeq (sSet 1 (eCell (eCallL f_v_law_bag (eCons (eVar 0) eNil))))
  (sSeq (sSet 2 (eCall f_v_law_rim (eCons (eVar 1) (eCons (eC (.int 48)) eNil))))
  (sSeq (sSet 3 (eArgs (c1 fLen) (eCons (eVar 2) eNil)))
  (sSeq (sSet 4 (eFrz (eLc [16] (eRng1 (eCons (eC (.int 3)) eNil)) (tgName 16) eYes (eCall f_v_law_pair (eCons (eVar 1) eNil)))))
  (sSeq (sSet 5 (eFrz (eLc [17, 18] (eSeq (eVar 4)) (tgTup 2 (tgCons (tgName 17) (tgCons (tgName 18) tgNil))) eYes (eMake "Foot" f_Foot_init (eCons (eSl fSl (eVar 17) eNoPart (ePart (eC (.int 3)))) (eCons (eArgs (c3 fMin3) (eCons (eC (.int 2)) (eCons (eVar 18) (eCons (eBin fSub (eArgs (c1 fLen) (eCons (eVar 17) eNil)) (eC (.int 1))) eNil)))) eNil))))))
  (sSeq (sSetT (tgLst 3 (tgCons (tgName 6) (tgCons (tgName 7) (tgCons (tgName 8) tgNil)))) (eVar 5))
  (sSeq (sSet 9 (eCall f_v_law_both (eCons (eVar 6) (eCons (eVar 7) eNil))))
  (sSeq (sIf (eTest (eUn (fIsN true) (eVar 9))) (sSeq (sIf (eTest (eBin (fEq true) (eCall f_motion (eCons (eVar 2) (eCons (eVar 9) eNil))) (eCall f_motion (eCons (eCall f_motion (eCons (eVar 2) (eCons (eVar 6) eNil))) (eCons (eVar 7) eNil))))) (sRet (eC (.bl false))) sNext)
  (sSeq (sSet 10 (eCall f_v_law_both (eCons (eVar 9) (eCons (eVar 8) eNil))))
  (sIf (eTest (eUn (fIsN true) (eVar 10))) (sSeq (sIf (eTest (eBin (fEq true) (eCall f_motion (eCons (eVar 2) (eCons (eVar 10) eNil))) (eCall f_motion (eCons (eCall f_motion (eCons (eCall f_motion (eCons (eVar 2) (eCons (eVar 6) eNil))) (eCons (eVar 7) eNil))) (eCons (eVar 8) eNil))))) (sRet (eC (.bl false))) sNext)
  (sSeq (sSet 11 (eCall f_v_law_both (eCons (eVar 7) (eCons (eVar 8) eNil))))
  (sIf (eAndT (eTest (eUn (fIsN true) (eVar 11))) (eTest (eBin (fEq true) (eCall f_motion (eCons (eVar 2) (eCons (eVar 10) eNil))) (eCall f_motion (eCons (eCall f_motion (eCons (eVar 2) (eCons (eVar 6) eNil))) (eCons (eVar 11) eNil)))))) (sRet (eC (.bl false))) sNext))) sNext))) sNext)
  (sSeq (sSet 12 (eCall f_v_law_pull (eCons (eVar 1) (eCons (eBin fMul (eC (.int 2)) (eVar 3)) eNil))))
  (sSeq (sSet 13 (eArgs (c1 fTuple) (eCons (eFrz (eLc [19] (eRng1 (eCons (eVar 3) eNil)) (tgName 19) eYes (eBin fIx (eVar 2) (eBin fMod (eBin fAdd (eVar 19) (eVar 12)) (eVar 3))))) eNil)))
  (sSeq (sSet 14 (eCall f_motion (eCons (eVar 2) (eCons (eVar 6) eNil))))
  (sSeq (sIf (eTest (eBin (fEq true) (eCall f_motion (eCons (eVar 13) (eCons (eVar 6) eNil))) (eArgs (c1 fTuple) (eCons (eFrz (eLc [19] (eRng1 (eCons (eVar 3) eNil)) (tgName 19) eYes (eBin fIx (eVar 14) (eBin fMod (eBin fAdd (eVar 19) (eVar 12)) (eVar 3))))) eNil)))) (sRet (eC (.bl false))) sNext)
  (sSeq (sSet 15 (eArgs (c1 fTuple) (eCons (eFrz (eLc [19] (eRng1 (eCons (eVar 3) eNil)) (tgName 19) eYes (eBin fIx (eVar 2) (eBin fSub (eC (.int 0)) (eVar 19))))) eNil)))
  (sSeq (sIf (eTest (eBin (fEq true) (eCall f_motion (eCons (eVar 15) (eCons (eMeth "Foot" "about" f_Foot_about (eVar 6) eNil) eNil))) (eArgs (c1 fTuple) (eCons (eFrz (eLc [19] (eRng1 (eCons (eVar 3) eNil)) (tgName 19) eYes (eBin fIx (eVar 14) (eBin fSub (eC (.int 0)) (eVar 19))))) eNil)))) (sRet (eC (.bl false))) sNext)
  (sRet (eArgs (c1 fAll) (eCons (eFrz (eLc [20] (eRng2 (eCons (eBin fSub (eC (.int 0)) (eVar 3)) (eCons (eBin fMul (eC (.int 2)) (eVar 3)) eNil))) (tgName 20) eYes (eBin (fEq false) (eCall f_lift (eCons (eVar 2) (eCons (eVar 6) (eCons (eVar 20) eNil)))) (eBin fIx (eVar 14) (eBin fMod (eVar 20) (eVar 3)))))) eNil)))))))))))))))))
noncomputable def f_law_k07 : Sem1 := runF 1 21 b_law_k07
end TG

set_option linter.all false
set_option maxRecDepth 100000
namespace TG
open PySem L2
/-! own dicts, methods -/
def kSetD (i : Nat) : List (Key × W) → Stm := fun x ρ s => .nx (ρ.set i (.ownD x)) s
section
variable (ρ : Rho) (s : S)
@[simp] theorem sSetD_eq (i : Nat) (e : Cmp (List (Key × W))) : sSetD i e ρ s = ebS (e ρ s) ρ (kSetD i) := (rfl)
@[simp] theorem kSetD_eq (i : Nat) (x : List (Key × W)) : kSetD i x ρ s = .nx (ρ.set i (.ownD x)) s := (rfl)
@[simp] theorem eDNew_eq : eDNew ρ s = .ok [] s := (rfl)
@[simp] theorem eGetO_eq (i : Nat) (e f : Cmp W) : eGetO i e f ρ s = match (ρ[i]? : Option EV) with | some (.ownD l) => (e ρ s).bind (kGetO l f ρ) | _ => .no := (rfl)
@[simp] theorem kGetO_eq (l : List (Key × W)) (f : Cmp W) (y : W) : kGetO l f ρ y s = match asInt y with | some k => (f ρ s).bind (kGetO2 l k) | none => .no := (rfl)
@[simp] theorem kGetO2_eq (l : List (Key × W)) (k : Int) (z : W) : kGetO2 l k z s = .ok ((valDW l (keyI k)).getD z) s := (rfl)
@[simp] theorem eIxKO_eq (i : Nat) (e : Cmp W) : eIxKO i e ρ s = match (ρ[i]? : Option EV) with | some (.ownD l) => (e ρ s).bind (kIxKO l) | _ => .no := (rfl)
@[simp] theorem kIxKO_eq (l : List (Key × W)) (y : W) : kIxKO l y s = match asInt y with | some k => (match valDW l (keyI k) with | some x => .ok x s | none => .no) | none => .no := (rfl)
@[simp] theorem sSetKO_eq (i : Nat) (k v : Cmp W) : sSetKO i k v ρ s = ebS (v ρ s) ρ (kSetKO i k) := (rfl)
@[simp] theorem kSetKO_eq (i : Nat) (k : Cmp W) (x : W) : kSetKO i k x ρ s = match (ρ[i]? : Option EV) with | some (.ownD l) => ebS (k ρ s) ρ (kSetKO2 i l x) | _ => .no := (rfl)
@[simp] theorem kSetKO2_eq (i : Nat) (l : List (Key × W)) (x z : W) : kSetKO2 i l x z ρ s = match asInt z with | some k => if l.length < 16777216 then .nx (ρ.set i (.ownD (putDW l (keyI k) x))) s else .no | none => .no := (rfl)
@[simp] theorem eMeth_eq (c m : Str) (f : Sem1) (o : Cmp W) (a : Cmp (List W)) : eMeth c m f o a ρ s = (o ρ s).bind (kMeth c m f frzV a ρ) := (rfl)
@[simp] theorem kMeth_eq {α : Type} (c m : Str) (f : Sem1) (out : RV → S → Res α) (a : Cmp (List W)) (x : W) : kMeth c m f out a ρ x s = if insOf c m x s = true then (a ρ s).bind (kMeth2 f out x) else .no := (rfl)
@[simp] theorem kMeth2_eq {α : Type} (f : Sem1) (out : RV → S → Res α) (x : W) (ws : List W) : kMeth2 f out x ws s = (f (x :: ws) s).bind out := (rfl)
end
theorem valDW_pos {p : Key × W} {r : List (Key × W)} {k : Key} (e : p.1 = k) : valDW (p :: r) k = some p.2 := by simp [valDW, List.find?_cons, e]
theorem valDW_neg {p : Key × W} {r : List (Key × W)} {k : Key} (e : ¬ p.1 = k) : valDW (p :: r) k = valDW r k := by simp [valDW, List.find?_cons, e]
theorem valDW_any (k : Key) : ∀ l : List (Key × W), (l.any fun kv => decide (kv.1 = k)) = (valDW l k).isSome
  | [] => rfl
  | p :: r => by
    rw [List.any_cons]
    by_cases e : p.1 = k
    · simp only [valDW_pos e, decide_eq_true e, Bool.true_or, Option.isSome_some]
    · rw [valDW_neg e, decide_eq_false e, Bool.false_or]; exact valDW_any k r
theorem valDW_map (k j : Key) (y : W) : ∀ l : List (Key × W), valDW (l.map fun kv => if kv.1 = k then (kv.1, y) else kv) j = (valDW l j).map fun x => if j = k then y else x
  | [] => rfl
  | p :: r => by
    have ih := valDW_map k j y r
    rw [List.map_cons]
    by_cases h : p.1 = k
    · rw [if_pos h]
      by_cases e : p.1 = j
      · rw [valDW_pos (p := (p.1, y)) e, valDW_pos e, Option.map_some, if_pos (e.symm.trans h)]
      · rw [valDW_neg (p := (p.1, y)) e, valDW_neg e, ih]
    · rw [if_neg h]
      by_cases e : p.1 = j
      · rw [valDW_pos (p := p) e, valDW_pos e, Option.map_some, if_neg (fun z => h (e.trans z))]
      · rw [valDW_neg (p := p) e, valDW_neg e, ih]
theorem valDW_snoc (k j : Key) (y : W) : ∀ l : List (Key × W), valDW l k = none → valDW (l ++ [(k, y)]) j = if j = k then some y else valDW l j
  | [], _ => by
    by_cases e : k = j
    · rw [if_pos e.symm]; exact valDW_pos (p := (k, y)) e
    · rw [if_neg (fun z => e z.symm)]; exact valDW_neg (p := (k, y)) e
  | p :: r, hn => by
    rw [List.cons_append]
    have hk : ¬ p.1 = k := fun z => by rw [valDW_pos z] at hn; cases hn
    rw [valDW_neg hk] at hn
    have ih := valDW_snoc k j y r hn
    by_cases e : p.1 = j
    · rw [valDW_pos e, valDW_pos e, if_neg (fun z => hk (e.trans z))]
    · rw [valDW_neg e, valDW_neg e, ih]
theorem valDW_put (l : List (Key × W)) (k j : Key) (y : W) : valDW (putDW l k y) j = if j = k then some y else valDW l j := by
  unfold putDW
  by_cases a : (l.any fun kv => decide (kv.1 = k)) = true
  · rw [if_pos a, valDW_map]
    rw [valDW_any] at a
    by_cases e : j = k
    · obtain ⟨x, hx⟩ := Option.isSome_iff_exists.mp a
      rw [if_pos e, e, hx, Option.map_some, if_pos rfl]
    · rw [if_neg e]
      cases valDW l j with
      | none => rfl
      | some x => rw [Option.map_some, if_neg e]
  · rw [if_neg a]
    refine valDW_snoc k j y l ?_
    rw [valDW_any] at a
    cases q : valDW l k with
    | none => rfl
    | some x => rw [q] at a; exact (a rfl).elim
theorem putDW_len (l : List (Key × W)) (k : Key) (v : W) : (putDW l k v).length ≤ l.length + 1 := by
  unfold putDW
  split
  · rw [List.length_map]; omega
  · rw [List.length_append, List.length_cons, List.length_nil]; omega
/-! the sums of two feet's drops -/
def smj (a b : List Int) (k i j : Nat) : List Int := if i ≤ k ∧ k - i < j then [gt a i + gt b (k - i)] else []
def sms (a b : List Int) (k : Nat) : Nat → List Int
  | 0 => []
  | n + 1 => sms a b k n ++ smj a b k n b.length
def ridV (a b : List Int) : List Int := (List.range (a.length + b.length - 1)).map fun k => (sms a b k a.length).min?.getD 0
theorem min_snoc (l : List Int) (x : Int) : (l ++ [x]).min? = some (match l.min? with | none => x | some m => min m x) := by
  cases l with
  | nil => simp
  | cons a l =>
    rw [List.cons_append, List.min?_cons', List.min?_cons', List.foldl_append]
    rfl
structure DI (a b : List Int) (i j : Nat) (d : List (Key × W)) : Prop where
  len : d.length ≤ i * 9 + j
  at_ : ∀ k : Nat, valDW d (keyI k) = ((sms a b k i ++ smj a b k i j).min?).map fun x => W.d (.int x)
theorem smj_0 (a b : List Int) (k i : Nat) : smj a b k i 0 = [] := by
  unfold smj
  rw [if_neg (by omega)]
theorem di_0 (a b : List Int) : DI a b 0 0 [] := ⟨by simp, fun k => by simp [smj_0, sms, valDW]⟩
theorem di_next {a b : List Int} {i : Nat} {d : List (Key × W)} (h : DI a b i b.length d) (hb : b.length ≤ 9) : DI a b (i + 1) 0 d := ⟨by have := h.len; omega, fun k => by rw [h.at_ k, smj_0, List.append_nil]; rfl⟩
theorem keyI_inj {i j : Int} (h : keyI i = keyI j) : i = j := by
  unfold keyI at h
  exact Sum.inl.inj h
theorem di_step {a b : List Int} {i j : Nat} {d : List (Key × W)} (h : DI a b i j d) (x : Int) (hx : x = match (sms a b (i + j) i).min? with | none => gt a i + gt b j | some m => min m (gt a i + gt b j)) :
    DI a b i (j + 1) (putDW d (keyI ((i : Int) + (j : Int))) (.d (.int x))) := by
  refine ⟨by have := putDW_len d (keyI ((i : Int) + (j : Int))) (.d (.int x)); have := h.len; omega, fun k => ?_⟩
  rw [valDW_put]
  by_cases e : k = i + j
  · subst e
    rw [if_pos (by rw [Int.natCast_add])]
    have e1 : smj a b (i + j) i (j + 1) = [gt a i + gt b j] := by
      unfold smj
      rw [if_pos ⟨by omega, by omega⟩, show i + j - i = j by omega]
    rw [e1, min_snoc, hx]
    rfl
  · rw [if_neg (fun z => e (by have := keyI_inj z; omega)), h.at_ k]
    have e1 : smj a b k i (j + 1) = smj a b k i j := by
      unfold smj
      by_cases c : i ≤ k ∧ k - i < j
      · rw [if_pos c, if_pos ⟨c.1, by omega⟩]
      · rw [if_neg c, if_neg (by omega)]
    rw [e1]
theorem di_get {a b : List Int} {i j : Nat} {d : List (Key × W)} (h : DI a b i j d) : valDW d (keyI ((i : Int) + (j : Int))) = ((sms a b (i + j) i).min?).map fun x => W.d (.int x) := by
  rw [← Int.natCast_add, h.at_ (i + j)]
  have e1 : smj a b (i + j) i j = [] := by
    unfold smj
    rw [if_neg (by omega)]
  rw [e1, List.append_nil]
theorem di_end {a b : List Int} {d : List (Key × W)} (h : DI a b a.length 0 d) (k : Nat) : valDW d (keyI k) = ((sms a b k a.length).min?).map fun x => W.d (.int x) := by
  rw [h.at_ k, smj_0, List.append_nil]
theorem sms_le (a b : List Int) (k : Nat) : ∀ n : Nat, (sms a b k n).length ≤ n
  | 0 => by simp [sms]
  | n + 1 => by
    have ih := sms_le a b k n
    have : (smj a b k n b.length).length ≤ 1 := by unfold smj; split <;> simp
    rw [sms, List.length_append]
    omega
theorem sms_mem (a b : List Int) (k : Nat) : ∀ (n i : Nat), i < n → i ≤ k → k - i < b.length → gt a i + gt b (k - i) ∈ sms a b k n
  | n + 1, i, h, h1, h2 => by
    rw [sms]
    by_cases e : i = n
    · subst e
      refine List.mem_append_right _ ?_
      unfold smj
      rw [if_pos ⟨h1, h2⟩]
      exact List.mem_singleton.mpr rfl
    · exact List.mem_append_left _ (sms_mem a b k n i (by omega) h1 h2)
theorem sms_of (a b : List Int) (k : Nat) (x : Int) : ∀ (n : Nat), x ∈ sms a b k n → ∃ i : Nat, i < n ∧ i ≤ k ∧ k - i < b.length ∧ x = gt a i + gt b (k - i)
  | 0, h => by simp [sms] at h
  | n + 1, h => by
    rw [sms] at h
    rcases List.mem_append.mp h with h | h
    · obtain ⟨i, h1, h2⟩ := sms_of a b k x n h
      exact ⟨i, by omega, h2⟩
    · unfold smj at h
      split at h
      · rename_i c
        exact ⟨n, by omega, c.1, c.2, List.mem_singleton.mp h⟩
      · simp at h
theorem sms_ne (a b : List Int) (k : Nat) (ha : 0 < a.length) (hb : 0 < b.length) (hk : k < a.length + b.length - 1) : ∃ x, (sms a b k a.length).min? = some x := by
  have : sms a b k a.length ≠ [] := by
    by_cases c : k < b.length
    · exact List.ne_nil_of_mem (sms_mem a b k a.length 0 ha (by omega) (by omega))
    · exact List.ne_nil_of_mem (sms_mem a b k a.length (k + 1 - b.length) (by omega) (by omega) (by omega))
  cases e : sms a b k a.length with
  | nil => exact absurd e this
  | cons x l => exact ⟨_, List.min?_cons'⟩
theorem range_pre {n : Nat} {pre rr : List Nat} {i : Nat} (hz : List.range n = pre ++ i :: rr) : pre.length = i ∧ i < n := by
  have h3 := congrArg List.length hz
  rw [List.length_append, List.length_cons, List.length_range] at h3
  have h4 := congrArg (fun l => l[pre.length]?) hz
  simp [show pre.length < n by omega] at h4
  exact ⟨h4, by omega⟩
theorem enum_ints (l : List Int) : enumD (l.map .int) = (List.range l.length).map fun i : Nat => W.d (.tup [.int i, .int (gt l i)]) := by
  unfold enumD
  apply List.ext_getElem?
  intro i
  simp only [List.getElem?_mapIdx, List.getElem?_map]
  by_cases hi : i < l.length
  · simp [hi, gt, List.getD_eq_getElem?_getD]
  · simp [hi]
end TG

set_option linter.all false
set_option maxRecDepth 100000
namespace TG
open PySem L2
/-! one foot ridden by another -/
def okRid (a b : List Int) : Prop := a.length + b.length - 1 ≤ 9 ∧ ∀ x ∈ ridV a b, x ≤ 99
theorem ridV_len (a b : List Int) : (ridV a b).length = a.length + b.length - 1 := by simp [ridV]
theorem ridV_at (a b : List Int) (k : Nat) (hk : k < a.length + b.length - 1) : gt (ridV a b) k = (sms a b k a.length).min?.getD 0 := by
  simp [gt, ridV, List.getD_eq_getElem?_getD, hk]
theorem ridV_ge {a b : List Int} (ha : ∀ x ∈ a, 0 ≤ x ∧ x ≤ 99) (hb : ∀ x ∈ b, 0 ≤ x ∧ x ≤ 99) : ∀ x ∈ ridV a b, 0 ≤ x := by
  intro x hx
  obtain ⟨k, hk, rfl⟩ := List.mem_map.mp hx
  cases e : (sms a b k a.length).min? with
  | none => simp
  | some y =>
    have hy := List.min?_mem e
    obtain ⟨i, h1, h2, h3, rfl⟩ := sms_of a b k y _ hy
    have g1 : 0 ≤ gt a i := by
      unfold gt
      rw [List.getD_eq_getElem?_getD, List.getElem?_eq_getElem h1]
      exact (ha _ (List.getElem_mem h1)).1
    have g2 : 0 ≤ gt b (k - i) := by
      unfold gt
      rw [List.getD_eq_getElem?_getD, List.getElem?_eq_getElem h3]
      exact (hb _ (List.getElem_mem h3)).1
    show 0 ≤ gt a i + gt b (k - i)
    omega
theorem insOf_rid (l : List Int) (m : Int) (s : S) : insOf "Foot" "ridden_by" (.d (footD l m)) s = true := by
  simp [insOf, footD]
  decide
theorem fMaxT_ints (n : Int) (l : List Int) (s : S) : fMaxT (.d (.tup (.int n :: l.map .int))) s = .ok (.d (.int (l.foldl max n))) s := by
  have e : wD (.int n :: l.map D.int) = wD ((n :: l).map D.int) := rfl
  simp only [fMaxT, asTup_tup, e, allInts_wD]
theorem max_le (n : Int) (l : List Int) : ¬ (99 < l.foldl max n) ↔ ∀ x ∈ n :: l, x ≤ 99 := by
  have e : (n :: l).max? = some (l.foldl max n) := List.max?_cons'
  constructor
  · intro h x hx
    have := (List.max?_eq_some_iff).mp e
    have := this.2 x hx
    omega
  · intro h c
    have := (List.max?_eq_some_iff).mp e
    have := h _ this.1
    omega
def I_rin (a : List Int) (m : Int) (b : List Int) (n : Int) (i : Nat) (s : S) (pre : List Nat) (ρ : Rho) (s' : S) : Prop := (∃ (d : List (Key × W)) (x6 x7 x8 x9 : EV), ρ = [.w (.d (footD a m)), .w (.d (footD b n)), .w (.d (.int (a.length + b.length - 1))), .ownD d, .w (.d (.int i)), .w (.d (.int (gt a i))), x6, x7, x8, x9] ∧ DI a b i pre.length d) ∧ s' = s
def I_rid (a : List Int) (m : Int) (b : List Int) (n : Int) (s : S) (pre : List Nat) (ρ : Rho) (s' : S) : Prop := (∃ (d : List (Key × W)) (x4 x5 x6 x7 x8 x9 : EV), ρ = [.w (.d (footD a m)), .w (.d (footD b n)), .w (.d (.int (a.length + b.length - 1))), .ownD d, x4, x5, x6, x7, x8, x9] ∧ DI a b pre.length 0 d) ∧ s' = s
open Classical in
theorem ridden_wp (a : List Int) (m : Int) (b : List Int) (n : Int) (s : S) (ga : GoodF a m) (gb : GoodF b n) :
    wE (fun c x s' => c = "TooWide" ∧ x = none ∧ s' = s ∧ ¬ okRid a b) (fun v s' => v = .w (.d (footD (ridV a b) (m + n))) ∧ s' = s ∧ okRid a b) (f_Foot_ridden_by [.d (footD a m), .d (footD b n)] s) := by
  have a1 := ga.l1
  have a9 := ga.l9
  have b1 := gb.l1
  have b9 := gb.l9
  rw [f_Foot_ridden_by]
  refine wE_fn (by rfl) ?_
  have hla : (enumD (a.map .int)).length ≤ 16777216 := by simp [enumD]; omega
  by_cases hw : a.length + b.length - 1 ≤ 9
  · have hw2 : ¬ (9 : Int) < (a.length : Int) + (b.length : Int) - 1 := by omega
    simp [b_Foot_ridden_by, hw2, hla, wipeR, -rng1_eq]
    rw [enum_ints]
    refine wS_mid (I_rid a m b n s (List.range a.length)) ?_ ?_
    · refine forE_at (g := fun i : Nat => W.d (.tup [.int i, .int (gt a i)])) (I_rid a m b n s) ⟨⟨_, _, _, _, _, _, _, rfl, di_0 a b⟩, rfl⟩ ?_ fun ρ s h => h
      rintro pre i rr hz ρ s' ⟨⟨d, x4, x5, x6, x7, x8, x9, rfl, J⟩, rfl⟩
      obtain ⟨hpi, hi⟩ := range_pre hz
      rw [hpi] at J
      refine ⟨_, by simp; rfl, ?_⟩
      have hlb : (enumD (b.map .int)).length ≤ 16777216 := by simp [enumD]; omega
      simp [hlb, wipeR, -rng1_eq]
      rw [enum_ints]
      refine forE_at (g := fun j : Nat => W.d (.tup [.int j, .int (gt b j)])) (I_rin a m b n i s') ⟨⟨_, _, _, _, _, rfl, J⟩, rfl⟩ ?_ ?_
      · rintro pre2 j rr2 hz2 ρ s2 ⟨⟨d, x6, x7, x8, x9, rfl, J⟩, rfl⟩
        obtain ⟨hpj, hj⟩ := range_pre hz2
        rw [hpj] at J
        refine ⟨_, by simp; rfl, ?_⟩
        have hg := di_get J
        have hdl : d.length < 16777216 := by have := J.len; omega
        cases e : (sms a b (i + j) i).min? with
        | none =>
          rw [e] at hg
          simp only [Option.map_none] at hg
          simp [hg, hdl, wipeR, -rng1_eq]
          refine ⟨⟨_, _, _, _, _, rfl, ?_⟩, rfl⟩
          rw [List.length_append, hpj]
          exact di_step J _ (by rw [e])
        | some y =>
          rw [e] at hg
          simp only [Option.map_some] at hg
          simp [hg, hdl, wipeR, -rng1_eq]
          refine ⟨⟨_, _, _, _, _, rfl, ?_⟩, rfl⟩
          rw [List.length_append, hpj]
          exact di_step J _ (by rw [e]; simp only []; split <;> omega)
      · rintro ρ s2 ⟨⟨d, x6, x7, x8, x9, rfl, J⟩, rfl⟩
        rw [List.length_range] at J
        refine ⟨⟨_, _, _, _, _, _, _, rfl, ?_⟩, rfl⟩
        rw [List.length_append, hpi]
        exact di_next J b9
    rintro ρ s' ⟨⟨d, x4, x5, x6, x7, x8, x9, rfl, J⟩, rfl⟩
    rw [List.length_range] at J
    have hr := fun s => rng1_nat (a.length + b.length - 1) s (by omega)
    have hcast : (((a.length + b.length - 1 : Nat) : Int)) = (a.length : Int) + (b.length : Int) - 1 := by omega
    rw [hcast] at hr
    have hL : a.length + b.length - 1 ≤ 16777216 := by omega
    simp [hr, hL, wipeR, -rng1_eq]
    rw [lcM_fn' (v := fun k : Nat => D.int ((sms a b k a.length).min?.getD 0))]
    rotate_left
    · intro k hk
      have hk := List.mem_range.mp hk
      obtain ⟨x, hx⟩ := sms_ne a b k (by omega) (by omega) hk
      have hg := di_end J k
      rw [hx] at hg
      simp only [Option.map_some] at hg
      exact ⟨_, rfl, by simp [hg, hx]⟩
    have e2 : ((List.range (a.length + b.length - 1)).map fun k : Nat => D.int ((sms a b k a.length).min?.getD 0)) = (ridV a b).map .int := by rw [ridV, List.map_map]; rfl
    rw [e2]
    have hrl : (ridV a b).length ≤ 16777216 := by rw [ridV_len]; omega
    have hge := ridV_ge ga.dr gb.dr
    have hlen := ridV_len a b
    simp [hrl, wipeR, -rng1_eq]
    cases er : ridV a b with
    | nil => rw [er] at hlen; simp at hlen; omega
    | cons q l =>
      have hm := max_le q l
      by_cases hx : 99 < l.foldl max q
      · have no : ¬ okRid a b := fun h => (hm.mpr (by rw [← er]; exact h.2)) hx
        simp [fMaxT_ints, hx, wipeR, -rng1_eq]
        exact no
      · have yes : okRid a b := ⟨hw, by rw [er]; exact hm.mp hx⟩
        have hmk := fun s => foot_made (q :: l) (m + n) s (by simp) (by rw [← er, hlen]; exact hw) (fun x hx => ⟨hge x (by rw [er]; exact hx), yes.2 x (by rw [er]; exact hx)⟩) (by have := ga.m0; have := gb.m0; omega) (by rw [← er, hlen]; have := ga.m1; have := gb.m1; omega)
        simp only [List.map_cons] at hmk
        simp [fMaxT_ints, hx, hmk, wipeR, -rng1_eq]
        exact yes
  · have hw2 : (9 : Int) < (a.length : Int) + (b.length : Int) - 1 := by omega
    have no : ¬ okRid a b := fun h => hw h.1
    simp [b_Foot_ridden_by, hw2, wipeR, -rng1_eq]
    exact no
end TG

set_option linter.all false
set_option maxRecDepth 100000
namespace TG
open PySem L2
/-! lifts of ridden feet, of turned rims, of rims turned about -/
theorem emod_of_sub {x y n : Int} (q : Int) (h : x = y + n * q) : x % n = y % n := by
  subst h
  exact Int.add_mul_emod_self_left y n q
theorem cellV_congr {r : List Int} {c d : Int} (h0 : 0 < r.length) (h : c % (r.length : Int) = d % (r.length : Int)) : cellV r c = cellV r d := by
  unfold cellV
  rw [Int.fmod_eq_emod_of_nonneg _ (by omega), Int.fmod_eq_emod_of_nonneg _ (by omega), h]
theorem lift_le' {r l : List Int} {m a H : Int} (hl : 1 ≤ l.length) : liftV r l m a ≤ H ↔ ∀ i : Nat, i < l.length → cellV r (a + i - m) - gt l i ≤ H := by
  have hne : (l.mapIdx fun i d => cellV r (a + (i : Nat) - m) - d) ≠ [] := by
    intro e
    have := congrArg List.length e
    simp at this
    subst this
    simp at hl
  have e := List.max?_eq_some_iff.mp (maxI_some hne)
  unfold liftV
  constructor
  · intro h i hi
    have := e.2 (cellV r (a + i - m) - gt l i) (List.mem_iff_getElem?.mpr ⟨i, by simp [gt, List.getD_eq_getElem?_getD, hi]⟩)
    omega
  · intro h
    obtain ⟨i, hi⟩ := List.mem_iff_getElem?.mp e.1
    simp only [List.getElem?_mapIdx, Option.map_eq_some_iff] at hi
    obtain ⟨d, h1, h2⟩ := hi
    have hil := (List.getElem?_eq_some_iff.mp h1).1
    have hd : gt l i = d := by simp [gt, List.getD_eq_getElem?_getD, h1]
    have := h i hil
    rw [hd] at this
    omega
theorem eq_of_le {x y : Int} (h : ∀ H, x ≤ H ↔ y ≤ H) : x = y := Int.le_antisymm ((h y).mpr (Int.le_refl _)) ((h x).mp (Int.le_refl _))
theorem cell_mot {r l : List Int} {m c : Int} (h0 : 0 < r.length) : cellV (motV r l m) c = liftV r l m c := by
  have hl : (motV r l m).length = r.length := by simp [motV]
  have k0 := fmod_rng c r.length (by omega)
  unfold cellV
  rw [hl, motV_at r l m _ (by omega)]
  show liftV r l m ((c.fmod r.length).toNat : Int) = _
  refine liftV_congr r l m _ _ h0 ?_
  rw [Int.toNat_of_nonneg k0.1, Int.fmod_eq_emod_of_nonneg _ (by omega), Int.emod_emod_of_dvd _ (Int.dvd_refl _)]
theorem rid_le {a b : List Int} {k : Nat} {x H : Int} (ha : 0 < a.length) (hb : 0 < b.length) (hk : k < a.length + b.length - 1) : x - gt (ridV a b) k ≤ H ↔ ∀ i j : Nat, i < a.length → j < b.length → i + j = k → x - (gt a i + gt b j) ≤ H := by
  rw [ridV_at a b k hk]
  obtain ⟨y, hy⟩ := sms_ne a b k ha hb hk
  rw [hy]
  show x - y ≤ H ↔ _
  have e := List.min?_eq_some_iff.mp hy
  constructor
  · intro h i j hi hj hij
    have := e.2 _ (sms_mem a b k a.length i hi (by omega) (by omega))
    rw [show k - i = j by omega] at this
    omega
  · intro h
    obtain ⟨i, h1, h2, h3, h4⟩ := sms_of a b k y _ e.1
    have := h i (k - i) h1 h3 (by omega)
    omega
theorem lift_ridden {r a b : List Int} {m n t : Int} (h0 : 0 < r.length) (ha : 0 < a.length) (hb : 0 < b.length) : liftV r (ridV a b) (m + n) t = liftV (motV r a m) b n t := by
  refine eq_of_le fun H => ?_
  rw [lift_le' (by rw [ridV_len]; omega), lift_le' hb]
  constructor
  · intro h j hj
    rw [cell_mot h0]
    have : liftV r a m (t + j - n) ≤ H + gt b j := by
      rw [lift_le' ha]
      intro i hi
      have q := (rid_le ha hb (show i + j < a.length + b.length - 1 by omega)).mp (h (i + j) (by rw [ridV_len]; omega)) i j hi hj rfl
      rw [show t + ((i + j : Nat) : Int) - (m + n) = t + j - n + i - m by omega] at q
      omega
    omega
  · intro h k hk
    rw [ridV_len] at hk
    refine (rid_le ha hb hk).mpr fun i j hi hj hij => ?_
    have q := h j hj
    rw [cell_mot h0] at q
    have q2 : liftV r a m (t + j - n) ≤ H + gt b j := by omega
    have q3 := (lift_le' ha).mp q2 i hi
    rw [show t + j - n + i - m = t + (k : Int) - (m + n) by omega] at q3
    omega
theorem mot_ridden {r a b : List Int} {m n : Int} (h0 : 0 < r.length) (ha : 0 < a.length) (hb : 0 < b.length) : motV r (ridV a b) (m + n) = motV (motV r a m) b n := by
  have hl : (motV r a m).length = r.length := by simp [motV]
  unfold motV
  rw [show ((List.range r.length).map fun a_1 : Nat => liftV r a m a_1) = motV r a m from rfl, hl]
  exact List.map_congr_left fun t _ => lift_ridden h0 ha hb
/-- a rim turned -/
def shV (r : List Int) (by_ : Int) : List Int := (List.range r.length).map fun k : Nat => cellV r ((k : Int) + by_)
/-- a rim turned about -/
def abV (r : List Int) : List Int := (List.range r.length).map fun k : Nat => cellV r (0 - (k : Int))
theorem shV_len (r : List Int) (x : Int) : (shV r x).length = r.length := by simp [shV]
theorem abV_len (r : List Int) : (abV r).length = r.length := by simp [abV]
theorem motV_len (r l : List Int) (m : Int) : (motV r l m).length = r.length := by simp [motV]
theorem fmod_sub_self (c n : Int) (hn : 0 < n) : ∃ q, c.fmod n = c + n * q := by
  refine ⟨-(c / n), ?_⟩
  rw [Int.fmod_eq_emod_of_nonneg _ (by omega), Int.emod_def, Int.mul_neg]
  omega
theorem cell_sh {r : List Int} {x c : Int} (h0 : 0 < r.length) : cellV (shV r x) c = cellV r (c + x) := by
  have k0 := fmod_rng c r.length (by omega)
  have e : cellV (shV r x) c = cellV r (((c.fmod r.length).toNat : Int) + x) := by
    have hk : (c.fmod r.length).toNat < r.length := by omega
    conv => lhs; unfold cellV
    rw [shV_len]
    simp only [shV, List.getElem?_map, List.getElem?_range hk]
    rfl
  rw [e, Int.toNat_of_nonneg k0.1]
  obtain ⟨q, hq⟩ := fmod_sub_self c r.length (by omega)
  exact cellV_congr h0 (emod_of_sub q (by rw [hq]; omega))
theorem cell_ab {r : List Int} {c : Int} (h0 : 0 < r.length) : cellV (abV r) c = cellV r (0 - c) := by
  have k0 := fmod_rng c r.length (by omega)
  have e : cellV (abV r) c = cellV r (0 - ((c.fmod r.length).toNat : Int)) := by
    have hk : (c.fmod r.length).toNat < r.length := by omega
    conv => lhs; unfold cellV
    rw [abV_len]
    simp only [abV, List.getElem?_map, List.getElem?_range hk]
    rfl
  rw [e, Int.toNat_of_nonneg k0.1]
  obtain ⟨q, hq⟩ := fmod_sub_self c r.length (by omega)
  exact cellV_congr h0 (emod_of_sub (-q) (by rw [hq, Int.mul_neg]; omega))
theorem lift_sh {r l : List Int} {m x t : Int} (h0 : 0 < r.length) (hl : 1 ≤ l.length) : liftV (shV r x) l m t = liftV r l m (t + x) := by
  refine eq_of_le fun H => ?_
  rw [lift_le' hl, lift_le' hl]
  refine forall_congr' fun i => forall_congr' fun _ => ?_
  rw [cell_sh h0, show t + i - m + x = t + x + i - m by omega]
theorem gt_rev {l : List Int} {i : Nat} (hi : i < l.length) : gt l.reverse i = gt l (l.length - 1 - i) := by
  simp only [gt, List.getD_eq_getElem?_getD]
  rw [List.getElem?_reverse hi]
theorem lift_ab {r l : List Int} {m t : Int} (h0 : 0 < r.length) (hl : 1 ≤ l.length) : liftV (abV r) l.reverse ((l.length : Int) - 1 - m) t = liftV r l m (0 - t) := by
  refine eq_of_le fun H => ?_
  rw [lift_le' (by rw [List.length_reverse]; exact hl), lift_le' hl, List.length_reverse]
  constructor
  · intro h i hi
    have q := h (l.length - 1 - i) (by omega)
    rw [cell_ab h0, gt_rev (by omega), show l.length - 1 - (l.length - 1 - i) = i by omega, show 0 - (t + ((l.length - 1 - i : Nat) : Int) - ((l.length : Int) - 1 - m)) = 0 - t + i - m by omega] at q
    exact q
  · intro h i hi
    have q := h (l.length - 1 - i) (by omega)
    rw [cell_ab h0, gt_rev hi, show 0 - (t + (i : Int) - ((l.length : Int) - 1 - m)) = 0 - t + ((l.length - 1 - i : Nat) : Int) - m by omega]
    exact q
theorem mot_sh {r l : List Int} {m x : Int} (h0 : 0 < r.length) (hl : 1 ≤ l.length) : motV (shV r x) l m = shV (motV r l m) x := by
  unfold shV
  rw [motV_len]
  rw [show ((List.range r.length).map fun k : Nat => cellV r ((k : Int) + x)) = shV r x from rfl]
  unfold motV
  rw [shV_len]
  refine List.map_congr_left fun t _ => ?_
  rw [show ((List.range r.length).map fun a : Nat => liftV r l m a) = motV r l m from rfl, cell_mot h0]
  exact lift_sh h0 hl
theorem mot_ab {r l : List Int} {m : Int} (h0 : 0 < r.length) (hl : 1 ≤ l.length) : motV (abV r) l.reverse ((l.length : Int) - 1 - m) = abV (motV r l m) := by
  unfold abV
  rw [motV_len]
  rw [show ((List.range r.length).map fun k : Nat => cellV r (0 - (k : Int))) = abV r from rfl]
  unfold motV
  rw [abV_len]
  refine List.map_congr_left fun t _ => ?_
  rw [show ((List.range r.length).map fun a : Nat => liftV r l m a) = motV r l m from rfl, cell_mot h0]
  exact lift_ab h0 hl
theorem item_cell {r : List Int} {c : Int} (h0 : 0 < r.length) : atI (wD (r.map .int)) (c.fmod r.length) = some (.d (.int (cellV r c))) := by
  have k0 := fmod_rng c r.length (by omega)
  rw [item_tup r _ h0 k0.1 k0.2]
  obtain ⟨q, hq⟩ := fmod_sub_self c r.length (by omega)
  rw [cellV_congr h0 (emod_of_sub q hq)]
theorem item_neg {r : List Int} {k : Nat} (hk : k < r.length) : atI (wD (r.map .int)) (0 - (k : Int)) = some (.d (.int (cellV r (0 - (k : Int))))) := by
  by_cases e : k = 0
  · subst e
    have := item_tup r 0 (by omega) (by omega) (by omega)
    simpa using this
  · have h2 := item_tup r ((r.length : Int) - k) (by omega) (by omega) (by omega)
    rw [cellV_congr (d := 0 - (k : Int)) (by omega) (emod_of_sub 1 (by omega))] at h2
    have e1 : atI (wD (r.map D.int)) (0 - (k : Int)) = atI (wD (r.map D.int)) ((r.length : Int) - k) := by
      have hn : (wD (r.map D.int)).length = r.length := by simp [wD]
      unfold atI ixN
      rw [hn]
      rw [if_neg (show ¬ 0 ≤ 0 - (k : Int) by omega), if_pos (show (0 : Int) ≤ (r.length : Int) - k by omega)]
      first
        | (rw [if_pos (by omega), if_pos (by omega)]; congr 2; omega)
        | (simp; done)
        | skip
    rw [e1]
    exact h2
end TG

set_option linter.all false
set_option maxRecDepth 100000
namespace TG
open PySem L2
/-! ### exceptions that keep something -/
def tryX (sub : Str → Str → Option Bool) (hs : List (Str × Clause)) : RS → RS
  | .exc c x ρ' s' => (match hdFX sub c hs with | some (some k) => noExc (k c x ρ' s') | some none => .exc c x ρ' s' | none => .no)
  | r => r
@[simp] theorem sTryX_eq (sub : Str → Str → Option Bool) (b : Stm) (hs : List (Str × Clause)) (ρ : Rho) (s : S) : sTryX sub b hs ρ s = tryX sub hs (b ρ s) := by
  show (match b ρ s with
  | .exc c x ρ' s' => (match hdFX sub c hs with | some (some k) => noExc (k c x ρ' s') | some none => .exc c x ρ' s' | none => .no)
  | r => r) = tryX sub hs (b ρ s)
  cases b ρ s <;> rfl
@[simp] theorem tryX_ret (sub : Str → Str → Option Bool) (hs : List (Str × Clause)) (v : RV) (s : S) : tryX sub hs (.ret v s) = .ret v s := (rfl)
@[simp] theorem tryX_nx (sub : Str → Str → Option Bool) (hs : List (Str × Clause)) (ρ : Rho) (s : S) : tryX sub hs (.nx ρ s) = .nx ρ s := (rfl)
theorem tryX_exc (sub : Str → Str → Option Bool) (hs : List (Str × Clause)) (c : Str) (x : Option D) (ρ : Rho) (s : S) (k : Clause) (h : hdFX sub c hs = some (some k)) : tryX sub hs (.exc c x ρ s) = noExc (k c x ρ s) := by
  show (match hdFX sub c hs with | some (some k) => noExc (k c x ρ s) | some none => .exc c x ρ s | none => .no) = _
  rw [h]
@[simp] theorem kPlain_eq (k : Stm) (c : Str) (x : Option D) : kPlain k c x = k := (rfl)
theorem kReadF_eq (i : Nat) (x : Str) (d : D) (ρ : Rho) (s : S) (h : i < ρ.length) : kReadF i x x (some d) ρ s = .ret (.w (.d d)) s := by
  show (if x = x ∧ i < ρ.length then retFld (some d) s else .no) = _
  rw [if_pos ⟨rfl, h⟩]
  rfl
theorem kReadL_eq (i : Nat) (x w : Str) (d : D) (ρ : Rho) (s : S) (h : i < ρ.length) : kReadL i x w x (some d) ρ s = .ret (.own [.d (.str w), .d d]) s := by
  show (if x = x ∧ i < ρ.length then retFldL w (some d) s else .no) = _
  rw [if_pos ⟨rfl, h⟩]
  rfl
def kRaiseX (c : Str) : W → Stm := fun w ρ s => match w with | .d x => .exc c (some x) ρ s | .r _ => .no
@[simp] theorem sRaiseX_eq (c : Str) (a : Cmp W) (ρ : Rho) (s : S) : sRaiseX c a ρ s = ebS (a ρ s) ρ (kRaiseX c) := (rfl)
@[simp] theorem kRaiseX_eq (c : Str) (x : D) (ρ : Rho) (s : S) : kRaiseX c (.d x) ρ s = .exc c (some x) ρ s := (rfl)
end TG

set_option linter.all false
set_option maxRecDepth 100000
namespace TG
open PySem L2
/-! ### a number in a list of numbers -/
theorem inD_ints (i : Int) (l : List Int) : inD (.int i) (l.map .int) = decide (i ∈ l) := by
  induction l with
  | nil => rfl
  | cons a r ih =>
    show (eqF (.int a) (.int i) || inD (.int i) (r.map .int)) = _
    rw [ih]
    simp only [eqF, List.mem_cons]
    by_cases h : a = i
    · simp [h]
    · have h2 : ¬ i = a := fun e => h e.symm
      simp [h, h2]
theorem fIn_ints (neg : Bool) (i : Int) (l : List Int) (s : S) : fIn neg (.d (.int i)) (.d (.lst (l.map .int))) s = .ok (.d (.bl (if neg then !decide (i ∈ l) else decide (i ∈ l)))) s := by
  have h : (l.map D.int).all flatD = true := List.all_eq_true.mpr (by simp [flatD])
  simp [fIn, asData, asSeq, inD_ints, flatD, h]
/-! ### cells that bear at every angle -/
def aloneC (c : List Int) : List Int := if c.length = 1 then c else []
def rowB (rim : List Int) (f : Foot) : List (List Int) := (List.range rim.length).map fun i : Nat => bearV rim f.1 f.2 i
def allB (rim : List Int) (fs : List Foot) : List (List Int) := fs.flatMap (rowB rim)
def aloneV (rim : List Int) (fs : List Foot) : List Int := (allB rim fs).flatMap aloneC
def idleV (rim : List Int) (fs : List Foot) : List Int := ((List.range rim.length).filter fun i : Nat => !decide ((i : Int) ∈ aloneV rim fs)).map fun i : Nat => (i : Int)
abbrev cellsD (c : List Int) : D := .lst (c.map .int)
abbrev feetD (fs : List Foot) : W := .d (.lst (fs.map footF))
structure GoodFs (fs : List Foot) : Prop where
  all : ∀ f ∈ fs, GoodF f.1 f.2
  len : fs.length ≤ 1000
theorem rowB_len (rim : List Int) (f : Foot) : (rowB rim f).length = rim.length := by simp [rowB]
theorem allB_len (rim : List Int) (fs : List Foot) : (allB rim fs).length ≤ fs.length * rim.length := len_flat _ _ _ fun f _ => by rw [rowB_len]; exact Nat.le_refl _
def I_allB (rim : List Int) (fs : List Foot) (s : S) (pre : List Foot) (ρ : Rho) (s' : S) : Prop := (∃ x3 x4 : EV, ρ = [.w (intsD rim), .w (feetD fs), .own (wD ((allB rim pre).map cellsD)), x3, x4]) ∧ s' = s
theorem allBearing_eq (rim : List Int) (fs : List Foot) (s : S) (h : 0 < rim.length) (h' : rim.length ≤ 1000) (hf : GoodFs fs) : f_all_bearing [intsD rim, feetD fs] s = .ok (.own (wD ((allB rim fs).map cellsD))) s := by
  refine eq_wE ?_
  rw [f_all_bearing]
  refine wE_fn (by rfl) ?_
  simp [b_all_bearing]
  have e0 : wD (fs.map footF) = fs.map fun f => W.d (footF f) := by simp [wD]
  rw [e0]
  refine wS_mid (I_allB rim fs s fs) ?_ ?_
  · refine forE_at (I_allB rim fs s) ⟨⟨_, _, rfl⟩, rfl⟩ ?_ fun ρ s' h => h
    rintro pre f r hz ρ s' ⟨⟨x3, x4, rfl⟩, rfl⟩
    have g := hf.all f (by rw [hz]; simp)
    have hp : pre.length ≤ 1000 := by
      have h3 := congrArg List.length hz
      rw [List.length_append, List.length_cons] at h3
      have := hf.len
      omega
    have hpl : (allB rim pre).length ≤ 1000 * 1000 := Nat.le_trans (allB_len rim pre) (Nat.mul_le_mul hp h')
    have hr := fun s => rng1_nat rim.length s (by omega)
    have hL : rim.length ≤ 16777216 := by omega
    refine ⟨_, rfl, ?_⟩
    simp [hr, hL, wipeR, -rng1_eq]
    rw [lcM_fn' (v := fun i : Nat => cellsD (bearV rim f.1 f.2 i))]
    · have e1 : (List.range rim.length).map (fun i : Nat => cellsD (bearV rim f.1 f.2 i)) = (rowB rim f).map cellsD := by simp [rowB]
      rw [e1]
      have hl2 : (allB rim pre).length + (rowB rim f).length ≤ 16777216 := by rw [rowB_len]; omega
      have hl3 : (rowB rim f).length ≤ 16777216 := by rw [rowB_len]; omega
      simp [hl2, hl3, wipeR, -rng1_eq]
      refine ⟨⟨.w (.d (footF f)), x4, ?_⟩, rfl⟩
      rw [show allB rim (pre ++ [f]) = allB rim pre ++ rowB rim f by simp [allB]]
      simp [wD]
    · intro i hi
      have hi := List.mem_range.mp hi
      refine ⟨_, rfl, ?_⟩
      have hb := bearOn_eq rim f.1 f.2 i s' h g.l1 (by have := g.l9; omega)
      have e2 : W.d (footF f) = .d (footD f.1 f.2) := rfl
      simp [e2, hb]
  · rintro ρ s' ⟨⟨x3, x4, rfl⟩, rfl⟩
    simp
theorem alone_fm (l : List (List Int)) : (l.filter fun c => c.length == 1).map (fun c => c.getD 0 0) = l.flatMap aloneC := by
  induction l with
  | nil => rfl
  | cons c r ih =>
    rw [List.flatMap_cons, List.filter_cons]
    cases c with
    | nil => simpa [aloneC] using ih
    | cons x t =>
      cases t with
      | nil => simpa [aloneC] using ih
      | cons y z => simpa [aloneC] using ih
theorem idle_eq (rim : List Int) (fs : List Foot) (s : S) (h : 3 ≤ rim.length) (h' : rim.length ≤ 48) (hf : GoodFs fs) : f_idle [intsD rim, feetD fs] s = .ok (.own (wD ((idleV rim fs).map .int))) s := by
  have hl := Nat.le_trans (allB_len rim fs) (Nat.mul_le_mul hf.len h')
  have ha : (allB rim fs).length ≤ 16777216 := by omega
  have hr := fun s => rng1_nat rim.length s (by omega)
  have hL : rim.length ≤ 16777216 := by omega
  rw [f_idle, runF_eq]
  simp [lookRim_eq rim s h h', allBearing_eq rim fs s (by omega) (by omega) hf, ha, b_idle, hr, hL, wipeR, -rng1_eq]
  have e0 : wD ((allB rim fs).map cellsD) = (allB rim fs).map fun c => W.d (cellsD c) := by simp [wD]
  rw [e0, lcM_fn (p := fun c : List Int => c.length == 1) (v := fun c : List Int => .int (c.getD 0 0))]
  · have e1 : ((allB rim fs).filter fun c : List Int => c.length == 1).map (fun c : List Int => D.int (c.getD 0 0)) = (aloneV rim fs).map .int := by
      rw [aloneV, ← alone_fm, List.map_map]; rfl
    rw [e1]
    simp [hr, hL, wipeR, -rng1_eq]
    rw [lcM_fn (p := fun i : Nat => !decide ((i : Int) ∈ aloneV rim fs)) (v := fun i : Nat => .int i)]
    · have e5 : (idleV rim fs).map D.int = List.map (fun i : Nat => D.int (i : Int)) (List.filter (fun i : Nat => !decide ((i : Int) ∈ aloneV rim fs)) (List.range rim.length)) := by rw [idleV, List.map_map]; rfl
      rw [e5]
      rfl
    · intro i hi
      refine ⟨_, rfl, ?_, fun _ => by simp⟩
      simp [fIn_ints]
  · intro c hc
    refine ⟨_, rfl, ?_, ?_⟩
    · have e : ((c.length : Int) == 1) = (c.length == 1) := by
        rw [Bool.eq_iff_iff, beq_iff_eq, beq_iff_eq]
        omega
      simp [e]
    · intro q
      cases c with
      | nil => simp at q
      | cons x t => simp [wD]
theorem idle_bad (rim : List Int) (x : W) (s : S) (h : rim.length < 3 ∨ 48 < rim.length) : f_idle [intsD rim, x] s = .exc "BadRim" none s := by
  rw [f_idle, runF_eq]
  simp [b_idle, lookRim_bad rim s h]
theorem told13 (rim : List Int) (fs : List Foot) (s : S) (h : 3 ≤ rim.length) (h' : rim.length ≤ 48) (hf : GoodFs fs) :
    f_v_law_told_3 [intsD rim, feetD fs] s = .ok (.own (wD ((idleV rim fs).map .int))) s := by
  rw [f_v_law_told_3, runF_eq]
  simp [b_v_law_told_3, idle_eq rim fs s h h' hf]
theorem told13_bad (rim : List Int) (x : W) (s : S) (h : rim.length < 3 ∨ 48 < rim.length) : f_v_law_told_3 [intsD rim, x] s = .ok (.own [.d (.str "BadRim")]) s := by
  have hx : ∀ ρ s, tryK (subT [("BadFoot", "BadRim", false), ("BadRim", "BadRim", true)]) [("BadRim", sRetL (eLst (eCons (eC (.str "BadRim")) eNil)))] (.exc "BadRim" none ρ s) = .ret (.own [.d (.str "BadRim")]) s := by
    intro ρ s
    rw [tryK_exc _ _ _ _ _ _ (sRetL (eLst (eCons (eC (.str "BadRim")) eNil)))]
    · simp
    · rfl
  rw [f_v_law_told_3, runF_eq]
  simp [b_v_law_told_3, idle_bad rim _ s h, hx]
end TG

set_option linter.all false
set_option maxRecDepth 100000
namespace TG
open PySem L2
/-! ### what bears, and what keeps -/
theorem cell_gt {rim : List Int} {c : Int} (h0 : 0 ≤ c) (h1 : c < rim.length) : cellV rim c = gt rim c.toNat := by
  unfold cellV gt
  rw [List.getD_eq_getElem?_getD, Int.fmod_eq_emod_of_nonneg _ (by omega), Int.emod_eq_of_lt h0 h1]
theorem bearV_mem {rim l : List Int} {m a x : Int} (h : 0 < rim.length) : x ∈ bearV rim l m a ↔ ∃ p ∈ spotL rim.length l m a, p.1 = x ∧ gt rim p.1.toNat - p.2 = liftV rim l m a := by
  unfold bearV
  rw [sortD_mem]
  unfold bearL
  simp only [List.mem_map, List.mem_filter, beq_iff_eq]
  constructor
  · rintro ⟨p, ⟨hp, e⟩, rfl⟩
    have hr := spotL_rng (by omega) hp
    rw [cell_gt hr.1 hr.2] at e
    exact ⟨p, hp, rfl, e⟩
  · rintro ⟨p, hp, rfl, e⟩
    have hr := spotL_rng (by omega) hp
    rw [← cell_gt hr.1 hr.2] at e
    exact ⟨p, ⟨hp, e⟩, rfl⟩
theorem bearV_rng {rim l : List Int} {m a x : Int} (h : 0 < rim.length) (hx : x ∈ bearV rim l m a) : 0 ≤ x ∧ x < rim.length := by
  obtain ⟨p, hp, rfl, _⟩ := (bearV_mem h).mp hx
  exact spotL_rng (by omega) hp
theorem bearV_ne {rim l : List Int} {m a : Int} (h : 0 < rim.length) (hl : 1 ≤ l.length) : ∃ x, x ∈ bearV rim l m a := by
  obtain ⟨p, hp, k⟩ := (le_lift (m := m) (a := a) (H := liftV rim l m a) h hl).mp (Int.le_refl _)
  have k2 := (lift_le (m := m) (a := a) (H := liftV rim l m a) h hl).mp (Int.le_refl _) p hp
  exact ⟨p.1, (bearV_mem h).mpr ⟨p, hp, rfl, by omega⟩⟩
/-- a lower cam that keeps one bearing cell keeps the height -/
theorem keep_lift {q r l : List Int} {m a x : Int} (hle : LeR q r) (h : 0 < r.length) (hl : 1 ≤ l.length) (hx : x ∈ bearV r l m a) (hk : gt q x.toNat = gt r x.toNat) : liftV q l m a = liftV r l m a := by
  have hq : 0 < q.length := by rw [hle.1]; exact h
  refine Int.le_antisymm (lift_mono hle hq hl m a) ?_
  obtain ⟨p, hp, rfl, e⟩ := (bearV_mem h).mp hx
  rw [le_lift hq hl]
  exact ⟨p, by rw [hle.1]; exact hp, by rw [hk]; omega⟩
def bearsV (rim : List Int) (fs : List Foot) : List Int := (allB rim fs).flatten
theorem bears_mem {rim : List Int} {fs : List Foot} {x : Int} : x ∈ bearsV rim fs ↔ ∃ f ∈ fs, ∃ i : Nat, i < rim.length ∧ x ∈ bearV rim f.1 f.2 i := by
  unfold bearsV allB rowB
  simp only [List.mem_flatten, List.mem_flatMap, List.mem_map, List.mem_range]
  constructor
  · rintro ⟨l, ⟨f, hf, i, hi, rfl⟩, hx⟩
    exact ⟨f, hf, i, hi, hx⟩
  · rintro ⟨f, hf, i, hi, hx⟩
    exact ⟨_, ⟨f, hf, i, hi, rfl⟩, hx⟩
theorem keep_motion {q r : List Int} {fs : List Foot} (hle : LeR q r) (h : 0 < r.length) (hf : GoodFs fs) (hk : ∀ x ∈ bearsV r fs, gt q x.toNat = gt r x.toNat) : ∀ f ∈ fs, motV q f.1 f.2 = motV r f.1 f.2 := by
  intro f hfm
  unfold motV
  rw [hle.1]
  apply List.map_congr_left
  intro i hi
  have hi := List.mem_range.mp hi
  obtain ⟨x, hx⟩ := bearV_ne (rim := r) (m := f.2) (a := (i : Int)) h (hf.all f hfm).l1
  exact keep_lift hle h (hf.all f hfm).l1 hx (hk x (bears_mem.mpr ⟨f, hfm, i, hi, hx⟩))
theorem alone_bears {rim : List Int} {fs : List Foot} {x : Int} (h : x ∈ aloneV rim fs) : x ∈ bearsV rim fs := by
  unfold aloneV at h
  obtain ⟨c, hc, hx⟩ := List.mem_flatMap.mp h
  refine List.mem_flatten.mpr ⟨c, hc, ?_⟩
  unfold aloneC at hx
  split at hx
  · exact hx
  · cases hx
theorem idle_mem {rim : List Int} {fs : List Foot} {i : Nat} : (i : Int) ∈ idleV rim fs ↔ i < rim.length ∧ (i : Int) ∉ aloneV rim fs := by
  unfold idleV
  simp only [List.mem_map, List.mem_filter, List.mem_range, Bool.not_eq_true', decide_eq_false_iff_not]
  constructor
  · rintro ⟨j, ⟨h1, h2⟩, e⟩
    have : j = i := by omega
    subst this
    exact ⟨h1, h2⟩
  · rintro ⟨h1, h2⟩
    exact ⟨i, ⟨h1, h2⟩, rfl⟩
theorem dedup_len : ∀ l : List Int, (dedupI l).length ≤ l.length
  | [] => Nat.le_refl _
  | a :: r => by
    have := dedup_len r
    unfold dedupI
    split
    · rw [List.length_cons]; omega
    · rw [List.length_cons, List.length_cons]; omega
theorem sortD_len (l : List Int) : (sortD l).length ≤ l.length := by
  unfold sortD
  rw [List.length_mergeSort]
  exact dedup_len l
theorem sortD_rng {l : List Int} {n : Nat} (h : ∀ x ∈ l, 0 ≤ x ∧ x < n) : (sortD l).length ≤ n := by
  have e : sortD l = ((List.range n).filter fun i : Nat => decide ((i : Int) ∈ l)).map fun i : Nat => (i : Int) := by
    refine lt_ext (sortD_lt l) ?_ fun x => ?_
    · refine List.Pairwise.map _ (fun a b h => ?_) ((List.pairwise_lt_range).filter _)
      exact Int.ofNat_lt.mpr h
    · rw [sortD_mem]
      simp only [List.mem_map, List.mem_filter, List.mem_range, decide_eq_true_eq]
      constructor
      · intro hx
        have := h x hx
        exact ⟨x.toNat, ⟨by omega, by rw [Int.toNat_of_nonneg this.1]; exact hx⟩, by omega⟩
      · rintro ⟨i, ⟨_, hi⟩, rfl⟩
        exact hi
  rw [e, List.length_map]
  exact Nat.le_trans (List.length_filter_le _ _) (by rw [List.length_range]; exact Nat.le_refl _)
theorem sort_bear (rim l : List Int) (m a : Int) : sortD (bearV rim l m a) = bearV rim l m a := lt_ext (sortD_lt _) (sortD_lt _) fun x => sortD_mem
theorem bearV_nine (rim l : List Int) (m a : Int) : (bearV rim l m a).length ≤ l.length := Nat.le_trans (sortD_len _) (bearL_len rim l m a)
theorem bears_len {rim : List Int} {fs : List Foot} (hf : GoodFs fs) : (bearsV rim fs).length ≤ fs.length * rim.length * 9 := by
  have h1 := allB_len rim fs
  have h2 : (bearsV rim fs).length ≤ (allB rim fs).length * 9 := by
    unfold bearsV
    rw [← List.flatMap_id]
    refine len_flat id 9 _ fun c hc => ?_
    obtain ⟨f, hfm, hc⟩ := List.mem_flatMap.mp hc
    obtain ⟨i, _, rfl⟩ := List.mem_map.mp hc
    have := bearV_nine rim f.1 f.2 i
    have := (hf.all f hfm).l9
    show (bearV rim f.1 f.2 i).length ≤ 9
    omega
  exact Nat.le_trans h2 (Nat.mul_le_mul_right 9 h1)
/-! keeps -/
def keptB (rim : List Int) (fs : List Foot) (cells : List Int) : Bool := (allB rim fs).all fun c => c.any fun x => decide (x ∈ cells)
theorem bls_id (l : List Bool) : l.any id = l.any id := rfl
theorem keptBy_eq (ll : List (List Int)) (cells : List Int) (s : S) (h1 : ll.length ≤ 100000) (h2 : ∀ c ∈ ll, c.length ≤ 1000) : f_kept_by [.d (.lst (ll.map cellsD)), .d (.lst (cells.map .int))] s = .ok (.w (.d (.bl (ll.all fun c => c.any fun x => decide (x ∈ cells))))) s := by
  have hL : ll.length ≤ 16777216 := by omega
  rw [f_kept_by, runF_eq]
  simp [b_kept_by, hL, wipeR, -rng1_eq]
  have e0 : wD (ll.map cellsD) = ll.map fun c => W.d (cellsD c) := by simp [wD]
  rw [e0, lcM_fn' (v := fun c : List Int => .bl (c.any fun x => decide (x ∈ cells)))]
  · have ha := fAll_bls (ll.map fun c => c.any fun x => decide (x ∈ cells)) s
    rw [List.map_map, List.all_map] at ha
    have e : ll.map (D.bl ∘ fun c : List Int => c.any fun x => decide (x ∈ cells)) = ll.map fun c : List Int => D.bl (c.any fun x => decide (x ∈ cells)) := rfl
    rw [e] at ha
    simp [hL, ha, wipeR, -rng1_eq]
  · intro c hc
    have hc2 := h2 c hc
    have hL2 : c.length ≤ 16777216 := by omega
    refine ⟨_, rfl, ?_⟩
    simp [hL2, wipeR, -rng1_eq]
    have e1 : wD (c.map D.int) = c.map fun x => W.d (.int x) := by simp [wD]
    rw [e1, lcM_fn' (v := fun x : Int => .bl (decide (x ∈ cells)))]
    · have ha := fAny_bls (c.map fun x => decide (x ∈ cells)) s
      rw [List.map_map, List.any_map] at ha
      have e : c.map (D.bl ∘ fun x : Int => decide (x ∈ cells)) = c.map fun x : Int => D.bl (decide (x ∈ cells)) := rfl
      rw [e] at ha
      simp [hL2, ha, wipeR, -rng1_eq]
    · intro x hx
      refine ⟨_, rfl, ?_⟩
      simp [fIn_ints]
def I_keep (rim : List Int) (fs : List Foot) (cells : List Int) (s : S) (ρ : Rho) (s' : S) : Prop := (∃ x3 : EV, ρ = [.w (intsD rim), .w (feetD fs), .w (.d (.lst (cells.map .int))), x3]) ∧ s' = s
theorem keeps_eq (rim : List Int) (fs : List Foot) (cells : List Int) (s : S) (h : 3 ≤ rim.length) (h' : rim.length ≤ 48) (hf : GoodFs fs) (hc : ∀ x ∈ cells, 0 ≤ x ∧ x < rim.length) :
    f_keeps [intsD rim, feetD fs, .d (.lst (cells.map .int))] s = .ok (.w (.d (.bl (keptB rim fs cells)))) s := by
  refine eq_wE ?_
  rw [f_keeps]
  refine wE_fn (by rfl) ?_
  have hla := allB_len rim fs
  have hlb := Nat.mul_le_mul hf.len h'
  have hL : (allB rim fs).length ≤ 16777216 := by omega
  simp [b_keeps, lookRim_eq rim s h h', wipeR, -rng1_eq]
  have e1 : wD (cells.map D.int) = cells.map fun x => W.d (.int x) := by simp [wD]
  rw [e1]
  refine wS_mid (I_keep rim fs cells s) ?_ ?_
  · refine forE_inv (I_keep rim fs cells s) ?_ ⟨⟨_, rfl⟩, rfl⟩ fun ρ s' h => h
    rintro w hw ρ s' ⟨⟨x3, rfl⟩, rfl⟩
    obtain ⟨x, hx, rfl⟩ := List.mem_map.mp hw
    obtain ⟨x0, x1⟩ := hc x hx
    have hlc : f_look_cell [intsD rim, .d (.int x)] s' = .ok (.w (.d .non)) s' := by
      rw [f_look_cell, runF_eq]
      simp [b_look_cell, x0, x1]
    refine ⟨_, rfl, ?_⟩
    simp [hlc, wipeR, -rng1_eq]
    exact ⟨⟨_, rfl⟩, rfl⟩
  · rintro ρ s' ⟨⟨x3, rfl⟩, rfl⟩
    have hk := keptBy_eq (allB rim fs) cells s' (by omega) (by
      intro c hc
      obtain ⟨f, hfm, hc⟩ := List.mem_flatMap.mp hc
      obtain ⟨i, _, rfl⟩ := List.mem_map.mp hc
      have := bearV_nine rim f.1 f.2 i
      have := (hf.all f hfm).l9
      omega)
    simp [allBearing_eq rim fs s' (by omega) (by omega) hf, hL, hk, wipeR, -rng1_eq]
    rfl
end TG

set_option linter.all false
set_option maxRecDepth 100000
namespace TG
open PySem L2
/-! ### one cell lowered -/
structure LowAt (q r : List Int) (c : Nat) : Prop where
  len : q.length = r.length
  lt : gt q c < gt r c
  eq : ∀ i, i < r.length → i ≠ c → gt q i = gt r i
theorem LowAt.le {q r : List Int} {c : Nat} (h : LowAt q r c) : LeR q r := ⟨h.len, fun i hi => by
  by_cases e : i = c
  · rw [e]; exact Int.le_of_lt h.lt
  · exact Int.le_of_eq (h.eq i (by have := h.len; omega) e)⟩
/-- the cell bears alone -/
def Sole (r l : List Int) (m a : Int) (c : Int) : Prop := ∀ x ∈ bearV r l m a, x = c
theorem sole_low {q r l : List Int} {m a : Int} {c : Nat} (h : LowAt q r c) (h0 : 0 < r.length) (hl : 1 ≤ l.length) (s : Sole r l m a c) : liftV q l m a < liftV r l m a := by
  have hq : 0 < q.length := by rw [h.len]; exact h0
  have k : liftV q l m a ≤ liftV r l m a - 1 := by
    rw [lift_le hq hl]
    intro p hp
    rw [h.len] at hp
    have hr := spotL_rng (show (0 : Int) < r.length by omega) hp
    have k1 := (lift_le (m := m) (a := a) (H := liftV r l m a) h0 hl).mp (Int.le_refl _) p hp
    by_cases e : p.1.toNat = c
    · have := h.lt
      rw [← e] at this
      omega
    · rw [h.eq _ (by omega) e]
      have : ¬ gt r p.1.toNat - p.2 = liftV r l m a := fun k2 => by
        have := s p.1 ((bearV_mem h0).mpr ⟨p, hp, rfl, k2⟩)
        omega
      omega
  omega
theorem not_sole {q r l : List Int} {m a : Int} {c : Nat} (h : LowAt q r c) (h0 : 0 < r.length) (hl : 1 ≤ l.length) (s : ¬ Sole r l m a c) : liftV q l m a = liftV r l m a := by
  obtain ⟨x, hx, hne⟩ : ∃ x ∈ bearV r l m a, x ≠ c := by
    apply Classical.byContradiction
    intro k
    exact s fun x hx => Classical.byContradiction fun hn => k ⟨x, hx, hn⟩
  have hr := bearV_rng h0 hx
  exact keep_lift h.le h0 hl hx (h.eq _ (by omega) (by omega))
theorem sole_alone {r : List Int} {fs : List Foot} {c : Nat} (h0 : 0 < r.length) (hf : GoodFs fs) : (c : Int) ∈ aloneV r fs ↔ ∃ f ∈ fs, ∃ i : Nat, i < r.length ∧ Sole r f.1 f.2 i c := by
  unfold aloneV allB rowB
  simp only [List.mem_flatMap, List.mem_map, List.mem_range]
  constructor
  · rintro ⟨b, ⟨f, hfm, i, hi, rfl⟩, hx⟩
    refine ⟨f, hfm, i, hi, fun x hx2 => ?_⟩
    unfold aloneC at hx
    split at hx
    · rename_i h1
      obtain ⟨y, hy⟩ := List.length_eq_one_iff.mp h1
      rw [hy] at hx hx2
      rw [List.mem_singleton.mp hx, List.mem_singleton.mp hx2]
    · cases hx
  · rintro ⟨f, hfm, i, hi, s⟩
    refine ⟨_, ⟨f, hfm, i, hi, rfl⟩, ?_⟩
    obtain ⟨x, hx⟩ := bearV_ne (rim := r) (m := f.2) (a := (i : Int)) h0 (hf.all f hfm).l1
    have hxc := s x hx
    have h1 : bearV r f.1 f.2 i = [(c : Int)] := lt_ext (sortD_lt _) (List.pairwise_singleton _ _) fun y => ⟨fun hy => by rw [s y hy]; exact List.mem_singleton.mpr rfl, fun hy => by rw [List.mem_singleton.mp hy, ← hxc]; exact hx⟩
    unfold aloneC
    rw [h1]
    simp
theorem low_motion {q r : List Int} {fs : List Foot} {c : Nat} (h : LowAt q r c) (h0 : 0 < r.length) (hc : c < r.length) (hf : GoodFs fs) : (fs.map fun f => motV q f.1 f.2) = (fs.map fun f => motV r f.1 f.2) ↔ (c : Int) ∈ idleV r fs := by
  rw [idle_mem, sole_alone h0 hf]
  constructor
  · intro e
    refine ⟨hc, ?_⟩
    rintro ⟨f, hfm, i, hi, s⟩
    have e1 : motV q f.1 f.2 = motV r f.1 f.2 := by
      obtain ⟨j, hj, rfl⟩ := List.mem_iff_getElem.mp hfm
      have := congrArg (fun l => l[j]?) e
      simpa [hj] using this
    have e2 := congrArg (fun l => l[i]?) e1
    simp [motV, h.len, hi] at e2
    have := sole_low h h0 (hf.all f hfm).l1 s
    omega
  · rintro ⟨_, hn⟩
    apply List.map_congr_left
    intro f hfm
    unfold motV
    rw [h.len]
    apply List.map_congr_left
    intro i hi
    exact not_sole h h0 (hf.all f hfm).l1 fun s => hn ⟨f, hfm, i, List.mem_range.mp hi, s⟩
theorem kept_rest {r : List Int} {fs : List Foot} {c : Nat} {rest : List Int} (h0 : 0 < r.length) (hc : c < r.length) (hf : GoodFs fs) (hr : ∀ x : Int, x ∈ rest ↔ (0 ≤ x ∧ x < r.length) ∧ x ≠ c) : keptB r fs rest = decide ((c : Int) ∈ idleV r fs) := by
  rw [Bool.eq_iff_iff, decide_eq_true_eq, idle_mem, sole_alone h0 hf]
  unfold keptB
  rw [List.all_eq_true]
  constructor
  · intro k
    refine ⟨hc, ?_⟩
    rintro ⟨f, hfm, i, hi, s⟩
    have := k (bearV r f.1 f.2 i) (List.mem_flatMap.mpr ⟨f, hfm, List.mem_map.mpr ⟨i, List.mem_range.mpr hi, rfl⟩⟩)
    obtain ⟨x, hx, hd⟩ := List.any_eq_true.mp this
    exact ((hr x).mp (of_decide_eq_true hd)).2 (s x hx)
  · rintro ⟨_, hn⟩ b hb
    obtain ⟨f, hfm, hb⟩ := List.mem_flatMap.mp hb
    obtain ⟨i, hi, rfl⟩ := List.mem_map.mp hb
    have hi := List.mem_range.mp hi
    obtain ⟨x, hx, hne⟩ : ∃ x ∈ bearV r f.1 f.2 i, x ≠ c := by
      apply Classical.byContradiction
      intro k
      exact hn ⟨f, hfm, i, hi, fun x hx => Classical.byContradiction fun hn => k ⟨x, hx, hn⟩⟩
    rw [List.any_eq_true]
    exact ⟨x, hx, decide_eq_true ((hr x).mpr ⟨bearV_rng h0 hx, hne⟩)⟩
theorem kept_all {r : List Int} {fs : List Foot} {cells : List Int} (h0 : 0 < r.length) (hf : GoodFs fs) (hr : ∀ x : Int, 0 ≤ x → x < r.length → x ∈ cells) : keptB r fs cells = true := by
  unfold keptB
  rw [List.all_eq_true]
  intro b hb
  obtain ⟨f, hfm, hb⟩ := List.mem_flatMap.mp hb
  obtain ⟨i, hi, rfl⟩ := List.mem_map.mp hb
  obtain ⟨x, hx⟩ := bearV_ne (rim := r) (m := f.2) (a := (i : Int)) h0 (hf.all f hfm).l1
  have := bearV_rng h0 hx
  rw [List.any_eq_true]
  exact ⟨x, hx, decide_eq_true (hr x this.1 this.2)⟩
theorem near_lift {q r l : List Int} {m a : Int} (hl0 : q.length = r.length) (h : ∀ i, i < r.length → gt r i - 1 ≤ gt q i) (h0 : 0 < r.length) (hl : 1 ≤ l.length) : liftV r l m a - 1 ≤ liftV q l m a := by
  have hq : 0 < q.length := by omega
  obtain ⟨p, hp, k⟩ := (le_lift (m := m) (a := a) (H := liftV r l m a) h0 hl).mp (Int.le_refl _)
  rw [le_lift hq hl]
  have hr := spotL_rng (show (0 : Int) < r.length by omega) hp
  have := h p.1.toNat (by omega)
  exact ⟨p, by rw [hl0]; exact hp, by omega⟩
/-! rows of numbers compared -/
abbrev rowsD (l : List (List Int)) : D := .lst (l.map fun r => .tup (r.map .int))
theorem eqv_rows : ∀ (l r : List (List Int)), PyData.eqvAll (D.pys (l.map fun r => .tup (r.map .int))) (D.pys (r.map fun r => .tup (r.map .int))) = (l == r)
  | [], [] => rfl
  | [], b :: r => rfl
  | a :: l, [] => rfl
  | a :: l, b :: r => by
    have := eqv_rows l r
    have h2 := eqv_ints a b
    simp [D.pys, PyData.eqvAll, D.py, PyData.eqv, this, h2]
theorem rows_ok (l : List (List Int)) : SeqAt.shaped (D.py (rowsD l)) = true := shaped_of (d := rowsD l) (by
    rw [plain_lst, plains_iff]
    intro d hd
    obtain ⟨r, _, rfl⟩ := List.mem_map.mp hd
    simp) (by
    rw [dep_lst]
    have : D.deps (l.map fun r => D.tup (r.map .int)) ≤ 1 := deps_le.mpr fun d hd => by
      obtain ⟨r, _, rfl⟩ := List.mem_map.mp hd
      rw [dep_tup, deps_ints]
      exact Nat.le_refl _
    omega)
theorem fEq_rows (neg : Bool) (l r : List (List Int)) (s : S) : fEq neg (.d (rowsD l)) (.d (rowsD r)) s = .ok (.d (.bl (if neg then !(l == r) else l == r))) s := by
  have h3 : PyData.eqv (D.py (rowsD l)) (D.py (rowsD r)) = (l == r) := by
    simp only [D.py, PyData.eqv]
    exact eqv_rows l r
  cases neg <;> simp [fEq, asData, eqD, rows_ok, h3]
end TG

set_option linter.all false
set_option maxRecDepth 100000
namespace TG
open PySem L2
@[simp] theorem eLstRg_eq (a : Cmp W) (ρ : Rho) (s : S) : eLstRg a ρ s = (a ρ s).bind kLstRg := (rfl)
@[simp] theorem kLstRg_eq (n : Int) (s : S) : kLstRg (.d (.int n)) s = if 0 ≤ n ∧ n ≤ 16777216 then .ok (wD (((List.range n.toNat).map fun i : Nat => (i : Int)).map D.int)) s else .no := (rfl)
theorem gtAt (rim : List Int) (i : Nat) (hi : i < rim.length) : atI (wD (rim.map .int)) (i : Int) = some (.d (.int (gt rim i))) := by
  simp [wD, hi, gt, List.getD_eq_getElem?_getD]
def motsV (r : List Int) (fs : List Foot) : List (List Int) := fs.map fun f => motV r f.1 f.2
theorem mots_D (r : List Int) (fs : List Foot) : fs.map (fun f : Foot => D.tup ((motV r f.1 f.2).map .int)) = (motsV r fs).map fun r => .tup (r.map .int) := by
  rw [motsV, List.map_map]; rfl
theorem cut_lowAt {r : List Int} {c : Nat} {x : Int} (hc : c < r.length) (h : x < gt r c) : LowAt (cutV r c x) r c := by
  have e : cutV r c x = r.set c x := by
    have : x < r.getD (c : Int).toNat 0 := by simpa [gt] using h
    rw [cutV_cut this]
    simp
  refine ⟨by simp, ?_, fun i hi hne => ?_⟩
  · rw [e]
    simpa [gt, List.getD_eq_getElem?_getD, hc] using h
  · rw [e]
    simp [gt, List.getD_eq_getElem?_getD, hi, Ne.symm hne]
theorem lowered_eq (r : List Int) (c : Nat) (x : Int) (s : S) (h : 3 ≤ r.length) (h' : r.length ≤ 48) (hc : c < r.length) : f_lowered [intsD r, .d (.int c), .d (.int x)] s = .ok (.w (intsD (cutV r c x))) s := by
  have c0 : (0 : Int) ≤ c := by omega
  have c1 : (c : Int) < r.length := by omega
  have hlc : f_look_cell [intsD r, .d (.int c)] s = .ok (.w (.d .non)) s := by
    rw [f_look_cell, runF_eq]
    simp [b_look_cell, hc]
  have hk := cut_eq r c x s c0 c1 (by omega)
  rw [f_lowered, runF_eq]
  simp [b_lowered, lookRim_eq r s h h', hlc, hk]
abbrev R14 (ns rim : List Int) (fs : List Foot) : List EV := [.w (.d (.scr (ns.map .int))), .w (.r 0), .w (intsD rim), .w (.d (.lst (fs.map pairFD))), .w (feetD fs), .w (.d (rowsD (motsV rim fs))), .w (.d (.lst ((idleV rim fs).map .int)))]
def I14 (ns rim : List Int) (fs : List Foot) (ρ : Rho) (s : S) : Prop := (∃ x7 x8 x9 x10 x11 x12 x13 x14 x15 x16 x17 x18 x19 : EV, ρ = [.w (.d (.scr (ns.map .int))), .w (.r 0), .w (intsD rim), .w (.d (.lst (fs.map pairFD))), .w (feetD fs), .w (.d (rowsD (motsV rim fs))), .w (.d (.lst ((idleV rim fs).map .int))), x7, x8, x9, x10, x11, x12, x13, x14, x15, x16, x17, x18, x19]) ∧ BS [] s
theorem pure_k14 (ns : List Int) (hl : ns.length ≤ 63) : ∃ s', f_law_k14 [.d (.scr (ns.map D.int))] [] = .ok (.w (.d (.bl true))) s' := by
  refine of_wE ?_
  rw [f_law_k14]
  refine wE_fn (by rfl) ?_
  simp [b_law_k14, wipeR, -rng1_eq]
  refine wS_use (bag_wp ns hl _) ?_
  rintro _ _ ⟨b, z, rfl, hz, rfl⟩
  simp [wipeR, -rng1_eq]
  rw [hz]
  clear hz
  refine wS_use (pull_wp _ _ _ (by decide) (by decide)) ?_
  rintro _ _ ⟨x, b, rfl, rfl, h0, h1⟩
  simp [wipeR, -rng1_eq]
  obtain ⟨n, hn, en⟩ := three x h0 h1 12 24 5
  simp at en
  rw [en]
  simp [wipeR, -rng1_eq]
  refine wS_use (rim_wp _ _ _ (by omega) (by omega)) ?_
  rintro _ _ ⟨rim, b, rfl, rfl, r3, r48, rm⟩
  simp [wipeR, -rng1_eq]
  refine wS_use (pull_wp _ _ _ (by decide) (by decide)) ?_
  rintro _ _ ⟨k, b, rfl, rfl, h0, h1⟩
  simp [wipeR, -rng1_eq]
  obtain ⟨kn, rfl⟩ := Int.eq_ofNat_of_zero_le h0
  have hr1 : ∀ s, rng1 [W.d (.int (1 + (kn : Int)))] s = .ok ((List.range (1 + kn)).map fun i : Nat => W.d (.int i)) s := fun s => rng1_nat (1 + kn) s (by omega)
  have hL1 : 1 + kn ≤ 16777216 := by omega
  simp [hr1, hL1, wipeR, -rng1_eq]
  refine wS_use (pairs_wp _ _ _ _ _ fun i => ⟨_, rfl, rfl⟩) ?_
  rintro _ _ ⟨fs, rfl, hfl, hfs, b, rfl⟩
  have gf : GoodFs fs := ⟨hfs, by omega⟩
  have hL2 : fs.length ≤ 16777216 := by omega
  simp [hL2, wipeR, -rng1_eq]
  rw [pairs_D, lcM_fn' (v := footF)]
  rotate_left
  · intro f hf
    have em := footF_made f (hfs f hf) [b.cell]
    simp at em
    exact ⟨_, by simp [pairFD]; rfl, by simp [em]⟩
  simp [hL2, wipeR, -rng1_eq]
  have hmot : ∀ (f : Foot) (s : S), f ∈ fs → ∀ r : List Int, 3 ≤ r.length → r.length ≤ 48 → f_motion [.d (.tup (r.map .int)), .d (footF f)] s = .ok (.w (.d (.tup ((motV r f.1 f.2).map .int)))) s := fun f s hf r k3 k4 => motion_eq r f.1 f.2 s k3 k4 (hfs f hf).l1 (by have := (hfs f hf).l9; omega)
  rw [feet_D, lcM_fn' (v := fun f => .tup ((motV rim f.1 f.2).map .int))]
  rotate_left
  · intro f hf
    exact ⟨_, rfl, by simp [hmot f _ hf rim r3 r48]⟩
  rw [mots_D]
  have p0 : 0 < rim.length := by omega
  have hr := fun s => rng1_nat rim.length s (by omega)
  have hrf := fun s => rng1_nat fs.length s (by omega)
  have hLr : rim.length ≤ 16777216 := by omega
  have hml : (motsV rim fs).length ≤ 16777216 := by simp [motsV]; omega
  have hid := fun s => idle_eq rim fs s r3 r48 gf
  have hil : (idleV rim fs).length ≤ 16777216 := by
    unfold idleV
    rw [List.length_map]
    exact Nat.le_trans (List.length_filter_le _ _) (by rw [List.length_range]; exact hLr)
  simp [hml, hid, hil, hr, wipeR, -rng1_eq]
  refine wS_mid (I14 ns rim fs) ?_ ?_
  · refine forE_inv (I14 ns rim fs) ?_ ⟨⟨_, _, _, _, _, _, _, _, _, _, _, _, _, rfl⟩, bs⟩ fun ρ s h => h
    rintro w hw ρ s ⟨⟨x7, x8, x9, x10, x11, x12, x13, x14, x15, x16, x17, x18, x19, rfl⟩, b, rfl⟩
    obtain ⟨c, hc, rfl⟩ := List.mem_map.mp hw
    have hc := List.mem_range.mp hc
    have hg := gtAt rim c hc
    simp at hg
    have lo1 := fun s => lowered_eq rim c (gt rim c - 1) s r3 r48 hc
    refine ⟨_, rfl, ?_⟩
    simp [hg, lo1, wipeR, -rng1_eq]
    refine wS_use (pull_wp _ _ _ (by decide) (by decide)) ?_
    rintro _ _ ⟨y, b, rfl, rfl, y0, y1⟩
    simp [wipeR, -rng1_eq]
    have lo2 := fun s => lowered_eq rim c (gt rim c - 1 - y) s r3 r48 hc
    have A1 : LowAt (cutV rim c (gt rim c - 1)) rim c := cut_lowAt hc (by omega)
    have A2 : LowAt (cutV rim c (gt rim c - 1 - y)) rim c := cut_lowAt hc (by omega)
    have near : ∀ i, i < rim.length → gt rim i - 1 ≤ gt (cutV rim c (gt rim c - 1)) i := fun i hi => by
      by_cases e : i = c
      · rw [e]
        have e2 : gt (cutV rim c (gt rim c - 1)) c = gt rim c - 1 := by
          have : gt rim c - 1 < rim.getD (c : Int).toNat 0 := by show _ < gt rim c; omega
          rw [cutV_cut this]
          simp [gt, List.getD_eq_getElem?_getD, hc]
        omega
      · rw [A1.eq i hi e]
        omega
    have B1 := low_motion A1 p0 hc gf
    have B2 := low_motion A2 p0 hc gf
    generalize hq1 : cutV rim c (gt rim c - 1) = q1 at *
    generalize hq2 : cutV rim c (gt rim c - 1 - y) = q2 at *
    have l1 := A1.len
    have l2 := A2.len
    have D1 : (motsV q1 fs == motsV rim fs) = decide ((c : Int) ∈ idleV rim fs) := by
      rw [Bool.eq_iff_iff, beq_iff_eq, decide_eq_true_eq]; exact B1
    have D2 : (motsV q2 fs == motsV rim fs) = decide ((c : Int) ∈ idleV rim fs) := by
      rw [Bool.eq_iff_iff, beq_iff_eq, decide_eq_true_eq]; exact B2
    simp [lo2, hL2, wipeR, -rng1_eq]
    rw [feet_D, lcM_fn' (v := fun f => .tup ((motV q1 f.1 f.2).map .int))]
    rotate_left
    · intro f hf
      exact ⟨_, rfl, by simp [hmot f _ hf q1 (by omega) (by omega)]⟩
    rw [mots_D]
    have hml1 : (motsV q1 fs).length ≤ 16777216 := by simp [motsV]; omega
    have hml2 : (motsV q2 fs).length ≤ 16777216 := by simp [motsV]; omega
    have E1 : ∀ s, fEq false (.d (rowsD (motsV q1 fs))) (.d (rowsD (motsV rim fs))) s = .ok (.d (.bl (decide ((c : Int) ∈ idleV rim fs)))) s := fun s => by rw [fEq_rows, D1]; simp
    have E2 : ∀ s, fEq false (.d (rowsD (motsV q2 fs))) (.d (rowsD (motsV rim fs))) s = .ok (.d (.bl (decide ((c : Int) ∈ idleV rim fs)))) s := fun s => by rw [fEq_rows, D2]; simp
    simp only [rowsD] at E1 E2
    simp [hml1, E1, fIn_ints, hL2, wipeR, -rng1_eq]
    rw [feet_D, lcM_fn' (v := fun f => .tup ((motV q2 f.1 f.2).map .int))]
    rotate_left
    · intro f hf
      exact ⟨_, rfl, by simp [hmot f _ hf q2 (by omega) (by omega)]⟩
    rw [mots_D]
    simp [hml2, E2, fIn_ints, hrf, wipeR, -rng1_eq]
    refine wS_mid (Hold fun ρ s => (∃ x11 x12 x13 x14 x15 x16 x17 x18 x19 : EV, ρ = [.w (.d (.scr (ns.map .int))), .w (.r 0), .w (intsD rim), .w (.d (.lst (fs.map pairFD))), .w (feetD fs), .w (.d (rowsD (motsV rim fs))), .w (.d (.lst ((idleV rim fs).map .int))), .w (.d (.int c)), .w (intsD q1), .w (intsD q2), .w (.d (rowsD (motsV q1 fs))), x11, x12, x13, x14, x15, x16, x17, x18, x19]) ∧ s = [b.cell]) ?_ ?_
    · refine forE_inv (Hold fun ρ s => (∃ x11 x12 x13 x14 x15 x16 x17 x18 x19 : EV, ρ = [.w (.d (.scr (ns.map .int))), .w (.r 0), .w (intsD rim), .w (.d (.lst (fs.map pairFD))), .w (feetD fs), .w (.d (rowsD (motsV rim fs))), .w (.d (.lst ((idleV rim fs).map .int))), .w (.d (.int c)), .w (intsD q1), .w (intsD q2), .w (.d (rowsD (motsV q1 fs))), x11, x12, x13, x14, x15, x16, x17, x18, x19]) ∧ s = [b.cell]) ?_ (hold ⟨⟨_, _, _, _, _, _, _, _, _, rfl⟩, rfl⟩) fun ρ s h => h
      rintro w hw ρ s ⟨⟨x11, x12, x13, x14, x15, x16, x17, x18, x19, rfl⟩, rfl⟩
      obtain ⟨j, hj, rfl⟩ := List.mem_map.mp hw
      have hj := List.mem_range.mp hj
      have hfm : fs[j] ∈ fs := List.getElem_mem hj
      have a1 : atI (wD ((motsV q1 fs).map fun r => D.tup (r.map .int))) (j : Int) = some (.d (.tup ((motV q1 fs[j].1 fs[j].2).map .int))) := by simp [wD, motsV, hj]
      have a2 : atI (wD ((motsV rim fs).map fun r => D.tup (r.map .int))) (j : Int) = some (.d (.tup ((motV rim fs[j].1 fs[j].2).map .int))) := by simp [wD, motsV, hj]
      have hml : (motV q1 fs[j].1 fs[j].2).length = (motV rim fs[j].1 fs[j].2).length := by simp [motV]; omega
      have hL5 : (zipD ((motV q1 fs[j].1 fs[j].2).map D.int) ((motV rim fs[j].1 fs[j].2).map D.int)).length ≤ 16777216 := by simp [zipD, motV]; omega
      have hzl : ((motV q1 fs[j].1 fs[j].2).zip (motV rim fs[j].1 fs[j].2)).length ≤ 16777216 := by rw [List.length_zip]; simp [motV]; omega
      simp at a1 a2
      refine ⟨_, rfl, ?_⟩
      simp [a1, a2, hml, hL5, wipeR, -rng1_eq]
      rw [zipD_ints, lcM_fn' (v := fun _ : Int × Int => .bl true)]
      rotate_left
      · intro p hp
        have hz : (motV q1 fs[j].1 fs[j].2).zip (motV rim fs[j].1 fs[j].2) = (List.range rim.length).map fun i : Nat => (liftV q1 fs[j].1 fs[j].2 i, liftV rim fs[j].1 fs[j].2 i) := by
          unfold motV
          rw [l1, List.zip_map']
        rw [hz] at hp
        obtain ⟨i, _, rfl⟩ := List.mem_map.mp hp
        have n1 := near_lift (m := fs[j].2) (a := (i : Int)) l1 near p0 (hfs _ hfm).l1
        have n2 := lift_mono A1.le (by omega) (hfs _ hfm).l1 fs[j].2 (i : Int)
        refine ⟨_, by simp; rfl, ?_⟩
        simp [n1, n2]
      have e : ((motV q1 fs[j].1 fs[j].2).zip (motV rim fs[j].1 fs[j].2)).map (fun _ => D.bl true) = List.replicate ((motV q1 fs[j].1 fs[j].2).zip (motV rim fs[j].1 fs[j].2)).length (D.bl true) := List.map_const'
      rw [e]
      generalize ((motV q1 fs[j].1 fs[j].2).zip (motV rim fs[j].1 fs[j].2)).length = zn at hzl
      simp [hzl, all_true, wipeR, -rng1_eq]
      exact hold ⟨⟨_, _, _, _, _, _, _, _, _, rfl⟩, rfl⟩
    rintro ρ s ⟨⟨x11, x12, x13, x14, x15, x16, x17, x18, x19, rfl⟩, rfl⟩
    obtain ⟨rest, hrest⟩ : ∃ rest : List Int, rest = ((List.range rim.length).filter fun k : Nat => !((k : Int) == (c : Int))).map fun k : Nat => (k : Int) := ⟨_, rfl⟩
    have hrm : ∀ x : Int, x ∈ rest ↔ (0 ≤ x ∧ x < rim.length) ∧ x ≠ c := fun x => by
      rw [hrest]
      simp only [List.mem_map, List.mem_filter, List.mem_range, Bool.not_eq_true', beq_eq_false_iff_ne]
      constructor
      · rintro ⟨k, ⟨h1, h2⟩, rfl⟩
        exact ⟨⟨by omega, by omega⟩, h2⟩
      · rintro ⟨⟨h1, h2⟩, h3⟩
        exact ⟨x.toNat, ⟨by omega, by omega⟩, by omega⟩
    have hrl : rest.length ≤ 16777216 := by
      rw [hrest, List.length_map]
      exact Nat.le_trans (List.length_filter_le _ _) (by rw [List.length_range]; exact hLr)
    simp [hr, hLr, wipeR, -rng1_eq]
    rw [lcM_fn (p := fun k : Nat => !((k : Int) == (c : Int))) (v := fun k : Nat => .int k)]
    rotate_left
    · intro k hk
      exact ⟨_, rfl, by simp, fun _ => by simp⟩
    have e5 : ((List.range rim.length).filter fun k : Nat => !((k : Int) == (c : Int))).map (fun k : Nat => D.int (k : Int)) = rest.map .int := by rw [hrest, List.map_map]; rfl
    rw [e5]
    have hkp := fun s => keeps_eq rim fs rest s r3 r48 gf fun x hx => ((hrm x).mp hx).1
    rw [kept_rest p0 hc gf hrm] at hkp
    simp only [intsD] at hkp
    simp [hrl, hkp, fIn_ints, like_bl, wipeR, -rng1_eq]
    exact ⟨⟨_, _, _, _, _, _, _, _, _, _, _, _, _, rfl⟩, bs⟩
  · rintro ρ s ⟨⟨x7, x8, x9, x10, x11, x12, x13, x14, x15, x16, x17, x18, x19, rfl⟩, b, rfl⟩
    have hkp := fun s => keeps_eq rim fs ((List.range rim.length).map fun i : Nat => (i : Int)) s r3 r48 gf fun x hx => by
      obtain ⟨i, hi, rfl⟩ := List.mem_map.mp hx
      have := List.mem_range.mp hi
      omega
    rw [kept_all p0 gf fun x h0 h1 => List.mem_map.mpr ⟨x.toNat, List.mem_range.mpr (by omega), by omega⟩] at hkp
    have n0 : (0 : Int) ≤ (rim.length : Int) ∧ (rim.length : Int) ≤ 16777216 := by omega
    have e6 : (rim.length : Int).toNat = rim.length := by omega
    simp at hkp
    simp [hkp, n0, e6, hLr, like_bl, wipeR, -rng1_eq]
end TG

set_option linter.all false
set_option maxRecDepth 100000
namespace TG
open PySem L2
/-! a foot ridden by a foot: the law -/
theorem ridden_ok (a : List Int) (m : Int) (b : List Int) (n : Int) (s : S) (ga : GoodF a m) (gb : GoodF b n) (h : okRid a b) : f_Foot_ridden_by [.d (footD a m), .d (footD b n)] s = .ok (.w (.d (footD (ridV a b) (m + n)))) s := by
  have h1 := ridden_wp a m b n s ga gb
  generalize f_Foot_ridden_by [.d (footD a m), .d (footD b n)] s = r at *
  cases h1 with
  | ok q => obtain ⟨rfl, rfl, _⟩ := q; rfl
  | exc q => exact absurd h q.2.2.2
theorem ridden_no (a : List Int) (m : Int) (b : List Int) (n : Int) (s : S) (ga : GoodF a m) (gb : GoodF b n) (h : ¬ okRid a b) : f_Foot_ridden_by [.d (footD a m), .d (footD b n)] s = .exc "TooWide" none s := by
  have h1 := ridden_wp a m b n s ga gb
  generalize f_Foot_ridden_by [.d (footD a m), .d (footD b n)] s = r at *
  cases h1 with
  | ok q => exact absurd q.2.2 h
  | exc q => obtain ⟨rfl, rfl, rfl, _⟩ := q; rfl
open Classical in
noncomputable def due04 (a : List Int) (m : Int) (b : List Int) (n : Int) : D := if okRid a b then .tup [.tup ((ridV a b).map .int), .int (m + n)] else .str "TooWide"
theorem told04 (a : List Int) (m : Int) (b : List Int) (n : Int) (s : S) (ga : GoodF a m) (gb : GoodF b n) : f_v_law_told_8 [.d (footD a m), .d (footD b n)] s = .ok (.w (.d (due04 a m b n))) s := by
  have hx : ∀ ρ s, tryK (subT [("BadFoot", "TooWide", false), ("TooWide", "TooWide", true)]) [("TooWide", sRet (eC (.str "TooWide")))] (.exc "TooWide" none ρ s) = .ret (.w (.d (.str "TooWide"))) s := by
    intro ρ s
    rw [tryK_exc _ _ _ _ _ _ (sRet (eC (.str "TooWide")))]
    · rfl
    · rfl
  have hi := insOf_rid a m s
  rw [f_v_law_told_8, runF_eq]
  by_cases h : okRid a b
  · have e := ridden_ok a m b n s ga gb h
    simp [b_v_law_told_8, hi, e, due04, h]
  · have e := ridden_no a m b n s ga gb h
    simp [b_v_law_told_8, hi, e, due04, h, hx]
theorem sms_filter (a b : List Int) (k : Nat) : ∀ n : Nat, ((List.range n).filter fun j : Nat => decide ((0 : Int) ≤ (k : Int) - j) && decide ((k : Int) - j < b.length)).map (fun j : Nat => D.int (gt a j + gt b ((k : Int) - j).toNat)) = (sms a b k n).map .int
  | 0 => rfl
  | n + 1 => by
    rw [List.range_succ, List.filter_append, List.map_append, sms_filter a b k n, sms, List.map_append]
    congr 1
    unfold smj
    by_cases c : n ≤ k ∧ k - n < b.length
    · rw [if_pos c]
      have h1 : (0 : Int) ≤ (k : Int) - n := by omega
      have h2 : (k : Int) - n < b.length := by omega
      have h3 : ((k : Int) - n).toNat = k - n := by omega
      simp [c.1, h2, h3]
    · rw [if_neg c]
      have h2 : n ≤ k → ¬ (k : Int) - n < b.length := fun h => by omega
      by_cases h4 : n ≤ k
      · simp [h4, h2 h4]
      · simp [h4]
abbrev pair4D (l : List Int) (m : Int) : D := .tup [.tup (l.map .int), .int m]
def I_due (a : List Int) (m : Int) (b : List Int) (n : Int) (s : S) (pre : List Nat) (ρ : Rho) (s' : S) : Prop := (∃ (x3 x4 x5 : EV), ρ = [.w (.d (pair4D a m)), .w (.d (pair4D b n)), .own (wD ((pre.map fun k => (sms a b k a.length).min?.getD 0).map .int)), x3, x4, x5]) ∧ s' = s
theorem due04_eq (a : List Int) (m : Int) (b : List Int) (n : Int) (s : S) (ga : GoodF a m) (gb : GoodF b n) : f_v_law_due [.d (pair4D a m), .d (pair4D b n)] s = .ok (.w (.d (due04 a m b n))) s := by
  have a1 := ga.l1
  have a9 := ga.l9
  have b1 := gb.l1
  have b9 := gb.l9
  refine eq_wE ?_
  rw [f_v_law_due]
  refine wE_fn (by rfl) ?_
  have hr := fun s => rng1_nat (a.length + b.length - 1) s (by omega)
  have hra := fun s => rng1_nat a.length s (by omega)
  have hcast : (((a.length + b.length - 1 : Nat) : Int)) = (a.length : Int) + (b.length : Int) - 1 := by omega
  rw [hcast] at hr
  have hL : a.length + b.length - 1 ≤ 16777216 := by omega
  have hLa : a.length ≤ 16777216 := by omega
  simp [b_v_law_due, hr, wipeR, -rng1_eq]
  refine wS_mid (I_due a m b n s (List.range (a.length + b.length - 1))) ?_ ?_
  · refine forE_at (g := fun i : Nat => W.d (.int i)) (I_due a m b n s) ⟨⟨_, _, _, rfl⟩, rfl⟩ ?_ fun ρ s h => h
    rintro pre k rr hz ρ s' ⟨⟨x3, x4, x5, rfl⟩, rfl⟩
    obtain ⟨hpi, hk⟩ := range_pre hz
    obtain ⟨x, hx⟩ := sms_ne a b k (by omega) (by omega) hk
    refine ⟨_, rfl, ?_⟩
    simp [hra, hLa, wipeR, -rng1_eq]
    rw [lcM_fn (p := fun j : Nat => decide ((0 : Int) ≤ (k : Int) - j) && decide ((k : Int) - j < b.length)) (v := fun j : Nat => D.int (gt a j + gt b ((k : Int) - j).toNat))]
    rotate_left
    · intro j hj
      have hj := List.mem_range.mp hj
      have ga1 := gtAt a j hj
      have ga2 := ga1
      rw [atI_nat'] at ga2
      by_cases h1 : (0 : Int) ≤ (k : Int) - j
      · by_cases h2 : (k : Int) - j < b.length
        · have gb1 := itemG b _ h1 h2
          have h3 : j ≤ k := by omega
          exact ⟨_, rfl, by simp [h3, h2], fun _ => by simp [ga1, ga2, gb1]⟩
        · have h3 : j ≤ k := by omega
          exact ⟨_, rfl, by simp [h3, h2], fun h => by simp [h2] at h⟩
      · have h3 : ¬ j ≤ k := by omega
        exact ⟨_, rfl, by simp [h3], fun h => by simp [h3] at h⟩
    rw [sms_filter]
    have hsl := sms_le a b k a.length
    have hsl2 : (sms a b k a.length).length ≤ 16777216 := by omega
    have hpl : pre.length < 16777216 := by omega
    simp [hsl2, hx, hpl, wipeR, -rng1_eq]
    exact ⟨⟨.w (.d (.int k)), .w (.d (.lst ((sms a b k a.length).map .int))), x5, by simp [hx, wD]⟩, rfl⟩
  rintro ρ s' ⟨⟨x3, x4, x5, rfl⟩, rfl⟩
  have hlen := ridV_len a b
  rw [show ((List.range (a.length + b.length - 1)).map fun k => (sms a b k a.length).min?.getD 0) = ridV a b from rfl]
  have hrl : (ridV a b).length ≤ 16777216 := by omega
  by_cases hw : a.length + b.length - 1 ≤ 9
  · have hw2 : ¬ (9 : Int) < ((ridV a b).length : Int) := by omega
    cases er : ridV a b with
    | nil => rw [er] at hlen; simp at hlen; omega
    | cons q l =>
      have hm := max_le q l
      have em : (q :: l).max? = some (l.foldl max q) := List.max?_cons'
      have e0 := fMaxL_ints (q :: l) s'
      rw [em] at e0
      have hL3 : (l.length : Int) + 1 ≤ 16777216 := by rw [er] at hrl; simp at hrl; omega
      have hL4 : l.length + 1 ≤ 16777216 := by omega
      simp only [List.map_cons] at e0
      rw [er] at hw2
      simp only [List.length_cons] at hw2
      have hw3 : ¬ (9 : Int) < (l.length : Int) + 1 := by omega
      by_cases hx : 99 < l.foldl max q
      · have no : ¬ okRid a b := fun h => (hm.mpr (by rw [← er]; exact h.2)) hx
        simp [er, hw3, e0, hx, hL4, due04, no, wipeR, -rng1_eq]
      · have yes : okRid a b := ⟨hw, by rw [er]; exact hm.mp hx⟩
        simp [er, hw3, e0, hx, hL4, due04, yes, wipeR, -rng1_eq]
  · have hw2 : (9 : Int) < ((ridV a b).length : Int) := by omega
    have no : ¬ okRid a b := fun h => hw h.1
    simp [hw2, due04, no, hrl, wipeR, -rng1_eq]
theorem fNeI_foot (l : List Int) (m : Int) (s : S) : fNeI (.d (footD l m)) (.d (footD l m)) s = .ok (.d (.bl false)) s := by
  unfold fNeI
  exact if_pos ⟨rfl, by simp [footD, isFootD]⟩
theorem like_due04 (a : List Int) (m : Int) (b : List Int) (n : Int) (s : S) (ga : GoodF a m) (gb : GoodF b n) : f_v_law_like 12 [.d (due04 a m b n), .d (due04 a m b n)] s = .ok (.w (.d (.bl true))) s := by
  have hl := ridV_len a b
  have a9 := ga.l9
  have b9 := gb.l9
  unfold due04
  split
  · have hl2 : (ridV a b).length ≤ 1000 := by omega
    refine like_refl 12 _ s ?_ ?_ ?_ (by decide)
    · simp [D.plain, D.plains, plains_ints]
    · simp [D.slim, D.slims, hl2]
      exact slims_iff.mpr (fun x hx => by obtain ⟨i, _, rfl⟩ := List.mem_map.mp hx; rfl)
    · simp [D.dep, D.deps, deps_ints]
  · exact like_str _ s (by decide +kernel)
def I04 (ns : List Int) (ρ : Rho) (s : S) : Prop := (∃ x2 x3 x4 x5 x6 : EV, ρ = [.w (.d (.scr (ns.map .int))), .w (.r 0), x2, x3, x4, x5, x6]) ∧ BS [] s
theorem pure_k04 (ns : List Int) (hl : ns.length ≤ 63) : ∃ s', f_law_k04 [.d (.scr (ns.map D.int))] [] = .ok (.w (.d (.bl true))) s' := by
  refine of_wE ?_
  rw [f_law_k04]
  refine wE_fn (by rfl) ?_
  have hr4 : ∀ s, rng1 [W.d (.int 4)] s = .ok ((List.range 4).map fun i : Nat => W.d (.int i)) s := fun s => rng1_nat 4 s (by decide)
  simp [b_law_k04, hr4, wipeR, -rng1_eq]
  refine wS_use (bag_wp ns hl _) ?_
  rintro _ _ ⟨b, z, rfl, hz, rfl⟩
  simp [wipeR, -rng1_eq]
  rw [hz]
  clear hz
  refine wS_mid (I04 ns) ?_ ?_
  · refine forE_inv (I04 ns) ?_ ⟨⟨_, _, _, _, _, rfl⟩, bs⟩ fun ρ s h => h
    rintro w hw ρ s ⟨⟨x2, x3, x4, x5, x6, rfl⟩, b, rfl⟩
    refine ⟨_, rfl, ?_⟩
    simp [wipeR, -rng1_eq]
    refine wS_use (pair_wp _ _) ?_
    rintro _ _ ⟨l, m, b, rfl, rfl, g⟩
    simp [wipeR, -rng1_eq]
    refine wS_use (pair_wp _ _) ?_
    rintro _ _ ⟨k, n, b, rfl, rfl, h⟩
    simp [wipeR, -rng1_eq]
    have m1 := foot_made l m [b.cell] g.l1 g.l9 g.dr g.m0 g.m1
    have m2 := foot_made k n [b.cell] h.l1 h.l9 h.dr h.m0 h.m1
    have t1 := fun s => told04 l m k n s g h
    have t2 := fun s => told04 k n l m s h g
    have d1 := fun s => due04_eq l m k n s g h
    have d2 := fun s => due04_eq k n l m s h g
    have q1 := fun s => like_due04 l m k n s g h
    have q2 := fun s => like_due04 k n l m s h g
    simp only [List.length_cons, List.length_nil, Nat.zero_add, List.cons_append, List.nil_append] at m1 m2
    simp [m1, m2, t1, t2, d1, d2, q1, q2, fNeI_foot, wipeR, -rng1_eq]
    exact ⟨⟨_, _, _, _, _, rfl⟩, bs⟩
  · rintro ρ s ⟨⟨x2, x3, x4, x5, x6, rfl⟩, b, rfl⟩
    simp [wipeR, -rng1_eq]
end TG

set_option linter.all false
set_option maxRecDepth 100000
namespace TG
open PySem L2
/-! what the law's own defs give -/
@[simp] theorem eRevT_eq (e : Cmp W) (ρ : Rho) (s : S) : eRevT e ρ s = (e ρ s).bind kRevT := (rfl)
@[simp] theorem kRevT_eq (l : List D) (s : S) : kRevT (.d (.tup l)) s = .ok (.d (.tup l.reverse)) s := (rfl)
@[simp] theorem c3_eq (f : W → W → W → S → Res W) (x y z : W) (s : S) : c3 f [x, y, z] s = f x y z s := (rfl)
theorem fMin3_ints (i j k : Int) (s : S) : fMin3 (.d (.int i)) (.d (.int j)) (.d (.int k)) s = .ok (.d (.int (min (min i j) k))) s := by
  show Res.ok (W.d (D.int (if k < (if j < i then j else i) then k else (if j < i then j else i)))) s = _
  congr 3
  split <;> split <;> omega
theorem insOf_about (l : List Int) (m : Int) (s : S) : insOf "Foot" "about" (.d (footD l m)) s = true := by
  simp [insOf, footD]
  decide
theorem good_rev {l : List Int} {m : Int} (g : GoodF l m) : GoodF l.reverse ((l.length : Int) - 1 - m) := by
  have := g.m0
  have := g.m1
  exact ⟨by rw [List.length_reverse]; exact g.l1, by rw [List.length_reverse]; exact g.l9, fun x hx => g.dr x (List.mem_reverse.mp hx), by omega, by rw [List.length_reverse]; omega⟩
theorem good_rid {a b : List Int} {m n : Int} (ga : GoodF a m) (gb : GoodF b n) (h : okRid a b) : GoodF (ridV a b) (m + n) := by
  have := ga.m0
  have := ga.m1
  have := gb.m0
  have := gb.m1
  have := ga.l1
  have := gb.l1
  exact ⟨by rw [ridV_len]; omega, by rw [ridV_len]; exact h.1, fun x hx => ⟨ridV_ge ga.dr gb.dr x hx, h.2 x hx⟩, by omega, by rw [ridV_len]; omega⟩
theorem about_eq (l : List Int) (m : Int) (s : S) (g : GoodF l m) : f_Foot_about [.d (footD l m)] s = .ok (.w (.d (footD l.reverse ((l.length : Int) - 1 - m)))) s := by
  have h := good_rev g
  have hm := foot_made l.reverse ((l.length : Int) - 1 - m) s h.l1 h.l9 h.dr h.m0 h.m1
  have g9 := g.l9
  have hL : l.length ≤ 16777216 := by omega
  rw [List.map_reverse] at hm
  rw [f_Foot_about, runF_eq]
  simp [b_Foot_about, hm, hL]
open Classical in
noncomputable def bothD (a : List Int) (m : Int) (b : List Int) (n : Int) : D := if okRid a b then footD (ridV a b) (m + n) else .non
theorem both_eq (a : List Int) (m : Int) (b : List Int) (n : Int) (s : S) (ga : GoodF a m) (gb : GoodF b n) : f_v_law_both [.d (footD a m), .d (footD b n)] s = .ok (.w (.d (bothD a m b n))) s := by
  have hx : ∀ ρ s, tryK (subT [("BadFoot", "TooWide", false), ("BadRim", "TooWide", false), ("TooWide", "TooWide", true)]) [("TooWide", sRet (eC .non))] (.exc "TooWide" none ρ s) = .ret (.w (.d .non)) s := by
    intro ρ s
    rw [tryK_exc _ _ _ _ _ _ (sRet (eC .non))]
    · rfl
    · rfl
  have hi := insOf_rid a m s
  rw [f_v_law_both, runF_eq]
  by_cases h : okRid a b
  · have e := ridden_ok a m b n s ga gb h
    simp [b_v_law_both, hi, e, bothD, h]
  · have e := ridden_no a m b n s ga gb h
    simp [b_v_law_both, hi, e, bothD, h, hx]
/-- the foot that is drawn -/
def cutF (f : Foot) : Foot := (f.1.take 3, min 2 (min f.2 ((f.1.length : Int) - 1)))
theorem cutF_good {f : Foot} (g : GoodF f.1 f.2) : GoodF (cutF f).1 (cutF f).2 := by
  have := g.m0
  have := g.m1
  have := g.l1
  have hl : (f.1.take 3).length = min 3 f.1.length := List.length_take
  refine ⟨?_, ?_, fun x hx => g.dr x (List.mem_of_mem_take hx), ?_, ?_⟩
  · show 1 ≤ (f.1.take 3).length; omega
  · show (f.1.take 3).length ≤ 9; omega
  · show 0 ≤ min 2 (min f.2 ((f.1.length : Int) - 1)); omega
  · show min 2 (min f.2 ((f.1.length : Int) - 1)) < ((f.1.take 3).length : Int); omega
end TG

set_option linter.all false
set_option maxRecDepth 100000
namespace TG
open PySem L2
/-! a foot ridden by another, whole -/
theorem bothD_non {a : List Int} {m : Int} {b : List Int} {n : Int} (h : ¬ okRid a b) : bothD a m b n = .non := if_neg h
theorem bothD_ok {a : List Int} {m : Int} {b : List Int} {n : Int} (h : okRid a b) : bothD a m b n = footD (ridV a b) (m + n) := if_pos h
theorem isN_non (neg : Bool) (s : S) : fIsN neg (.d .non) s = .ok (.d (.bl (!neg))) s := rfl
theorem isN_foot (neg : Bool) (l : List Int) (m : Int) (s : S) : fIsN neg (.d (footD l m)) s = .ok (.d (.bl neg)) s := rfl
abbrev st7 (ns : List Int) (r : List Int) (x4 : EV) (p q t : Foot) (x5 x9 x10 x11 x12 x13 x14 x15 x16 x17 x18 x19 x20 : EV) : Rho := [.w (.d (.scr (ns.map .int))), .w (.r 0), .w (intsD r), .w (.d (.int r.length)), x4, x5, .w (.d (footF p)), .w (.d (footF q)), .w (.d (footF t)), x9, x10, x11, x12, x13, x14, x15, x16, x17, x18, x19, x20]
theorem pure_k07 (ns : List Int) (hl : ns.length ≤ 63) : ∃ s', f_law_k07 [.d (.scr (ns.map D.int))] [] = .ok (.w (.d (.bl true))) s' := by
  refine of_wE ?_
  rw [f_law_k07]
  refine wE_fn (by rfl) ?_
  simp [b_law_k07, wipeR, -rng1_eq]
  refine wS_use (bag_wp ns hl _) ?_
  rintro _ _ ⟨b, z, rfl, hz, rfl⟩
  simp [wipeR, -rng1_eq]
  rw [hz]
  clear hz
  refine wS_use (rim_wp _ _ _ (by decide) (by decide)) ?_
  rintro _ _ ⟨r, b, rfl, rfl, r3, r48, rm⟩
  simp [wipeR, -rng1_eq]
  clear rm
  have hr3 : ∀ s, rng1 [W.d (.int 3)] s = .ok ((List.range 3).map fun i : Nat => W.d (.int i)) s := fun s => rng1_nat 3 s (by decide)
  simp [hr3, wipeR, -rng1_eq]
  refine wS_use (pairs_wp 3 (tgName 16) _ b [] (fun i => ⟨_, rfl, rfl⟩)) ?_
  rintro _ _ ⟨fs, rfl, hf3, gf, b, rfl⟩
  have hfl : fs.length ≤ 16777216 := by omega
  simp [hfl, wipeR, -rng1_eq]
  obtain ⟨p0, q0, t0, rfl⟩ : ∃ p0 q0 t0, fs = [p0, q0, t0] := by
    match fs, hf3 with
    | [a, b, c], _ => exact ⟨a, b, c, rfl⟩
  have gp := cutF_good (gf p0 (by simp))
  have gq := cutF_good (gf q0 (by simp))
  have gt' := cutF_good (gf t0 (by simp))
  have hmk : lcM (tgTup 2 (tgCons (tgName 17) (tgCons (tgName 18) tgNil))) eYes (eMake "Foot" f_Foot_init (eCons (eSl fSl (eVar 17) eNoPart (ePart (eC (.int 3)))) (eCons (eArgs (c3 fMin3) (eCons (eC (.int 2)) (eCons (eVar 18) (eCons (eBin fSub (eArgs (c1 fLen) (eCons (eVar 17) eNil)) (eC (.int 1))) eNil)))) eNil))) [.w (.d (.scr (ns.map .int))), .w (.r 0), .w (intsD r), .w (.d (.int r.length)), .w (.d (.lst ([p0, q0, t0].map pairFD))), .no, .no, .no, .no, .no, .no, .no, .no, .no, .no, .no, .no, .no, .no, .no, .no] (wD ([p0, q0, t0].map pairFD)) [b.cell] = .ok (wD ([p0, q0, t0].map fun f => footD (cutF f).1 (cutF f).2)) [b.cell] := by
    have e1 : wD ([p0, q0, t0].map pairFD) = [p0, q0, t0].map fun f => W.d (pairFD f) := by simp [wD]
    rw [e1, lcM_fn' (v := fun f : Foot => footD (cutF f).1 (cutF f).2)]
    intro f hf
    have g := gf f hf
    have h := cutF_good g
    have g9 := g.l9
    have hm := foot_made (cutF f).1 (cutF f).2 [b.cell] h.l1 h.l9 h.dr h.m0 h.m1
    have hL : f.1.length ≤ 16777216 := by omega
    have c1 : cut (f.1.map D.int) none (some 3) = (f.1.take 3).map D.int := by
      have := cut_take' (f.1.map D.int) 3
      rw [List.map_take]
      simpa using this
    simp only [List.length_cons, List.length_nil, Nat.zero_add, List.cons_append, List.nil_append] at hm
    have hm : madeD "Foot" [b.cell] (f_Foot_init [.r 1, .d (.tup ((f.1.take 3).map .int)), .d (.int (min 2 (min f.2 ((f.1.length : Int) - 1))))] [b.cell, .ins "Foot" []]) = .ok (.d (footD (cutF f).1 (cutF f).2)) [b.cell] := hm
    refine ⟨_, by simp [pairFD]; rfl, ?_⟩
    simp [c1, fMin3_ints, hm, -List.map_take]
  rw [hmk]
  clear hmk hr3 hfl hf3
  have ep : ∀ f : Foot, footD (cutF f).1 (cutF f).2 = footF (cutF f) := fun _ => rfl
  simp only [ep, List.map_cons, List.map_nil, wD]
  generalize cutF p0 = p at *
  generalize cutF q0 = q at *
  generalize cutF t0 = t at *
  generalize EV.w (W.d (D.lst [pairFD p0, pairFD q0, pairFD t0])) = x4 at *
  obtain ⟨a, m⟩ := p
  obtain ⟨c, n⟩ := q
  obtain ⟨d, k⟩ := t
  simp only [footF] at *
  have a1 := gp.l1
  have c1 := gq.l1
  have d1 := gt'.l1
  have h0 : 0 < r.length := by omega
  have Q : ∀ (l : List Int) (s : S), fEq true (.d (.tup (l.map .int))) (.d (.tup (l.map .int))) s = .ok (.d (.bl false)) s := fun l s => (fEq_ints true l l s).trans (by simp)
  have MO : ∀ (r' : List Int), r'.length = r.length → ∀ (l : List Int) (x : Int), GoodF l x → ∀ s, f_motion [.d (.tup (r'.map .int)), .d (footD l x)] s = .ok (.w (.d (.tup ((motV r' l x).map .int)))) s := fun r' hr l x g s => motion_eq r' l x s (by omega) (by omega) g.l1 (by have := g.l9; omega)
  have B0 := fun s => both_eq a m c n s gp gq
  have Ma := MO r rfl a m gp
  have ml := motV_len r a m
  have Mac := MO _ ml c n gq
  have ml2 := (motV_len (motV r a m) c n).trans ml
  have Macd := MO _ ml2 d k gt'
  generalize hx5 : EV.w (W.d (D.lst [footD a m, footD c n, footD d k])) = x5 at *
  simp [tgLst, wipeR, -rng1_eq]
  refine wS_midE (Hold fun ρ s => (∃ x5 : EV, ρ = [.w (.d (.scr (ns.map .int))), .w (.r 0), .w (.d (.tup (r.map .int))), .w (.d (.int r.length)), x4, x5, .w (.d (footD a m)), .w (.d (footD c n)), .w (.d (footD d k)), .w (.d (bothD a m c n)), .no, .no, .no, .no, .no, .no, .no, .no, .no, .no, .no]) ∧ BS [] s) ?_ ?_
  · simp [B0, wipeR, -rng1_eq]
    exact hold ⟨⟨_, rfl⟩, bs⟩
  rintro ρ s ⟨⟨x5, rfl⟩, b, rfl⟩
  rw [sSeq_eq]
  refine wS_mid (Hold fun ρ s => (∃ x9 x10 x11 : EV, ρ = [.w (.d (.scr (ns.map .int))), .w (.r 0), .w (.d (.tup (r.map .int))), .w (.d (.int r.length)), x4, x5, .w (.d (footD a m)), .w (.d (footD c n)), .w (.d (footD d k)), x9, x10, x11, .no, .no, .no, .no, .no, .no, .no, .no, .no]) ∧ BS [] s) ?_ ?_
  · by_cases h : okRid a c
    · rw [bothD_ok h]
      have gac := good_rid gp gq h
      have M1 := MO r rfl _ _ gac
      rw [mot_ridden h0 (by omega) (by omega)] at M1
      have B2 := fun s => both_eq (ridV a c) (m + n) d k s gac gt'
      by_cases h2 : okRid (ridV a c) d
      · rw [bothD_ok h2] at B2
        have M2 := MO r rfl _ _ (good_rid gac gt' h2)
        rw [mot_ridden h0 (by rw [ridV_len]; omega) (by omega), mot_ridden h0 (by omega) (by omega)] at M2
        have B3 := fun s => both_eq c n d k s gq gt'
        by_cases h3 : okRid c d
        · rw [bothD_ok h3] at B3
          have M3 := MO _ ml _ _ (good_rid gq gt' h3)
          rw [mot_ridden (by omega) (by omega) (by omega)] at M3
          simp [M1, M2, M3, Ma, Mac, Macd, B2, B3, Q, isN_foot, isN_non, -fIsN_eq, wipeR, -rng1_eq]
          exact hold ⟨⟨_, _, _, rfl⟩, bs⟩
        · rw [bothD_non h3] at B3
          simp [M1, M2, Ma, Mac, Macd, B2, B3, Q, isN_foot, isN_non, -fIsN_eq, wipeR, -rng1_eq]
          exact hold ⟨⟨_, _, _, rfl⟩, bs⟩
      · rw [bothD_non h2] at B2
        simp [M1, Ma, Mac, B2, Q, isN_foot, isN_non, -fIsN_eq, wipeR, -rng1_eq]
        exact hold ⟨⟨_, _, _, rfl⟩, bs⟩
    · rw [bothD_non h]
      simp [isN_non, -fIsN_eq, wipeR, -rng1_eq]
      exact hold ⟨⟨_, _, _, rfl⟩, bs⟩
  rintro ρ s ⟨⟨x9, x10, x11, rfl⟩, b, rfl⟩
  clear B0 Mac Macd ml2
  have hr := fun s => rng1_nat r.length s (by omega)
  have hL : r.length ≤ 16777216 := by omega
  have hmod : ∀ x : Int, kMod x (r.length : Int) = true := fun x => kMod_ne (by omega)
  have hmul : kMul 2 (r.length : Int) = true := kMul_l (by decide)
  simp [hmul, wipeR, -rng1_eq]
  refine wS_use (pull_wp _ (2 * (r.length : Int)) _ (by omega) (by omega)) ?_
  rintro _ _ ⟨y, b, rfl, rfl, y0, y1⟩
  simp [wipeR, -rng1_eq]
  simp [hr, hL, wipeR, -rng1_eq]
  rw [lcM_fn' (v := fun j : Nat => D.int (cellV r ((j : Int) + y)))]
  rotate_left
  · intro j hj
    have ga := item_cell (r := r) (c := (j : Int) + y) h0
    exact ⟨_, rfl, by simp [hmod, ga]⟩
  have e2 : ((List.range r.length).map fun j : Nat => D.int (cellV r ((j : Int) + y))) = (shV r y).map .int := by rw [shV, List.map_map]; rfl
  rw [e2]
  have hl2 : (shV r y).length ≤ 16777216 := by rw [shV_len]; exact hL
  have Ms := MO (shV r y) (shV_len r y) a m gp
  rw [mot_sh h0 a1] at Ms
  simp [hl2, hr, hL, Ma, Ms, wipeR, -rng1_eq]
  rw [lcM_fn' (v := fun j : Nat => D.int (cellV (motV r a m) ((j : Int) + y)))]
  rotate_left
  · intro j hj
    have ga := item_cell (r := motV r a m) (c := (j : Int) + y) (by omega)
    rw [ml] at ga
    exact ⟨_, rfl, by simp [hmod, ga]⟩
  have e3 : ((List.range r.length).map fun j : Nat => D.int (cellV (motV r a m) ((j : Int) + y))) = (shV (motV r a m) y).map .int := by rw [shV, ml, List.map_map]; rfl
  rw [e3]
  have hl3 : (shV (motV r a m) y).length ≤ 16777216 := by rw [shV_len, ml]; exact hL
  simp [hl3, hr, hL, Q, wipeR, -rng1_eq]
  rw [lcM_fn' (v := fun j : Nat => D.int (cellV r (0 - (j : Int))))]
  rotate_left
  · intro j hj
    have ga := item_neg (r := r) (List.mem_range.mp hj)
    rw [Int.zero_sub] at ga
    exact ⟨_, rfl, by simp [ga]⟩
  have e4 : ((List.range r.length).map fun j : Nat => D.int (cellV r (0 - (j : Int)))) = (abV r).map .int := by rw [abV, List.map_map]; rfl
  rw [e4]
  have hl4 : (abV r).length ≤ 16777216 := by rw [abV_len]; exact hL
  have Mb := MO (abV r) (abV_len r) a.reverse ((a.length : Int) - 1 - m) (good_rev gp)
  rw [mot_ab h0 a1] at Mb
  have Ab := fun s => about_eq a m s gp
  have Ib := insOf_about a m
  simp [hl4, hr, hL, Mb, Ab, Ib, wipeR, -rng1_eq]
  rw [lcM_fn' (v := fun j : Nat => D.int (cellV (motV r a m) (0 - (j : Int))))]
  rotate_left
  · intro j hj
    have ga := item_neg (r := motV r a m) (k := j) (by rw [ml]; exact List.mem_range.mp hj)
    rw [Int.zero_sub] at ga
    exact ⟨_, rfl, by simp [ga]⟩
  have e5 : ((List.range r.length).map fun j : Nat => D.int (cellV (motV r a m) (0 - (j : Int)))) = (abV (motV r a m)).map .int := by rw [abV, ml, List.map_map]; rfl
  rw [e5]
  have hl5 : (abV (motV r a m)).length ≤ 16777216 := by rw [abV_len, ml]; exact hL
  have hr2 : ∀ s, rng2 [.d (.int (-(r.length : Int))), .d (.int (2 * (r.length : Int)))] s = .ok ((List.range (3 * r.length)).map fun i : Nat => W.d (.int (-(r.length : Int) + (i : Int)))) s := fun s => by
    unfold rng2
    simp only [asInt_int]
    rw [if_pos (by omega)]
    congr 3
    omega
  have hL3 : 3 * r.length ≤ 16777216 := by omega
  simp [hl5, Q, hr2, hL3, hmul, wipeR, -rng1_eq]
  rw [lcM_fn' (g := fun i : Nat => W.d (.int (-(r.length : Int) + (i : Int)))) (v := fun _ : Nat => D.bl true)]
  rotate_left
  · intro j hj
    have Lf := lift_eq r a m (-(r.length : Int) + (j : Int))
    have ga := item_cell (r := motV r a m) (c := (j : Int)) (by omega)
    rw [ml, cell_mot h0] at ga
    have el : liftV r a m (-(r.length : Int) + (j : Int)) = liftV r a m j := liftV_congr r a m _ _ h0 (emod_of_sub (-1) (by omega))
    have a9 := gp.l9
    have Lf := fun s => lift_eq r a m (-(r.length : Int) + (j : Int)) s r3 r48 a1 (by omega)
    exact ⟨_, rfl, by simp [Lf, hmod, ga, el]⟩
  have hA : ∀ s, fAll (.d (.lst ((List.range (3 * r.length)).map fun _ : Nat => D.bl true))) s = .ok (.d (.bl true)) s := fun s => by
    have e : ((List.range (3 * r.length)).map fun _ : Nat => D.bl true) = ((List.range (3 * r.length)).map fun _ : Nat => true).map D.bl := by rw [List.map_map]; rfl
    rw [e, fAll_bls]
    congr 3
    rw [List.all_eq_true]
    intro x hx
    obtain ⟨_, _, rfl⟩ := List.mem_map.mp hx
    rfl
  have hLB : ((List.range (3 * r.length)).map fun _ : Nat => D.bl true).length ≤ 16777216 := by simp; exact hL3
  generalize ((List.range (3 * r.length)).map fun _ : Nat => D.bl true) = LB at *
  simp [hA, hLB, wipeR, -rng1_eq]
end TG

set_option Elab.async false
set_option linter.all false
set_option maxRecDepth 100000
set_option maxHeartbeats 4000000
namespace Lk07
open PySem L2 PyProof.Rows TG
def topS (i : Nat) : Stmt := PySem.Challenge.pw_tappet_k07_whole_a_foot_ridden_by_anothe.main.body.getD i (.Pass ⟨0, 0, 0, 0⟩)
structure Tx (K : PySem.W.Frag) (mg : Str → Option Value) (cl : Str → Option Addr) : Prop where
  b_all : mg "all" = none
  b_enumerate : mg "enumerate" = none
  b_len : mg "len" = none
  b_list : mg "list" = none
  b_max : mg "max" = none
  b_min : mg "min" = none
  b_range : mg "range" = none
  b_tuple : mg "tuple" = none
  c_FEWEST : ∃ t, mg "FEWEST" = some (.int 3 t)
  c_MOST : ∃ t, mg "MOST" = some (.int 48 t)
  c_MOST_DROP : ∃ t, mg "MOST_DROP" = some (.int 99 t)
  c_MOST_PLACES : ∃ t, mg "MOST_PLACES" = some (.int 9 t)
  f_Foot_drops : ClsF K cl "Foot" "drops"
  f_Foot_middle : ClsF K cl "Foot" "middle"
  e_BadFoot : ExcAt K mg cl "BadFoot"
  e_BadRim : ExcAt K mg cl "BadRim"
  e_TooWide : ExcAt K mg cl "TooWide"
  h_TooWide : ∃ C, cl "TooWide" = some C ∧ mg "TooWide" = some (.ref C)
  s_2ab7e534 : SubOk K cl (subT [("BadFoot", "TooWide", false), ("BadRim", "TooWide", false), ("TooWide", "TooWide", true)])
  z_ : True
abbrev s_v_law_bag : Stmt := topS 22
abbrev N_v_law_bag : List Str := ["_law_script", "_law_salt", "_law_cell"]
theorem sc_v_law_bag : FnScope N_v_law_bag ["_law_script"] (defScope s_v_law_bag) := ⟨rfl, rfl, rfl, by decide +kernel, rfl, by decide +kernel, by decide +kernel⟩
theorem ok_v_law_bag {P : Program} {w : World} {K : PySem.W.Frag} {mg : Str → Option Value} {base : Heap} {cl : Str → Option Addr} (T : Tx K mg cl) {f : Addr} {fd : FuncData} (F : Fun K "_law_bag" "_law_bag" s_v_law_bag f fd) : FnOk P w K mg base (L2.CX P w) 1 f fd ["_law_script"] (spOf K cl f_v_law_bag) :=
  fn_ok F sc_v_law_bag fun cdv A outer s H E hr ok => by
    have nd : N_v_law_bag.Nodup := sc_v_law_bag.nd
    have hr1 := hr
    exact (jb_cons (js_set 1 nd je_int)
      (jb_cons (js_for ok rfl (ji_seq (je_slice sl_all sls_all (je_var 0) jo_none (jo_some je_int))) (jg_name 2 nd) (jb_one (js_set 1 nd (je_bin op_modN ops_mod (je_bin op_addAll ops_add (je_bin op_addAll ops_add (je_bin op_mulAll ops_mul (je_var 1) je_int) (je_bin op_modN ops_mod (je_var 2) je_int)) je_int) je_int))))
      (jb_one (js_retL (jl_lst (ja_cons (je_frz (jl_listof (by rfl) T.b_list (ja_cons (je_slice sl_all sls_all (je_var 0) jo_none (jo_some je_int)) ja_nil))) (ja_cons je_int (ja_cons je_int (ja_cons (je_var 1) ja_nil)))))))))
abbrev s_v_law_pull : Stmt := topS 23
abbrev N_v_law_pull : List Str := ["_law_bag_here", "_law_amount", "_law_cell", "_law_got", "_law_seed"]
theorem sc_v_law_pull : FnScope N_v_law_pull ["_law_bag_here", "_law_amount"] (defScope s_v_law_pull) := ⟨rfl, rfl, rfl, by decide +kernel, rfl, by decide +kernel, by decide +kernel⟩
theorem ok_v_law_pull {P : Program} {w : World} {K : PySem.W.Frag} {mg : Str → Option Value} {base : Heap} {cl : Str → Option Addr} (T : Tx K mg cl) {f : Addr} {fd : FuncData} (F : Fun K "_law_pull" "_law_pull" s_v_law_pull f fd) : FnOk P w K mg base (L2.CX P w) 1 f fd ["_law_bag_here", "_law_amount"] (spOf K cl f_v_law_pull) :=
  fn_ok F sc_v_law_pull fun cdv A outer s H E hr ok => by
    have nd : N_v_law_pull.Nodup := sc_v_law_pull.nd
    have hr1 := hr
    exact (jb_cons (js_if (jt_w (jw_and (jt_cmp (op_eqD hr.units) ops_eq (je_ix (ix_all (hu_of hr)) ops_ix (je_var 0) je_int) je_int) (jw_and1 (jt_cmp op_lt ops_lt (je_ix (ix_all (hu_of hr)) ops_ix (je_var 0) je_int) (je_callB call_len calls_len (by rfl) T.b_len PySem.boot_len (ja_cons (je_ix (ix_all (hu_of hr)) ops_ix (je_var 0) je_int) ja_nil)))))) (jb_cons (js_set 2 nd (je_ix (ix_all (hu_of hr)) ops_ix (je_ix (ix_all (hu_of hr)) ops_ix (je_var 0) je_int) (je_ix (ix_all (hu_of hr)) ops_ix (je_var 0) je_int)))
      (jb_cons (js_setI (je_var 0) je_int (je_bin op_addAll ops_add (je_ix (ix_all (hu_of hr)) ops_ix (je_var 0) je_int) je_int))
      (jb_one (js_if (jt_cmp op_ge ops_ge (je_var 2) (je_bin op_pow ops_pow je_int je_int)) (jb_one (js_setI (je_var 0) je_int (je_var 2))) (jb_one (js_setI (je_var 0) je_int (je_bin op_modN ops_mod (je_bin op_addAll ops_add (je_bin op_addAll ops_add (je_bin op_mulAll ops_mul (je_ix (ix_all (hu_of hr)) ops_ix (je_var 0) je_int) je_int) (je_bin op_mulAll ops_mul (je_bin op_modN ops_mod (je_var 2) je_int) je_int)) je_int) je_int))))))) jb_nil)
      (jb_cons (js_if (jt_cmp op_gt ops_gt (je_ix (ix_all (hu_of hr)) ops_ix (je_var 0) je_int) je_int) (jb_cons (js_set 3 nd (je_bin op_modN ops_mod (je_ix (ix_all (hu_of hr)) ops_ix (je_var 0) je_int) (je_var 1)))
      (jb_cons (js_setI (je_var 0) je_int (je_bin op_fdivN ops_div (je_ix (ix_all (hu_of hr)) ops_ix (je_var 0) je_int) (je_var 1)))
      (jb_one (js_ret (je_var 3))))) jb_nil)
      (jb_cons (js_set 4 nd (je_ix (ix_all (hu_of hr)) ops_ix (je_var 0) je_int))
      (jb_cons (js_setI (je_var 0) je_int (je_bin op_modN ops_mod (je_bin op_addAll ops_add (je_bin op_addAll ops_add (je_bin op_mulAll ops_mul (je_var 4) je_int) (je_bin op_mulAll ops_mul (je_bin op_fdivN ops_div (je_var 4) je_int) je_int)) je_int) je_int))
      (jb_one (js_ret (je_bin op_modN ops_mod (je_bin op_addAll ops_add (je_bin op_fdivN ops_div (je_ix (ix_all (hu_of hr)) ops_ix (je_var 0) je_int) je_int) (je_bin op_mulAll ops_mul (je_bin op_modN ops_mod (je_ix (ix_all (hu_of hr)) ops_ix (je_var 0) je_int) je_int) je_int)) (je_var 1))))))))
abbrev s_v_law_far : Stmt := topS 24
abbrev N_v_law_far : List Str := ["_law_bag_here", "_law_number"]
theorem sc_v_law_far : FnScope N_v_law_far ["_law_bag_here"] (defScope s_v_law_far) := ⟨rfl, rfl, rfl, by decide +kernel, rfl, by decide +kernel, by decide +kernel⟩
theorem ok_v_law_far {P : Program} {w : World} {K : PySem.W.Frag} {mg : Str → Option Value} {base : Heap} {cl : Str → Option Addr} (T : Tx K mg cl) {f : Addr} {fd : FuncData} (F : Fun K "_law_far" "_law_far" s_v_law_far f fd) (F_v_law_pull : FnAt P w K mg base cl 1 "_law_pull" ["_law_bag_here", "_law_amount"] f_v_law_pull) : FnOk P w K mg base (L2.CX P w) 2 f fd ["_law_bag_here"] (spOf K cl f_v_law_far) :=
  fn_ok F sc_v_law_far fun cdv A outer s H E hr ok => by
    have F_v_law_pull := F_v_law_pull.mono (k := 1) (by decide)
    have nd : N_v_law_far.Nodup := sc_v_law_far.nd
    have hr1 := hr
    exact (jb_cons (js_set 1 nd (je_bin op_addAll ops_add (je_bin op_pow ops_pow je_int je_int) (je_call ok hr F_v_law_pull (ja_cons (je_var 0) (ja_cons (je_bin op_pow ops_pow je_int je_int) ja_nil)))))
      (jb_cons (js_if (jt_cmp (op_eqD hr.units) ops_eq (je_call ok hr F_v_law_pull (ja_cons (je_var 0) (ja_cons je_int ja_nil))) je_int) (jb_one (js_set 1 nd (je_bin op_addAll ops_add (je_var 1) (je_bin op_pow ops_pow je_int je_int)))) jb_nil)
      (jb_cons (js_if (jt_cmp (op_eqD hr.units) ops_eq (je_call ok hr F_v_law_pull (ja_cons (je_var 0) (ja_cons je_int ja_nil))) je_int) (jb_one (js_ret (je_bin op_sub ops_sub (je_un un_neg uns_neg je_int) (je_var 1)))) jb_nil)
      (jb_one (js_ret (je_var 1))))))
abbrev s_v_law_height : Stmt := topS 25
abbrev N_v_law_height : List Str := ["_law_bag_here"]
theorem sc_v_law_height : FnScope N_v_law_height ["_law_bag_here"] (defScope s_v_law_height) := ⟨rfl, rfl, rfl, by decide +kernel, rfl, by decide +kernel, by decide +kernel⟩
theorem ok_v_law_height {P : Program} {w : World} {K : PySem.W.Frag} {mg : Str → Option Value} {base : Heap} {cl : Str → Option Addr} (T : Tx K mg cl) {f : Addr} {fd : FuncData} (F : Fun K "_law_height" "_law_height" s_v_law_height f fd) (F_v_law_far : FnAt P w K mg base cl 2 "_law_far" ["_law_bag_here"] f_v_law_far) (F_v_law_pull : FnAt P w K mg base cl 1 "_law_pull" ["_law_bag_here", "_law_amount"] f_v_law_pull) : FnOk P w K mg base (L2.CX P w) 3 f fd ["_law_bag_here"] (spOf K cl f_v_law_height) :=
  fn_ok F sc_v_law_height fun cdv A outer s H E hr ok => by
    have F_v_law_far := F_v_law_far.mono (k := 2) (by decide)
    have F_v_law_pull := F_v_law_pull.mono (k := 2) (by decide)
    have nd : N_v_law_height.Nodup := sc_v_law_height.nd
    have hr1 := hr
    exact (jb_one (js_ret (je_ix (ix_all (hu_of hr)) ops_ix (je_frz (jl_lst (ja_cons (je_call ok hr F_v_law_pull (ja_cons (je_var 0) (ja_cons je_int ja_nil))) (ja_cons (je_call ok hr F_v_law_pull (ja_cons (je_var 0) (ja_cons je_int ja_nil))) (ja_cons (je_bin op_sub ops_sub (je_call ok hr F_v_law_pull (ja_cons (je_var 0) (ja_cons je_int ja_nil))) je_int) (ja_cons (je_call ok hr F_v_law_far (ja_cons (je_var 0) ja_nil)) ja_nil)))))) (je_bin op_modN ops_mod (je_bin op_fdivN ops_div (je_call ok hr F_v_law_pull (ja_cons (je_var 0) (ja_cons je_int ja_nil))) je_int) je_int))))
abbrev s_v_law_rim : Stmt := topS 26
abbrev N_v_law_rim : List Str := ["_law_bag_here", "_law_most", "_law_size", "_law_kind", "_law_wide", "_law_cell"]
theorem sc_v_law_rim : FnScope N_v_law_rim ["_law_bag_here", "_law_most"] (defScope s_v_law_rim) := ⟨rfl, rfl, rfl, by decide +kernel, rfl, by decide +kernel, by decide +kernel⟩
theorem ok_v_law_rim {P : Program} {w : World} {K : PySem.W.Frag} {mg : Str → Option Value} {base : Heap} {cl : Str → Option Addr} (T : Tx K mg cl) {f : Addr} {fd : FuncData} (F : Fun K "_law_rim" "_law_rim" s_v_law_rim f fd) (F_v_law_height : FnAt P w K mg base cl 3 "_law_height" ["_law_bag_here"] f_v_law_height) (F_v_law_pull : FnAt P w K mg base cl 1 "_law_pull" ["_law_bag_here", "_law_amount"] f_v_law_pull) : FnOk P w K mg base (L2.CX P w) 4 f fd ["_law_bag_here", "_law_most"] (spOf K cl f_v_law_rim) :=
  fn_ok F sc_v_law_rim fun cdv A outer s H E hr ok => by
    have F_v_law_height := F_v_law_height.mono (k := 3) (by decide)
    have F_v_law_pull := F_v_law_pull.mono (k := 3) (by decide)
    have nd : N_v_law_rim.Nodup := sc_v_law_rim.nd
    have hr1 := hr
    exact (jb_cons (js_set 2 nd (je_bin op_addAll ops_add je_int (je_call ok hr F_v_law_pull (ja_cons (je_var 0) (ja_cons (je_bin op_sub ops_sub (je_var 1) je_int) ja_nil)))))
      (jb_cons (js_if (jt_cmp (op_eqD hr.units) ops_eq (je_call ok hr F_v_law_pull (ja_cons (je_var 0) (ja_cons je_int ja_nil))) je_int) (jb_one (js_set 2 nd (je_var 1))) jb_nil)
      (jb_cons (js_set 3 nd (je_call ok hr F_v_law_pull (ja_cons (je_var 0) (ja_cons je_int ja_nil))))
      (jb_cons (js_set 4 nd (je_ix (ix_all (hu_of hr)) ops_ix (je_frz (jl_lst (ja_cons je_int (ja_cons je_int (ja_cons je_int (ja_cons je_int ja_nil)))))) (je_call ok hr F_v_law_pull (ja_cons (je_var 0) (ja_cons je_int ja_nil)))))
      (jb_cons (js_if (jt_cmp (op_eqD hr.units) ops_eq (je_var 3) je_int) (jb_one (js_ret (je_callTy call_tuple_of calls_tuple (by rfl) T.b_tuple (by decide +kernel) (ja_cons (je_frz (jl_lc (own := [("_law_cell", 5)]) rfl nd (ji_rng1 (by rfl) T.b_range (ja_cons (je_var 2) ja_nil)) (blkOk_by (N := N_v_law_rim) (sc := defScope s_v_law_rim) (own := [("_law_cell", 5)]) (by decide +kernel)) (fun _ _ _ _ _ => (jg_name 5 nd)) (fun _ _ _ _ _ => jts_nil) (fun _ _ _ _ _ => (je_call (ok).blk hr F_v_law_height (ja_cons (je_var 0) ja_nil))))) ja_nil)))) jb_nil)
      (jb_cons (js_if (jt_cmp (op_eqD hr.units) ops_eq (je_var 3) je_int) (jb_one (js_ret (je_callTy call_tuple_of calls_tuple (by rfl) T.b_tuple (by decide +kernel) (ja_cons (je_frz (jl_lc (own := [("_law_cell", 5)]) rfl nd (ji_rng1 (by rfl) T.b_range (ja_cons (je_var 2) ja_nil)) (blkOk_by (N := N_v_law_rim) (sc := defScope s_v_law_rim) (own := [("_law_cell", 5)]) (by decide +kernel)) (fun _ _ _ _ _ => (jg_name 5 nd)) (fun _ _ _ _ _ => jts_nil) (fun _ _ _ _ _ => je_int))) ja_nil)))) jb_nil)
      (jb_one (js_ret (je_callTy call_tuple_of calls_tuple (by rfl) T.b_tuple (by decide +kernel) (ja_cons (je_frz (jl_lc (own := [("_law_cell", 5)]) rfl nd (ji_rng1 (by rfl) T.b_range (ja_cons (je_var 2) ja_nil)) (blkOk_by (N := N_v_law_rim) (sc := defScope s_v_law_rim) (own := [("_law_cell", 5)]) (by decide +kernel)) (fun _ _ _ _ _ => (jg_name 5 nd)) (fun _ _ _ _ _ => jts_nil) (fun _ _ _ _ _ => (je_call (ok).blk hr F_v_law_pull (ja_cons (je_var 0) (ja_cons (je_var 4) ja_nil)))))) ja_nil))))))))))
abbrev s_good_drops : Stmt := topS 18
abbrev N_good_drops : List Str := ["drops", "drop"]
theorem sc_good_drops : FnScope N_good_drops ["drops"] (defScope s_good_drops) := ⟨rfl, rfl, rfl, by decide +kernel, rfl, by decide +kernel, by decide +kernel⟩
theorem ok_good_drops {P : Program} {w : World} {K : PySem.W.Frag} {mg : Str → Option Value} {base : Heap} {cl : Str → Option Addr} (T : Tx K mg cl) {f : Addr} {fd : FuncData} (F : Fun K "good_drops" "good_drops" s_good_drops f fd) : FnOk P w K mg base (L2.CX P w) 1 f fd ["drops"] (spOf K cl f_good_drops) :=
  fn_ok F sc_good_drops fun cdv A outer s H E hr ok => by
    have nd : N_good_drops.Nodup := sc_good_drops.nd
    have hr1 := hr
    exact (jb_one (js_ret (je_and (je_chain op_le op_le ops_le ops_le je_int (je_callB call_len calls_len (by rfl) T.b_len PySem.boot_len (ja_cons (je_var 0) ja_nil)) (je_globI' (by rfl) T.c_MOST_PLACES)) (je_one (je_callB (cr_all rfl) calls_all (by rfl) T.b_all (by decide +kernel) (ja_cons (je_frz (jl_lc (own := [("drop", 1)]) rfl nd (ji_seq (je_var 0)) (blkOk_by (N := N_good_drops) (sc := defScope s_good_drops) (own := [("drop", 1)]) (by decide +kernel)) (fun _ _ _ _ _ => (jg_name 1 nd)) (fun _ _ _ _ _ => jts_nil) (fun _ _ _ _ _ => (je_chain op_le op_le ops_le ops_le je_int (je_var 1) (je_globI' (by rfl) T.c_MOST_DROP))))) ja_nil))))))
abbrev s_good_foot : Stmt := topS 19
abbrev N_good_foot : List Str := ["drops", "middle"]
theorem sc_good_foot : FnScope N_good_foot ["drops", "middle"] (defScope s_good_foot) := ⟨rfl, rfl, rfl, by decide +kernel, rfl, by decide +kernel, by decide +kernel⟩
theorem ok_good_foot {P : Program} {w : World} {K : PySem.W.Frag} {mg : Str → Option Value} {base : Heap} {cl : Str → Option Addr} (T : Tx K mg cl) {f : Addr} {fd : FuncData} (F : Fun K "good_foot" "good_foot" s_good_foot f fd) (F_good_drops : FnAt P w K mg base cl 1 "good_drops" ["drops"] f_good_drops) : FnOk P w K mg base (L2.CX P w) 2 f fd ["drops", "middle"] (spOf K cl f_good_foot) :=
  fn_ok F sc_good_foot fun cdv A outer s H E hr ok => by
    have F_good_drops := F_good_drops.mono (k := 1) (by decide)
    have nd : N_good_foot.Nodup := sc_good_foot.nd
    have hr1 := hr
    exact (jb_one (js_ret (je_and (je_call ok hr F_good_drops (ja_cons (je_var 0) ja_nil)) (je_one (je_chain op_le op_lt ops_le ops_lt je_int (je_var 1) (je_callB call_len calls_len (by rfl) T.b_len PySem.boot_len (ja_cons (je_var 0) ja_nil)))))))
abbrev s_Foot_init : Stmt := inClass (topS 20) 0
abbrev N_Foot_init : List Str := ["self", "drops", "middle"]
theorem sc_Foot_init : FnScope N_Foot_init ["self", "drops", "middle"] (defScope s_Foot_init) := ⟨rfl, rfl, rfl, by decide +kernel, rfl, by decide +kernel, by decide +kernel⟩
theorem ok_Foot_init {P : Program} {w : World} {K : PySem.W.Frag} {mg : Str → Option Value} {base : Heap} {cl : Str → Option Addr} (T : Tx K mg cl) {f : Addr} {fd : FuncData} (F : FunD K "__init__" "Foot.__init__" (defArgs s_Foot_init) (defBody s_Foot_init) (defScope s_Foot_init) [V.int 0] [] f fd) (F_good_foot : FnAt P w K mg base cl 2 "good_foot" ["drops", "middle"] f_good_foot) : FnOk P w K mg base (L2.CX P w) 3 f fd ["self", "drops", "middle"] (spOf K cl f_Foot_init) :=
  fn_okD F sc_Foot_init fun cdv A outer s H E hr ok => by
    have F_good_foot := F_good_foot.mono (k := 2) (by decide)
    have nd : N_Foot_init.Nodup := sc_Foot_init.nd
    have hr1 := hr
    exact (jb_cons (js_if (jt_not (jt_val (je_call ok hr F_good_foot (ja_cons (je_var 1) (ja_cons (je_var 2) ja_nil))))) (jb_one (js_raise0 ok rfl T.e_BadFoot)) jb_nil)
      (jb_cons (js_fld T.f_Foot_drops (je_var 0) (je_var 1))
      (jb_one (js_fld T.f_Foot_middle (je_var 0) (je_var 2)))))
abbrev s_Foot_ridden_by : Stmt := inClass (topS 20) 7
abbrev N_Foot_ridden_by : List Str := ["self", "other", "size", "least", "one", "drop", "two", "more", "drops", "at"]
theorem sc_Foot_ridden_by : FnScope N_Foot_ridden_by ["self", "other"] (defScope s_Foot_ridden_by) := ⟨rfl, rfl, rfl, by decide +kernel, rfl, by decide +kernel, by decide +kernel⟩
theorem ok_Foot_ridden_by {P : Program} {w : World} {K : PySem.W.Frag} {mg : Str → Option Value} {base : Heap} {cl : Str → Option Addr} (T : Tx K mg cl) {f : Addr} {fd : FuncData} (F : Fun K "ridden_by" "Foot.ridden_by" s_Foot_ridden_by f fd) (C_Foot : ClsAt P w K mg base cl 3 "Foot" ["self", "drops", "middle"] f_Foot_init) : FnOk P w K mg base (L2.CX P w) 5 f fd ["self", "other"] (spOf K cl f_Foot_ridden_by) :=
  fn_ok F sc_Foot_ridden_by fun cdv A outer s H E hr ok => by
    have C_Foot := C_Foot.mono (k := 3) (by decide)
    have nd : N_Foot_ridden_by.Nodup := sc_Foot_ridden_by.nd
    have hr1 := hr
    exact (jb_cons (js_set 2 nd (je_bin op_sub ops_sub (je_bin op_addAll ops_add (je_callB call_len calls_len (by rfl) T.b_len PySem.boot_len (ja_cons (je_fld T.f_Foot_drops (je_var 0)) ja_nil)) (je_callB call_len calls_len (by rfl) T.b_len PySem.boot_len (ja_cons (je_fld T.f_Foot_drops (je_var 1)) ja_nil))) je_int))
      (jb_cons (js_if (jt_cmp op_gt ops_gt (je_var 2) (je_globI' (by rfl) T.c_MOST_PLACES)) (jb_one (js_raise0 ok rfl T.e_TooWide)) jb_nil)
      (jb_cons (js_setD 3 nd jd_new)
      (jb_cons (js_for ok rfl (ji_enum (by rfl) T.b_enumerate (ja_cons (je_fld T.f_Foot_drops (je_var 0)) ja_nil)) (jg_tup 2 rfl (jgs_cons (jg_name 4 nd) (jgs_cons (jg_name 5 nd) jgs_nil))) (jb_one (js_for ok rfl (ji_enum (by rfl) T.b_enumerate (ja_cons (je_fld T.f_Foot_drops (je_var 1)) ja_nil)) (jg_tup 2 rfl (jgs_cons (jg_name 6 nd) (jgs_cons (jg_name 7 nd) jgs_nil))) (jb_one (js_setKO 3 (hr.mono (by decide)) (je_bin op_addAll ops_add (je_var 4) (je_var 6)) (je_callB (call_min2 rfl) calls_min2 (by rfl) T.b_min (by decide +kernel) (ja_cons (je_bin op_addAll ops_add (je_var 5) (je_var 7)) (ja_cons (je_getO 3 (hr.mono (by decide)) (je_bin op_addAll ops_add (je_var 4) (je_var 6)) (je_bin op_addAll ops_add (je_var 5) (je_var 7))) ja_nil))))))))
      (jb_cons (js_set 8 nd (je_callTy call_tuple_of calls_tuple (by rfl) T.b_tuple (by decide +kernel) (ja_cons (je_frz (jl_lc (own := [("at", 9)]) rfl nd (ji_rng1 (by rfl) T.b_range (ja_cons (je_var 2) ja_nil)) (blkOk_by (N := N_Foot_ridden_by) (sc := defScope s_Foot_ridden_by) (own := [("at", 9)]) (by decide +kernel)) (fun _ _ _ _ _ => (jg_name 9 nd)) (fun _ _ _ _ _ => jts_nil) (fun _ _ _ _ _ => (je_ixKO 3 (hr.mono (by decide)) (je_var 9))))) ja_nil)))
      (jb_cons (js_if (jt_cmp op_gt ops_gt (je_callB (cr_maxT rfl (hu_of hr)) calls_maxT (by rfl) T.b_max PyProof.Rows.boot_max (ja_cons (je_var 8) ja_nil)) (je_globI' (by rfl) T.c_MOST_DROP)) (jb_one (js_raise0 ok rfl T.e_TooWide)) jb_nil)
      (jb_one (js_ret (je_make ok hr C_Foot (ja_cons (je_var 8) (ja_cons (je_bin op_addAll ops_add (je_fld T.f_Foot_middle (je_var 0)) (je_fld T.f_Foot_middle (je_var 1))) ja_nil)))))))))))
abbrev s_v_law_both : Stmt := topS 29
abbrev N_v_law_both : List Str := ["_law_one", "_law_two"]
theorem sc_v_law_both : FnScope N_v_law_both ["_law_one", "_law_two"] (defScope s_v_law_both) := ⟨rfl, rfl, rfl, by decide +kernel, rfl, by decide +kernel, by decide +kernel⟩
theorem ok_v_law_both {P : Program} {w : World} {K : PySem.W.Frag} {mg : Str → Option Value} {base : Heap} {cl : Str → Option Addr} (T : Tx K mg cl) {f : Addr} {fd : FuncData} (F : Fun K "_law_both" "_law_both" s_v_law_both f fd) (M_Foot_ridden_by : MethAt P w K mg base cl 5 "Foot" "ridden_by" ["self", "other"] f_Foot_ridden_by) : FnOk P w K mg base (L2.CX P w) 6 f fd ["_law_one", "_law_two"] (spOf K cl f_v_law_both) :=
  fn_ok F sc_v_law_both fun cdv A outer s H E hr ok => by
    have M_Foot_ridden_by := M_Foot_ridden_by.mono (k := 5) (by decide)
    have nd : N_v_law_both.Nodup := sc_v_law_both.nd
    have hr1 := hr
    exact (jb_one (js_try ok rfl rfl T.s_2ab7e534 (fun W pn xe okb => (jb_one (js_ret (je_meth okb hr M_Foot_ridden_by (je_var 0) (ja_cons (je_var 1) ja_nil))))) (.cons T.h_TooWide rfl (by decide) (fun _ _ _ oks => (jb_one (js_ret je_non))) .nil)))
abbrev s_is_rim : Stmt := topS 8
abbrev N_is_rim : List Str := ["row"]
theorem sc_is_rim : FnScope N_is_rim ["row"] (defScope s_is_rim) := ⟨rfl, rfl, rfl, by decide +kernel, rfl, by decide +kernel, by decide +kernel⟩
theorem ok_is_rim {P : Program} {w : World} {K : PySem.W.Frag} {mg : Str → Option Value} {base : Heap} {cl : Str → Option Addr} (T : Tx K mg cl) {f : Addr} {fd : FuncData} (F : Fun K "is_rim" "is_rim" s_is_rim f fd) : FnOk P w K mg base (L2.CX P w) 1 f fd ["row"] (spOf K cl f_is_rim) :=
  fn_ok F sc_is_rim fun cdv A outer s H E hr ok => by
    have nd : N_is_rim.Nodup := sc_is_rim.nd
    have hr1 := hr
    exact (jb_one (js_ret (je_chain op_le op_le ops_le ops_le (je_globI' (by rfl) T.c_FEWEST) (je_callB call_len calls_len (by rfl) T.b_len PySem.boot_len (ja_cons (je_var 0) ja_nil)) (je_globI' (by rfl) T.c_MOST))))
abbrev s_look_rim : Stmt := topS 9
abbrev N_look_rim : List Str := ["row"]
theorem sc_look_rim : FnScope N_look_rim ["row"] (defScope s_look_rim) := ⟨rfl, rfl, rfl, by decide +kernel, rfl, by decide +kernel, by decide +kernel⟩
theorem ok_look_rim {P : Program} {w : World} {K : PySem.W.Frag} {mg : Str → Option Value} {base : Heap} {cl : Str → Option Addr} (T : Tx K mg cl) {f : Addr} {fd : FuncData} (F : Fun K "look_rim" "look_rim" s_look_rim f fd) (F_is_rim : FnAt P w K mg base cl 1 "is_rim" ["row"] f_is_rim) : FnOk P w K mg base (L2.CX P w) 2 f fd ["row"] (spOf K cl f_look_rim) :=
  fn_ok F sc_look_rim fun cdv A outer s H E hr ok => by
    have F_is_rim := F_is_rim.mono (k := 1) (by decide)
    have nd : N_look_rim.Nodup := sc_look_rim.nd
    have hr1 := hr
    exact (jb_one (js_if (jt_not (jt_val (je_call ok hr F_is_rim (ja_cons (je_var 0) ja_nil)))) (jb_one (js_raise0 ok rfl T.e_BadRim)) jb_nil))
abbrev s_touched : Stmt := topS 11
abbrev N_touched : List Str := ["size", "foot", "angle", "found", "place", "drop"]
theorem sc_touched : FnScope N_touched ["size", "foot", "angle"] (defScope s_touched) := ⟨rfl, rfl, rfl, by decide +kernel, rfl, by decide +kernel, by decide +kernel⟩
theorem ok_touched {P : Program} {w : World} {K : PySem.W.Frag} {mg : Str → Option Value} {base : Heap} {cl : Str → Option Addr} (T : Tx K mg cl) {f : Addr} {fd : FuncData} (F : Fun K "touched" "touched" s_touched f fd) : FnOk P w K mg base (L2.CX P w) 1 f fd ["size", "foot", "angle"] (spOf K cl f_touched) :=
  fn_ok F sc_touched fun cdv A outer s H E hr ok => by
    have nd : N_touched.Nodup := sc_touched.nd
    have hr1 := hr
    exact (jb_cons (js_setO 3 nd (jl_lst ja_nil))
      (jb_cons (js_for ok rfl (ji_enum (by rfl) T.b_enumerate (ja_cons (je_fld T.f_Foot_drops (je_var 1)) ja_nil)) (jg_tup 2 rfl (jgs_cons (jg_name 4 nd) (jgs_cons (jg_name 5 nd) jgs_nil))) (jb_one (js_app 3 (je_tup (ja_cons (je_bin op_modN ops_mod (je_bin op_sub ops_sub (je_bin op_addAll ops_add (je_var 2) (je_var 4)) (je_fld T.f_Foot_middle (je_var 1))) (je_var 0)) (ja_cons (je_var 5) ja_nil))))))
      (jb_one (js_retO 3))))
abbrev s_lift_on : Stmt := topS 12
abbrev N_lift_on : List Str := ["rim", "foot", "angle", "cell", "drop"]
theorem sc_lift_on : FnScope N_lift_on ["rim", "foot", "angle"] (defScope s_lift_on) := ⟨rfl, rfl, rfl, by decide +kernel, rfl, by decide +kernel, by decide +kernel⟩
theorem ok_lift_on {P : Program} {w : World} {K : PySem.W.Frag} {mg : Str → Option Value} {base : Heap} {cl : Str → Option Addr} (T : Tx K mg cl) {f : Addr} {fd : FuncData} (F : Fun K "lift_on" "lift_on" s_lift_on f fd) (F_touched : FnAt P w K mg base cl 1 "touched" ["size", "foot", "angle"] f_touched) : FnOk P w K mg base (L2.CX P w) 2 f fd ["rim", "foot", "angle"] (spOf K cl f_lift_on) :=
  fn_ok F sc_lift_on fun cdv A outer s H E hr ok => by
    have F_touched := F_touched.mono (k := 1) (by decide)
    have nd : N_lift_on.Nodup := sc_lift_on.nd
    have hr1 := hr
    exact (jb_one (js_ret (je_callB (cr_max rfl) calls_maxL (by rfl) T.b_max PyProof.Rows.boot_max (ja_cons (je_frz (jl_lc (own := [("cell", 3), ("drop", 4)]) rfl nd (ji_seq (je_call ok hr F_touched (ja_cons (je_callB call_len calls_len (by rfl) T.b_len PySem.boot_len (ja_cons (je_var 0) ja_nil)) (ja_cons (je_var 1) (ja_cons (je_var 2) ja_nil))))) (blkOk_by (N := N_lift_on) (sc := defScope s_lift_on) (own := [("cell", 3), ("drop", 4)]) (by decide +kernel)) (fun _ _ _ _ _ => (jg_tup 2 rfl (jgs_cons (jg_name 3 nd) (jgs_cons (jg_name 4 nd) jgs_nil)))) (fun _ _ _ _ _ => jts_nil) (fun _ _ _ _ _ => (je_bin op_sub ops_sub (je_ix (ix_all (hu_of hr)) ops_ix (je_var 0) (je_var 3)) (je_var 4))))) ja_nil))))
abbrev s_motion : Stmt := topS 14
abbrev N_motion : List Str := ["rim", "foot", "angle"]
theorem sc_motion : FnScope N_motion ["rim", "foot"] (defScope s_motion) := ⟨rfl, rfl, rfl, by decide +kernel, rfl, by decide +kernel, by decide +kernel⟩
theorem ok_motion {P : Program} {w : World} {K : PySem.W.Frag} {mg : Str → Option Value} {base : Heap} {cl : Str → Option Addr} (T : Tx K mg cl) {f : Addr} {fd : FuncData} (F : Fun K "motion" "motion" s_motion f fd) (F_lift_on : FnAt P w K mg base cl 2 "lift_on" ["rim", "foot", "angle"] f_lift_on) (F_look_rim : FnAt P w K mg base cl 2 "look_rim" ["row"] f_look_rim) : FnOk P w K mg base (L2.CX P w) 3 f fd ["rim", "foot"] (spOf K cl f_motion) :=
  fn_ok F sc_motion fun cdv A outer s H E hr ok => by
    have F_lift_on := F_lift_on.mono (k := 2) (by decide)
    have F_look_rim := F_look_rim.mono (k := 2) (by decide)
    have nd : N_motion.Nodup := sc_motion.nd
    have hr1 := hr
    exact (jb_cons (js_expr (je_call ok hr F_look_rim (ja_cons (je_var 0) ja_nil)))
      (jb_one (js_ret (je_callTy call_tuple_of calls_tuple (by rfl) T.b_tuple (by decide +kernel) (ja_cons (je_frz (jl_lc (own := [("angle", 2)]) rfl nd (ji_rng1 (by rfl) T.b_range (ja_cons (je_callB call_len calls_len (by rfl) T.b_len PySem.boot_len (ja_cons (je_var 0) ja_nil)) ja_nil)) (blkOk_by (N := N_motion) (sc := defScope s_motion) (own := [("angle", 2)]) (by decide +kernel)) (fun _ _ _ _ _ => (jg_name 2 nd)) (fun _ _ _ _ _ => jts_nil) (fun _ _ _ _ _ => (je_call (ok).blk hr F_lift_on (ja_cons (je_var 0) (ja_cons (je_var 1) (ja_cons (je_var 2) ja_nil))))))) ja_nil)))))
abbrev s_v_law_drops : Stmt := topS 27
abbrev N_v_law_drops : List Str := ["_law_bag_here", "_law_count", "_law_wide", "_law_place"]
theorem sc_v_law_drops : FnScope N_v_law_drops ["_law_bag_here"] (defScope s_v_law_drops) := ⟨rfl, rfl, rfl, by decide +kernel, rfl, by decide +kernel, by decide +kernel⟩
theorem ok_v_law_drops {P : Program} {w : World} {K : PySem.W.Frag} {mg : Str → Option Value} {base : Heap} {cl : Str → Option Addr} (T : Tx K mg cl) {f : Addr} {fd : FuncData} (F : Fun K "_law_drops" "_law_drops" s_v_law_drops f fd) (F_v_law_pull : FnAt P w K mg base cl 1 "_law_pull" ["_law_bag_here", "_law_amount"] f_v_law_pull) : FnOk P w K mg base (L2.CX P w) 2 f fd ["_law_bag_here"] (spOf K cl f_v_law_drops) :=
  fn_ok F sc_v_law_drops fun cdv A outer s H E hr ok => by
    have F_v_law_pull := F_v_law_pull.mono (k := 1) (by decide)
    have nd : N_v_law_drops.Nodup := sc_v_law_drops.nd
    have hr1 := hr
    exact (jb_cons (js_set 1 nd (je_ix (ix_all (hu_of hr)) ops_ix (je_frz (jl_lst (ja_cons je_int (ja_cons je_int (ja_cons je_int (ja_cons (je_bin op_addAll ops_add je_int (je_call ok hr F_v_law_pull (ja_cons (je_var 0) (ja_cons je_int ja_nil)))) (ja_cons je_int ja_nil))))))) (je_call ok hr F_v_law_pull (ja_cons (je_var 0) (ja_cons je_int ja_nil)))))
      (jb_cons (js_set 2 nd (je_ix (ix_all (hu_of hr)) ops_ix (je_frz (jl_lst (ja_cons je_int (ja_cons je_int (ja_cons je_int (ja_cons je_int ja_nil)))))) (je_call ok hr F_v_law_pull (ja_cons (je_var 0) (ja_cons je_int ja_nil)))))
      (jb_one (js_ret (je_callTy call_tuple_of calls_tuple (by rfl) T.b_tuple (by decide +kernel) (ja_cons (je_frz (jl_lc (own := [("_law_place", 3)]) rfl nd (ji_rng1 (by rfl) T.b_range (ja_cons (je_var 1) ja_nil)) (blkOk_by (N := N_v_law_drops) (sc := defScope s_v_law_drops) (own := [("_law_place", 3)]) (by decide +kernel)) (fun _ _ _ _ _ => (jg_name 3 nd)) (fun _ _ _ _ _ => jts_nil) (fun _ _ _ _ _ => (je_call (ok).blk hr F_v_law_pull (ja_cons (je_var 0) (ja_cons (je_var 2) ja_nil)))))) ja_nil))))))
abbrev s_v_law_pair : Stmt := topS 28
abbrev N_v_law_pair : List Str := ["_law_bag_here", "_law_drops_here"]
theorem sc_v_law_pair : FnScope N_v_law_pair ["_law_bag_here"] (defScope s_v_law_pair) := ⟨rfl, rfl, rfl, by decide +kernel, rfl, by decide +kernel, by decide +kernel⟩
theorem ok_v_law_pair {P : Program} {w : World} {K : PySem.W.Frag} {mg : Str → Option Value} {base : Heap} {cl : Str → Option Addr} (T : Tx K mg cl) {f : Addr} {fd : FuncData} (F : Fun K "_law_pair" "_law_pair" s_v_law_pair f fd) (F_v_law_drops : FnAt P w K mg base cl 2 "_law_drops" ["_law_bag_here"] f_v_law_drops) (F_v_law_pull : FnAt P w K mg base cl 1 "_law_pull" ["_law_bag_here", "_law_amount"] f_v_law_pull) : FnOk P w K mg base (L2.CX P w) 3 f fd ["_law_bag_here"] (spOf K cl f_v_law_pair) :=
  fn_ok F sc_v_law_pair fun cdv A outer s H E hr ok => by
    have F_v_law_drops := F_v_law_drops.mono (k := 2) (by decide)
    have F_v_law_pull := F_v_law_pull.mono (k := 2) (by decide)
    have nd : N_v_law_pair.Nodup := sc_v_law_pair.nd
    have hr1 := hr
    exact (jb_cons (js_set 1 nd (je_call ok hr F_v_law_drops (ja_cons (je_var 0) ja_nil)))
      (jb_one (js_ret (je_tup (ja_cons (je_var 1) (ja_cons (je_call ok hr F_v_law_pull (ja_cons (je_var 0) (ja_cons (je_callB call_len calls_len (by rfl) T.b_len PySem.boot_len (ja_cons (je_var 1) ja_nil)) ja_nil))) ja_nil))))))
abbrev s_Foot_about : Stmt := inClass (topS 20) 6
abbrev N_Foot_about : List Str := ["self"]
theorem sc_Foot_about : FnScope N_Foot_about ["self"] (defScope s_Foot_about) := ⟨rfl, rfl, rfl, by decide +kernel, rfl, by decide +kernel, by decide +kernel⟩
theorem ok_Foot_about {P : Program} {w : World} {K : PySem.W.Frag} {mg : Str → Option Value} {base : Heap} {cl : Str → Option Addr} (T : Tx K mg cl) {f : Addr} {fd : FuncData} (F : Fun K "about" "Foot.about" s_Foot_about f fd) (C_Foot : ClsAt P w K mg base cl 3 "Foot" ["self", "drops", "middle"] f_Foot_init) : FnOk P w K mg base (L2.CX P w) 5 f fd ["self"] (spOf K cl f_Foot_about) :=
  fn_ok F sc_Foot_about fun cdv A outer s H E hr ok => by
    have C_Foot := C_Foot.mono (k := 3) (by decide)
    have nd : N_Foot_about.Nodup := sc_Foot_about.nd
    have hr1 := hr
    exact (jb_one (js_ret (je_make ok hr C_Foot (ja_cons (je_revT (je_fld T.f_Foot_drops (je_var 0))) (ja_cons (je_bin op_sub ops_sub (je_bin op_sub ops_sub (je_callB call_len calls_len (by rfl) T.b_len PySem.boot_len (ja_cons (je_fld T.f_Foot_drops (je_var 0)) ja_nil)) je_int) (je_fld T.f_Foot_middle (je_var 0))) ja_nil)))))
abbrev s_lift : Stmt := topS 13
abbrev N_lift : List Str := ["rim", "foot", "angle"]
theorem sc_lift : FnScope N_lift ["rim", "foot", "angle"] (defScope s_lift) := ⟨rfl, rfl, rfl, by decide +kernel, rfl, by decide +kernel, by decide +kernel⟩
theorem ok_lift {P : Program} {w : World} {K : PySem.W.Frag} {mg : Str → Option Value} {base : Heap} {cl : Str → Option Addr} (T : Tx K mg cl) {f : Addr} {fd : FuncData} (F : FunD K "lift" "lift" (defArgs s_lift) (defBody s_lift) (defScope s_lift) [V.int 0] [] f fd) (F_lift_on : FnAt P w K mg base cl 2 "lift_on" ["rim", "foot", "angle"] f_lift_on) (F_look_rim : FnAt P w K mg base cl 2 "look_rim" ["row"] f_look_rim) : FnOk P w K mg base (L2.CX P w) 3 f fd ["rim", "foot", "angle"] (spOf K cl f_lift) :=
  fn_okD F sc_lift fun cdv A outer s H E hr ok => by
    have F_lift_on := F_lift_on.mono (k := 2) (by decide)
    have F_look_rim := F_look_rim.mono (k := 2) (by decide)
    have nd : N_lift.Nodup := sc_lift.nd
    have hr1 := hr
    exact (jb_cons (js_expr (je_call ok hr F_look_rim (ja_cons (je_var 0) ja_nil)))
      (jb_one (js_ret (je_call ok hr F_lift_on (ja_cons (je_var 0) (ja_cons (je_var 1) (ja_cons (je_var 2) ja_nil)))))))
abbrev s_law : Stmt := topS 30
abbrev N_law : List Str := ["_law_script", "_law_bag_here", "_law_rim_here", "_law_size", "_law_pairs", "_law_feet", "_law_one", "_law_two", "_law_three", "_law_both_here", "_law_whole", "_law_later", "_law_by", "_law_moved_on", "_law_told", "_law_about", "_law_step", "_law_drops_here", "_law_middle", "_law_k", "_law_at"]
theorem sc_law : FnScope N_law ["_law_script"] (defScope s_law) := ⟨rfl, rfl, rfl, by decide +kernel, rfl, by decide +kernel, by decide +kernel⟩
theorem ok_law {P : Program} {w : World} {K : PySem.W.Frag} {mg : Str → Option Value} {base : Heap} {cl : Str → Option Addr} (T : Tx K mg cl) {f : Addr} {fd : FuncData} (F : Fun K "law" "law" s_law f fd) (F_v_law_bag : FnAt P w K mg base cl 1 "_law_bag" ["_law_script"] f_v_law_bag) (F_v_law_both : FnAt P w K mg base cl 6 "_law_both" ["_law_one", "_law_two"] f_v_law_both) (F_v_law_pair : FnAt P w K mg base cl 3 "_law_pair" ["_law_bag_here"] f_v_law_pair) (F_v_law_pull : FnAt P w K mg base cl 1 "_law_pull" ["_law_bag_here", "_law_amount"] f_v_law_pull) (F_v_law_rim : FnAt P w K mg base cl 4 "_law_rim" ["_law_bag_here", "_law_most"] f_v_law_rim) (F_lift : FnAt P w K mg base cl 3 "lift" ["rim", "foot", "angle"] f_lift) (F_motion : FnAt P w K mg base cl 3 "motion" ["rim", "foot"] f_motion) (C_Foot : ClsAt P w K mg base cl 3 "Foot" ["self", "drops", "middle"] f_Foot_init) (M_Foot_about : MethAt P w K mg base cl 5 "Foot" "about" ["self"] f_Foot_about) : FnOk P w K mg base (L2.CX P w) 7 f fd ["_law_script"] (spOf K cl f_law_k07) :=
  fn_ok F sc_law fun cdv A outer s H E hr ok => by
    have F_v_law_bag := F_v_law_bag.mono (k := 6) (by decide)
    have F_v_law_both := F_v_law_both.mono (k := 6) (by decide)
    have F_v_law_pair := F_v_law_pair.mono (k := 6) (by decide)
    have F_v_law_pull := F_v_law_pull.mono (k := 6) (by decide)
    have F_v_law_rim := F_v_law_rim.mono (k := 6) (by decide)
    have F_lift := F_lift.mono (k := 6) (by decide)
    have F_motion := F_motion.mono (k := 6) (by decide)
    have C_Foot := C_Foot.mono (k := 5) (by decide)
    have M_Foot_about := M_Foot_about.mono (k := 6) (by decide)
    have nd : N_law.Nodup := sc_law.nd
    have hr1 := hr
    exact (jb_cons (js_set 1 nd (je_cell (jl_call ok hr F_v_law_bag (ja_cons (je_var 0) ja_nil))))
      (jb_cons (js_set 2 nd (je_call ok hr F_v_law_rim (ja_cons (je_var 1) (ja_cons je_int ja_nil))))
      (jb_cons (js_set 3 nd (je_callB call_len calls_len (by rfl) T.b_len PySem.boot_len (ja_cons (je_var 2) ja_nil)))
      (jb_cons (js_setLc 4 (own := [("_law_step", 16)]) rfl nd rfl (ji_rng1 (by rfl) T.b_range (ja_cons je_int ja_nil)) (blkOk_by (N := N_law) (sc := defScope s_law) (own := [("_law_step", 16)]) (by decide +kernel)) (fun _ _ _ _ _ => (jg_name 16 nd)) (fun _ _ _ _ _ => jts_nil) (fun _ _ _ _ _ => (je_call (ok).blk hr F_v_law_pair (ja_cons (je_var 1) ja_nil))))
      (jb_cons (js_setLc 5 (own := [("_law_drops_here", 17), ("_law_middle", 18)]) rfl nd rfl (ji_seq (je_var 4)) (blkOk_by (N := N_law) (sc := defScope s_law) (own := [("_law_drops_here", 17), ("_law_middle", 18)]) (by decide +kernel)) (fun _ _ _ _ _ => (jg_tup 2 rfl (jgs_cons (jg_name 17 nd) (jgs_cons (jg_name 18 nd) jgs_nil)))) (fun _ _ _ _ _ => jts_nil) (fun _ _ _ _ _ => (je_make (ok).blk hr C_Foot (ja_cons (je_slice sl_all sls_all (je_var 17) jo_none (jo_some je_int)) (ja_cons (je_callB (call_min3 rfl) calls_min3 (by rfl) T.b_min (by decide +kernel) (ja_cons je_int (ja_cons (je_var 18) (ja_cons (je_bin op_sub ops_sub (je_callB call_len calls_len (by rfl) T.b_len PySem.boot_len (ja_cons (je_var 17) ja_nil)) je_int) ja_nil)))) ja_nil)))))
      (jb_cons (js_setT (jg_lst 3 rfl (jgs_cons (jg_name 6 nd) (jgs_cons (jg_name 7 nd) (jgs_cons (jg_name 8 nd) jgs_nil)))) (je_var 5))
      (jb_cons (js_set 9 nd (je_call ok hr F_v_law_both (ja_cons (je_var 6) (ja_cons (je_var 7) ja_nil))))
      (jb_cons (js_if (jt_notN (je_var 9)) (jb_cons (js_if (jt_cmp (op_neD hr.units) ops_ne (je_call ok hr F_motion (ja_cons (je_var 2) (ja_cons (je_var 9) ja_nil))) (je_call ok hr F_motion (ja_cons (je_call ok hr F_motion (ja_cons (je_var 2) (ja_cons (je_var 6) ja_nil))) (ja_cons (je_var 7) ja_nil)))) (jb_one (js_ret je_bl)) jb_nil)
      (jb_cons (js_set 10 nd (je_call ok hr F_v_law_both (ja_cons (je_var 9) (ja_cons (je_var 8) ja_nil))))
      (jb_one (js_if (jt_notN (je_var 10)) (jb_cons (js_if (jt_cmp (op_neD hr.units) ops_ne (je_call ok hr F_motion (ja_cons (je_var 2) (ja_cons (je_var 10) ja_nil))) (je_call ok hr F_motion (ja_cons (je_call ok hr F_motion (ja_cons (je_call ok hr F_motion (ja_cons (je_var 2) (ja_cons (je_var 6) ja_nil))) (ja_cons (je_var 7) ja_nil))) (ja_cons (je_var 8) ja_nil)))) (jb_one (js_ret je_bl)) jb_nil)
      (jb_cons (js_set 11 nd (je_call ok hr F_v_law_both (ja_cons (je_var 7) (ja_cons (je_var 8) ja_nil))))
      (jb_one (js_if (jt_w (jw_and (jt_notN (je_var 11)) (jw_and1 (jt_cmp (op_neD hr.units) ops_ne (je_call ok hr F_motion (ja_cons (je_var 2) (ja_cons (je_var 10) ja_nil))) (je_call ok hr F_motion (ja_cons (je_call ok hr F_motion (ja_cons (je_var 2) (ja_cons (je_var 6) ja_nil))) (ja_cons (je_var 11) ja_nil))))))) (jb_one (js_ret je_bl)) jb_nil)))) jb_nil)))) jb_nil)
      (jb_cons (js_set 12 nd (je_call ok hr F_v_law_pull (ja_cons (je_var 1) (ja_cons (je_bin op_mulAll ops_mul je_int (je_var 3)) ja_nil))))
      (jb_cons (js_set 13 nd (je_callTy call_tuple_of calls_tuple (by rfl) T.b_tuple (by decide +kernel) (ja_cons (je_frz (jl_lc (own := [("_law_k", 19)]) rfl nd (ji_rng1 (by rfl) T.b_range (ja_cons (je_var 3) ja_nil)) (blkOk_by (N := N_law) (sc := defScope s_law) (own := [("_law_k", 19)]) (by decide +kernel)) (fun _ _ _ _ _ => (jg_name 19 nd)) (fun _ _ _ _ _ => jts_nil) (fun _ _ _ _ _ => (je_ix (ix_all (hu_of hr)) ops_ix (je_var 2) (je_bin op_modN ops_mod (je_bin op_addAll ops_add (je_var 19) (je_var 12)) (je_var 3)))))) ja_nil)))
      (jb_cons (js_set 14 nd (je_call ok hr F_motion (ja_cons (je_var 2) (ja_cons (je_var 6) ja_nil))))
      (jb_cons (js_if (jt_cmp (op_neD hr.units) ops_ne (je_call ok hr F_motion (ja_cons (je_var 13) (ja_cons (je_var 6) ja_nil))) (je_callTy call_tuple_of calls_tuple (by rfl) T.b_tuple (by decide +kernel) (ja_cons (je_frz (jl_lc (own := [("_law_k", 19)]) rfl nd (ji_rng1 (by rfl) T.b_range (ja_cons (je_var 3) ja_nil)) (blkOk_by (N := N_law) (sc := defScope s_law) (own := [("_law_k", 19)]) (by decide +kernel)) (fun _ _ _ _ _ => (jg_name 19 nd)) (fun _ _ _ _ _ => jts_nil) (fun _ _ _ _ _ => (je_ix (ix_all (hu_of hr)) ops_ix (je_var 14) (je_bin op_modN ops_mod (je_bin op_addAll ops_add (je_var 19) (je_var 12)) (je_var 3)))))) ja_nil))) (jb_one (js_ret je_bl)) jb_nil)
      (jb_cons (js_set 15 nd (je_callTy call_tuple_of calls_tuple (by rfl) T.b_tuple (by decide +kernel) (ja_cons (je_frz (jl_lc (own := [("_law_k", 19)]) rfl nd (ji_rng1 (by rfl) T.b_range (ja_cons (je_var 3) ja_nil)) (blkOk_by (N := N_law) (sc := defScope s_law) (own := [("_law_k", 19)]) (by decide +kernel)) (fun _ _ _ _ _ => (jg_name 19 nd)) (fun _ _ _ _ _ => jts_nil) (fun _ _ _ _ _ => (je_ix (ix_all (hu_of hr)) ops_ix (je_var 2) (je_bin op_sub ops_sub je_int (je_var 19)))))) ja_nil)))
      (jb_cons (js_if (jt_cmp (op_neD hr.units) ops_ne (je_call ok hr F_motion (ja_cons (je_var 15) (ja_cons (je_meth0 ok hr M_Foot_about (je_var 6)) ja_nil))) (je_callTy call_tuple_of calls_tuple (by rfl) T.b_tuple (by decide +kernel) (ja_cons (je_frz (jl_lc (own := [("_law_k", 19)]) rfl nd (ji_rng1 (by rfl) T.b_range (ja_cons (je_var 3) ja_nil)) (blkOk_by (N := N_law) (sc := defScope s_law) (own := [("_law_k", 19)]) (by decide +kernel)) (fun _ _ _ _ _ => (jg_name 19 nd)) (fun _ _ _ _ _ => jts_nil) (fun _ _ _ _ _ => (je_ix (ix_all (hu_of hr)) ops_ix (je_var 14) (je_bin op_sub ops_sub je_int (je_var 19)))))) ja_nil))) (jb_one (js_ret je_bl)) jb_nil)
      (jb_one (js_ret (je_callB (cr_all rfl) calls_all (by rfl) T.b_all (by decide +kernel) (ja_cons (je_frz (jl_lc (own := [("_law_at", 20)]) rfl nd (ji_rng2 (by rfl) T.b_range (ja_cons (je_bin op_sub ops_sub je_int (je_var 3)) (ja_cons (je_bin op_mulAll ops_mul je_int (je_var 3)) ja_nil))) (blkOk_by (N := N_law) (sc := defScope s_law) (own := [("_law_at", 20)]) (by decide +kernel)) (fun _ _ _ _ _ => (jg_name 20 nd)) (fun _ _ _ _ _ => jts_nil) (fun _ _ _ _ _ => (je_cmp (op_eqD hr.units) ops_eq (je_call (ok).blk hr F_lift (ja_cons (je_var 2) (ja_cons (je_var 6) (ja_cons (je_var 20) ja_nil)))) (je_ix (ix_all (hu_of hr)) ops_ix (je_var 14) (je_bin op_modN ops_mod (je_var 20) (je_var 3))))))) ja_nil))))))))))))))))))
theorem all_mk {l : PySem.W.OpenLaw} {w : World} {K : PySem.W.Frag} {h : Heap} {mg : Str → Option Value} {fa : Addr} (X : K.In h) (G : h.Ns mainGlobals mg) (hfa : mg "law" = some (.ref fa))
    {C_BadFoot : Addr}
    {C_BadRim : Addr}
    {C_Foot : Addr}
    {C_TooWide : Addr}
    {fn_v_law_bag : Addr} {od_v_law_bag an_v_law_bag : Option Addr} {sl_v_law_bag : Array (Option Value)} {oc_v_law_bag kV_v_law_bag dc_v_law_bag pm_v_law_bag cd_v_law_bag ct_v_law_bag : Value}
    {fn_v_law_pull : Addr} {od_v_law_pull an_v_law_pull : Option Addr} {sl_v_law_pull : Array (Option Value)} {oc_v_law_pull kV_v_law_pull dc_v_law_pull pm_v_law_pull cd_v_law_pull ct_v_law_pull : Value}
    {fn_v_law_far : Addr} {od_v_law_far an_v_law_far : Option Addr} {sl_v_law_far : Array (Option Value)} {oc_v_law_far kV_v_law_far dc_v_law_far pm_v_law_far cd_v_law_far ct_v_law_far : Value}
    {fn_v_law_height : Addr} {od_v_law_height an_v_law_height : Option Addr} {sl_v_law_height : Array (Option Value)} {oc_v_law_height kV_v_law_height dc_v_law_height pm_v_law_height cd_v_law_height ct_v_law_height : Value}
    {fn_v_law_rim : Addr} {od_v_law_rim an_v_law_rim : Option Addr} {sl_v_law_rim : Array (Option Value)} {oc_v_law_rim kV_v_law_rim dc_v_law_rim pm_v_law_rim cd_v_law_rim ct_v_law_rim : Value}
    {fn_good_drops : Addr} {od_good_drops an_good_drops : Option Addr} {sl_good_drops : Array (Option Value)} {oc_good_drops kV_good_drops dc_good_drops pm_good_drops cd_good_drops ct_good_drops : Value}
    {fn_good_foot : Addr} {od_good_foot an_good_foot : Option Addr} {sl_good_foot : Array (Option Value)} {oc_good_foot kV_good_foot dc_good_foot pm_good_foot cd_good_foot ct_good_foot : Value}
    {fn_Foot_init : Addr} {od_Foot_init an_Foot_init : Option Addr} {sl_Foot_init : Array (Option Value)} {oc_Foot_init kV_Foot_init dc_Foot_init pm_Foot_init cd_Foot_init ct_Foot_init : Value}
    {T_Foot_init : Addr} {cT_Foot_init : Value} {dT_Foot_init : Option Addr} {nT_Foot_init : Nat} {sT_Foot_init : Array (Option Value)} {t0_Foot_init : Tok}
    {fn_Foot_ridden_by : Addr} {od_Foot_ridden_by an_Foot_ridden_by : Option Addr} {sl_Foot_ridden_by : Array (Option Value)} {oc_Foot_ridden_by kV_Foot_ridden_by dc_Foot_ridden_by pm_Foot_ridden_by cd_Foot_ridden_by ct_Foot_ridden_by : Value}
    {fn_v_law_both : Addr} {od_v_law_both an_v_law_both : Option Addr} {sl_v_law_both : Array (Option Value)} {oc_v_law_both kV_v_law_both dc_v_law_both pm_v_law_both cd_v_law_both ct_v_law_both : Value}
    {fn_is_rim : Addr} {od_is_rim an_is_rim : Option Addr} {sl_is_rim : Array (Option Value)} {oc_is_rim kV_is_rim dc_is_rim pm_is_rim cd_is_rim ct_is_rim : Value}
    {fn_look_rim : Addr} {od_look_rim an_look_rim : Option Addr} {sl_look_rim : Array (Option Value)} {oc_look_rim kV_look_rim dc_look_rim pm_look_rim cd_look_rim ct_look_rim : Value}
    {fn_touched : Addr} {od_touched an_touched : Option Addr} {sl_touched : Array (Option Value)} {oc_touched kV_touched dc_touched pm_touched cd_touched ct_touched : Value}
    {fn_lift_on : Addr} {od_lift_on an_lift_on : Option Addr} {sl_lift_on : Array (Option Value)} {oc_lift_on kV_lift_on dc_lift_on pm_lift_on cd_lift_on ct_lift_on : Value}
    {fn_motion : Addr} {od_motion an_motion : Option Addr} {sl_motion : Array (Option Value)} {oc_motion kV_motion dc_motion pm_motion cd_motion ct_motion : Value}
    {fn_v_law_drops : Addr} {od_v_law_drops an_v_law_drops : Option Addr} {sl_v_law_drops : Array (Option Value)} {oc_v_law_drops kV_v_law_drops dc_v_law_drops pm_v_law_drops cd_v_law_drops ct_v_law_drops : Value}
    {fn_v_law_pair : Addr} {od_v_law_pair an_v_law_pair : Option Addr} {sl_v_law_pair : Array (Option Value)} {oc_v_law_pair kV_v_law_pair dc_v_law_pair pm_v_law_pair cd_v_law_pair ct_v_law_pair : Value}
    {fn_Foot_about : Addr} {od_Foot_about an_Foot_about : Option Addr} {sl_Foot_about : Array (Option Value)} {oc_Foot_about kV_Foot_about dc_Foot_about pm_Foot_about cd_Foot_about ct_Foot_about : Value}
    {fn_lift : Addr} {od_lift an_lift : Option Addr} {sl_lift : Array (Option Value)} {oc_lift kV_lift dc_lift pm_lift cd_lift ct_lift : Value}
    {T_lift : Addr} {cT_lift : Value} {dT_lift : Option Addr} {nT_lift : Nat} {sT_lift : Array (Option Value)} {t0_lift : Tok}
    {fn_law : Addr} {od_law an_law : Option Addr} {sl_law : Array (Option Value)} {oc_law kV_law dc_law pm_law cd_law ct_law : Value}
    {tc_FEWEST : Tok}
    {tc_MOST : Tok}
    {tc_MOST_DROP : Tok}
    {tc_MOST_PLACES : Tok}
    (gC_BadFoot : PySem.W.nsIn K mainGlobals "BadFoot" = some (some (.ref C_BadFoot)))
    (gC_BadRim : PySem.W.nsIn K mainGlobals "BadRim" = some (some (.ref C_BadRim)))
    (gC_Foot : PySem.W.nsIn K mainGlobals "Foot" = some (some (.ref C_Foot)))
    (gC_TooWide : PySem.W.nsIn K mainGlobals "TooWide" = some (some (.ref C_TooWide)))
    (a_v_law_bag : PySem.W.nsIn K mainGlobals "_law_bag" = some (some (.ref fn_v_law_bag)))
    (l_v_law_bag : K.lookup fn_v_law_bag = some ⟨oc_v_law_bag, od_v_law_bag, .func (PySem.W.fnOf "_law_bag" "_law_bag" (defArgs s_v_law_bag) (defBody s_v_law_bag) (defScope s_v_law_bag) .none kV_v_law_bag dc_v_law_bag pm_v_law_bag an_v_law_bag cd_v_law_bag ct_v_law_bag), sl_v_law_bag⟩)
    (c_v_law_bag : PySem.W.codeIn K cd_v_law_bag "_law_bag" = true)
    (k_v_law_bag : PySem.W.keepIn K (.ref fn_v_law_bag) = true)
    (a_v_law_pull : PySem.W.nsIn K mainGlobals "_law_pull" = some (some (.ref fn_v_law_pull)))
    (l_v_law_pull : K.lookup fn_v_law_pull = some ⟨oc_v_law_pull, od_v_law_pull, .func (PySem.W.fnOf "_law_pull" "_law_pull" (defArgs s_v_law_pull) (defBody s_v_law_pull) (defScope s_v_law_pull) .none kV_v_law_pull dc_v_law_pull pm_v_law_pull an_v_law_pull cd_v_law_pull ct_v_law_pull), sl_v_law_pull⟩)
    (c_v_law_pull : PySem.W.codeIn K cd_v_law_pull "_law_pull" = true)
    (k_v_law_pull : PySem.W.keepIn K (.ref fn_v_law_pull) = true)
    (a_v_law_far : PySem.W.nsIn K mainGlobals "_law_far" = some (some (.ref fn_v_law_far)))
    (l_v_law_far : K.lookup fn_v_law_far = some ⟨oc_v_law_far, od_v_law_far, .func (PySem.W.fnOf "_law_far" "_law_far" (defArgs s_v_law_far) (defBody s_v_law_far) (defScope s_v_law_far) .none kV_v_law_far dc_v_law_far pm_v_law_far an_v_law_far cd_v_law_far ct_v_law_far), sl_v_law_far⟩)
    (c_v_law_far : PySem.W.codeIn K cd_v_law_far "_law_far" = true)
    (k_v_law_far : PySem.W.keepIn K (.ref fn_v_law_far) = true)
    (a_v_law_height : PySem.W.nsIn K mainGlobals "_law_height" = some (some (.ref fn_v_law_height)))
    (l_v_law_height : K.lookup fn_v_law_height = some ⟨oc_v_law_height, od_v_law_height, .func (PySem.W.fnOf "_law_height" "_law_height" (defArgs s_v_law_height) (defBody s_v_law_height) (defScope s_v_law_height) .none kV_v_law_height dc_v_law_height pm_v_law_height an_v_law_height cd_v_law_height ct_v_law_height), sl_v_law_height⟩)
    (c_v_law_height : PySem.W.codeIn K cd_v_law_height "_law_height" = true)
    (k_v_law_height : PySem.W.keepIn K (.ref fn_v_law_height) = true)
    (a_v_law_rim : PySem.W.nsIn K mainGlobals "_law_rim" = some (some (.ref fn_v_law_rim)))
    (l_v_law_rim : K.lookup fn_v_law_rim = some ⟨oc_v_law_rim, od_v_law_rim, .func (PySem.W.fnOf "_law_rim" "_law_rim" (defArgs s_v_law_rim) (defBody s_v_law_rim) (defScope s_v_law_rim) .none kV_v_law_rim dc_v_law_rim pm_v_law_rim an_v_law_rim cd_v_law_rim ct_v_law_rim), sl_v_law_rim⟩)
    (c_v_law_rim : PySem.W.codeIn K cd_v_law_rim "_law_rim" = true)
    (k_v_law_rim : PySem.W.keepIn K (.ref fn_v_law_rim) = true)
    (a_good_drops : PySem.W.nsIn K mainGlobals "good_drops" = some (some (.ref fn_good_drops)))
    (l_good_drops : K.lookup fn_good_drops = some ⟨oc_good_drops, od_good_drops, .func (PySem.W.fnOf "good_drops" "good_drops" (defArgs s_good_drops) (defBody s_good_drops) (defScope s_good_drops) .none kV_good_drops dc_good_drops pm_good_drops an_good_drops cd_good_drops ct_good_drops), sl_good_drops⟩)
    (c_good_drops : PySem.W.codeIn K cd_good_drops "good_drops" = true)
    (k_good_drops : PySem.W.keepIn K (.ref fn_good_drops) = true)
    (a_good_foot : PySem.W.nsIn K mainGlobals "good_foot" = some (some (.ref fn_good_foot)))
    (l_good_foot : K.lookup fn_good_foot = some ⟨oc_good_foot, od_good_foot, .func (PySem.W.fnOf "good_foot" "good_foot" (defArgs s_good_foot) (defBody s_good_foot) (defScope s_good_foot) .none kV_good_foot dc_good_foot pm_good_foot an_good_foot cd_good_foot ct_good_foot), sl_good_foot⟩)
    (c_good_foot : PySem.W.codeIn K cd_good_foot "good_foot" = true)
    (k_good_foot : PySem.W.keepIn K (.ref fn_good_foot) = true)
    (a_Foot_init : PySem.W.findIn K (.ref C_Foot) "__init__" = some (some (.ref fn_Foot_init)))
    (i_Foot_init : PySem.W.isFn K (.ref fn_Foot_init) = true)
    (l_Foot_init : K.lookup fn_Foot_init = some ⟨oc_Foot_init, od_Foot_init, .func (PySem.W.fnOf "__init__" "Foot.__init__" (defArgs s_Foot_init) (defBody s_Foot_init) (defScope s_Foot_init) (.ref T_Foot_init) kV_Foot_init dc_Foot_init pm_Foot_init an_Foot_init cd_Foot_init ct_Foot_init), sl_Foot_init⟩)
    (c_Foot_init : PySem.W.codeIn K cd_Foot_init "Foot.__init__" = true)
    (k_Foot_init : PySem.W.keepIn K (.ref fn_Foot_init) = true)
    (d_Foot_init : K.lookup T_Foot_init = some ⟨cT_Foot_init, dT_Foot_init, .seq #[.int 0 t0_Foot_init] nT_Foot_init, sT_Foot_init⟩)
    (a_Foot_ridden_by : PySem.W.findIn K (.ref C_Foot) "ridden_by" = some (some (.ref fn_Foot_ridden_by)))
    (i_Foot_ridden_by : PySem.W.isFn K (.ref fn_Foot_ridden_by) = true)
    (l_Foot_ridden_by : K.lookup fn_Foot_ridden_by = some ⟨oc_Foot_ridden_by, od_Foot_ridden_by, .func (PySem.W.fnOf "ridden_by" "Foot.ridden_by" (defArgs s_Foot_ridden_by) (defBody s_Foot_ridden_by) (defScope s_Foot_ridden_by) .none kV_Foot_ridden_by dc_Foot_ridden_by pm_Foot_ridden_by an_Foot_ridden_by cd_Foot_ridden_by ct_Foot_ridden_by), sl_Foot_ridden_by⟩)
    (c_Foot_ridden_by : PySem.W.codeIn K cd_Foot_ridden_by "Foot.ridden_by" = true)
    (k_Foot_ridden_by : PySem.W.keepIn K (.ref fn_Foot_ridden_by) = true)
    (a_v_law_both : PySem.W.nsIn K mainGlobals "_law_both" = some (some (.ref fn_v_law_both)))
    (l_v_law_both : K.lookup fn_v_law_both = some ⟨oc_v_law_both, od_v_law_both, .func (PySem.W.fnOf "_law_both" "_law_both" (defArgs s_v_law_both) (defBody s_v_law_both) (defScope s_v_law_both) .none kV_v_law_both dc_v_law_both pm_v_law_both an_v_law_both cd_v_law_both ct_v_law_both), sl_v_law_both⟩)
    (c_v_law_both : PySem.W.codeIn K cd_v_law_both "_law_both" = true)
    (k_v_law_both : PySem.W.keepIn K (.ref fn_v_law_both) = true)
    (a_is_rim : PySem.W.nsIn K mainGlobals "is_rim" = some (some (.ref fn_is_rim)))
    (l_is_rim : K.lookup fn_is_rim = some ⟨oc_is_rim, od_is_rim, .func (PySem.W.fnOf "is_rim" "is_rim" (defArgs s_is_rim) (defBody s_is_rim) (defScope s_is_rim) .none kV_is_rim dc_is_rim pm_is_rim an_is_rim cd_is_rim ct_is_rim), sl_is_rim⟩)
    (c_is_rim : PySem.W.codeIn K cd_is_rim "is_rim" = true)
    (k_is_rim : PySem.W.keepIn K (.ref fn_is_rim) = true)
    (a_look_rim : PySem.W.nsIn K mainGlobals "look_rim" = some (some (.ref fn_look_rim)))
    (l_look_rim : K.lookup fn_look_rim = some ⟨oc_look_rim, od_look_rim, .func (PySem.W.fnOf "look_rim" "look_rim" (defArgs s_look_rim) (defBody s_look_rim) (defScope s_look_rim) .none kV_look_rim dc_look_rim pm_look_rim an_look_rim cd_look_rim ct_look_rim), sl_look_rim⟩)
    (c_look_rim : PySem.W.codeIn K cd_look_rim "look_rim" = true)
    (k_look_rim : PySem.W.keepIn K (.ref fn_look_rim) = true)
    (a_touched : PySem.W.nsIn K mainGlobals "touched" = some (some (.ref fn_touched)))
    (l_touched : K.lookup fn_touched = some ⟨oc_touched, od_touched, .func (PySem.W.fnOf "touched" "touched" (defArgs s_touched) (defBody s_touched) (defScope s_touched) .none kV_touched dc_touched pm_touched an_touched cd_touched ct_touched), sl_touched⟩)
    (c_touched : PySem.W.codeIn K cd_touched "touched" = true)
    (k_touched : PySem.W.keepIn K (.ref fn_touched) = true)
    (a_lift_on : PySem.W.nsIn K mainGlobals "lift_on" = some (some (.ref fn_lift_on)))
    (l_lift_on : K.lookup fn_lift_on = some ⟨oc_lift_on, od_lift_on, .func (PySem.W.fnOf "lift_on" "lift_on" (defArgs s_lift_on) (defBody s_lift_on) (defScope s_lift_on) .none kV_lift_on dc_lift_on pm_lift_on an_lift_on cd_lift_on ct_lift_on), sl_lift_on⟩)
    (c_lift_on : PySem.W.codeIn K cd_lift_on "lift_on" = true)
    (k_lift_on : PySem.W.keepIn K (.ref fn_lift_on) = true)
    (a_motion : PySem.W.nsIn K mainGlobals "motion" = some (some (.ref fn_motion)))
    (l_motion : K.lookup fn_motion = some ⟨oc_motion, od_motion, .func (PySem.W.fnOf "motion" "motion" (defArgs s_motion) (defBody s_motion) (defScope s_motion) .none kV_motion dc_motion pm_motion an_motion cd_motion ct_motion), sl_motion⟩)
    (c_motion : PySem.W.codeIn K cd_motion "motion" = true)
    (k_motion : PySem.W.keepIn K (.ref fn_motion) = true)
    (a_v_law_drops : PySem.W.nsIn K mainGlobals "_law_drops" = some (some (.ref fn_v_law_drops)))
    (l_v_law_drops : K.lookup fn_v_law_drops = some ⟨oc_v_law_drops, od_v_law_drops, .func (PySem.W.fnOf "_law_drops" "_law_drops" (defArgs s_v_law_drops) (defBody s_v_law_drops) (defScope s_v_law_drops) .none kV_v_law_drops dc_v_law_drops pm_v_law_drops an_v_law_drops cd_v_law_drops ct_v_law_drops), sl_v_law_drops⟩)
    (c_v_law_drops : PySem.W.codeIn K cd_v_law_drops "_law_drops" = true)
    (k_v_law_drops : PySem.W.keepIn K (.ref fn_v_law_drops) = true)
    (a_v_law_pair : PySem.W.nsIn K mainGlobals "_law_pair" = some (some (.ref fn_v_law_pair)))
    (l_v_law_pair : K.lookup fn_v_law_pair = some ⟨oc_v_law_pair, od_v_law_pair, .func (PySem.W.fnOf "_law_pair" "_law_pair" (defArgs s_v_law_pair) (defBody s_v_law_pair) (defScope s_v_law_pair) .none kV_v_law_pair dc_v_law_pair pm_v_law_pair an_v_law_pair cd_v_law_pair ct_v_law_pair), sl_v_law_pair⟩)
    (c_v_law_pair : PySem.W.codeIn K cd_v_law_pair "_law_pair" = true)
    (k_v_law_pair : PySem.W.keepIn K (.ref fn_v_law_pair) = true)
    (a_Foot_about : PySem.W.findIn K (.ref C_Foot) "about" = some (some (.ref fn_Foot_about)))
    (i_Foot_about : PySem.W.isFn K (.ref fn_Foot_about) = true)
    (l_Foot_about : K.lookup fn_Foot_about = some ⟨oc_Foot_about, od_Foot_about, .func (PySem.W.fnOf "about" "Foot.about" (defArgs s_Foot_about) (defBody s_Foot_about) (defScope s_Foot_about) .none kV_Foot_about dc_Foot_about pm_Foot_about an_Foot_about cd_Foot_about ct_Foot_about), sl_Foot_about⟩)
    (c_Foot_about : PySem.W.codeIn K cd_Foot_about "Foot.about" = true)
    (k_Foot_about : PySem.W.keepIn K (.ref fn_Foot_about) = true)
    (a_lift : PySem.W.nsIn K mainGlobals "lift" = some (some (.ref fn_lift)))
    (l_lift : K.lookup fn_lift = some ⟨oc_lift, od_lift, .func (PySem.W.fnOf "lift" "lift" (defArgs s_lift) (defBody s_lift) (defScope s_lift) (.ref T_lift) kV_lift dc_lift pm_lift an_lift cd_lift ct_lift), sl_lift⟩)
    (c_lift : PySem.W.codeIn K cd_lift "lift" = true)
    (k_lift : PySem.W.keepIn K (.ref fn_lift) = true)
    (d_lift : K.lookup T_lift = some ⟨cT_lift, dT_lift, .seq #[.int 0 t0_lift] nT_lift, sT_lift⟩)
    (a_law : PySem.W.nsIn K mainGlobals "law" = some (some (.ref fn_law)))
    (l_law : K.lookup fn_law = some ⟨oc_law, od_law, .func (PySem.W.fnOf "law" "law" (defArgs s_law) (defBody s_law) (defScope s_law) .none kV_law dc_law pm_law an_law cd_law ct_law), sl_law⟩)
    (c_law : PySem.W.codeIn K cd_law "law" = true)
    (k_law : PySem.W.keepIn K (.ref fn_law) = true)
    (pg_Foot : PySem.W.plainGet K C_Foot Str.empty = true)
    (hd_Foot : PySem.W.hasDictIn K C_Foot = true)
    (po_Foot : PySem.W.plainOver K C_Foot = true)
    (sa_Foot : PySem.W.findIn K (.ref C_Foot) "__setattr__" = some (some (.builtin "object.__setattr__")))
    (mk_Foot : PySem.W.makesIn K C_Foot = true)
    (kc_Foot : PySem.W.keepIn K (.ref C_Foot) = true)
    (xe_BadFoot : PySem.W.excIn K C_BadFoot [.type "ValueError", .type "Exception", .type "BaseException", .type "object"] "ValueError.__new__" = true)
    (xk_BadFoot : PySem.W.keepIn K (.ref C_BadFoot) = true)
    (xs_BadFoot : PySem.W.subIn K (.ref C_BadFoot) (.type "BaseException") = some true)
    (xt_BadFoot : PySem.W.typeIn K (.ref C_BadFoot) = some (.type "type"))
    (xe_BadRim : PySem.W.excIn K C_BadRim [.type "ValueError", .type "Exception", .type "BaseException", .type "object"] "ValueError.__new__" = true)
    (xk_BadRim : PySem.W.keepIn K (.ref C_BadRim) = true)
    (xs_BadRim : PySem.W.subIn K (.ref C_BadRim) (.type "BaseException") = some true)
    (xt_BadRim : PySem.W.typeIn K (.ref C_BadRim) = some (.type "type"))
    (xe_TooWide : PySem.W.excIn K C_TooWide [.type "ValueError", .type "Exception", .type "BaseException", .type "object"] "ValueError.__new__" = true)
    (xk_TooWide : PySem.W.keepIn K (.ref C_TooWide) = true)
    (xs_TooWide : PySem.W.subIn K (.ref C_TooWide) (.type "BaseException") = some true)
    (xt_TooWide : PySem.W.typeIn K (.ref C_TooWide) = some (.type "type"))
    (xi_TooWide : PySem.W.isClsIn K C_TooWide = true)
    (xm_BadFoot_TooWide : PySem.W.subIn K (.ref C_BadFoot) (.ref C_TooWide) = some false)
    (xm_BadRim_TooWide : PySem.W.subIn K (.ref C_BadRim) (.ref C_TooWide) = some false)
    (xm_TooWide_TooWide : PySem.W.subIn K (.ref C_TooWide) (.ref C_TooWide) = some true)
    (n_Foot_drops : PySem.W.findIn K (.ref C_Foot) "drops" = some none)
    (n_Foot_middle : PySem.W.findIn K (.ref C_Foot) "middle" = some none)
    (z_all : PySem.W.nsIn K mainGlobals "all" = some none)
    (z_enumerate : PySem.W.nsIn K mainGlobals "enumerate" = some none)
    (z_len : PySem.W.nsIn K mainGlobals "len" = some none)
    (z_list : PySem.W.nsIn K mainGlobals "list" = some none)
    (z_max : PySem.W.nsIn K mainGlobals "max" = some none)
    (z_min : PySem.W.nsIn K mainGlobals "min" = some none)
    (z_range : PySem.W.nsIn K mainGlobals "range" = some none)
    (z_tuple : PySem.W.nsIn K mainGlobals "tuple" = some none)
    (y_FEWEST : PySem.W.nsIn K mainGlobals "FEWEST" = some (some (.int 3 tc_FEWEST)))
    (y_MOST : PySem.W.nsIn K mainGlobals "MOST" = some (some (.int 48 tc_MOST)))
    (y_MOST_DROP : PySem.W.nsIn K mainGlobals "MOST_DROP" = some (some (.int 99 tc_MOST_DROP)))
    (y_MOST_PLACES : PySem.W.nsIn K mainGlobals "MOST_PLACES" = some (some (.int 9 tc_MOST_PLACES)))
    (pure_law : ∀ ns : List Int, ns.length ≤ 63 → ∃ s', f_law_k07 [.d (.scr (ns.map D.int))] [] = .ok (.w (.d (.bl true))) s') :
    ∃ fd : FuncData, (∀ (s : Shared) (v : Value), BindsTo s fd ⟨[v], []⟩ [("_law_script", v)]) ∧ ∀ base : Heap, K.In base → base.Ns mainGlobals mg → FnOk l.prog w K mg base (L2.CX l.prog w) 7 fa fd ["_law_script"] (spLaw K) := by
  have e := hfa.symm.trans (PySem.W.mg_of X G a_law)
  cases e
  let cl : Str → Option Addr := fun x => if x = "BadFoot" then some C_BadFoot else if x = "BadRim" then some C_BadRim else if x = "Foot" then some C_Foot else if x = "TooWide" then some C_TooWide else none
  have cl_BadFoot : cl "BadFoot" = some C_BadFoot := by
    show (if ("BadFoot" : Str) = "BadFoot" then some C_BadFoot else if ("BadFoot" : Str) = "BadRim" then some C_BadRim else if ("BadFoot" : Str) = "Foot" then some C_Foot else if ("BadFoot" : Str) = "TooWide" then some C_TooWide else none) = _
    rw [if_pos rfl]
  have cl_BadRim : cl "BadRim" = some C_BadRim := by
    show (if ("BadRim" : Str) = "BadFoot" then some C_BadFoot else if ("BadRim" : Str) = "BadRim" then some C_BadRim else if ("BadRim" : Str) = "Foot" then some C_Foot else if ("BadRim" : Str) = "TooWide" then some C_TooWide else none) = _
    rw [if_neg (by decide), if_pos rfl]
  have cl_Foot : cl "Foot" = some C_Foot := by
    show (if ("Foot" : Str) = "BadFoot" then some C_BadFoot else if ("Foot" : Str) = "BadRim" then some C_BadRim else if ("Foot" : Str) = "Foot" then some C_Foot else if ("Foot" : Str) = "TooWide" then some C_TooWide else none) = _
    rw [if_neg (by decide), if_neg (by decide), if_pos rfl]
  have cl_TooWide : cl "TooWide" = some C_TooWide := by
    show (if ("TooWide" : Str) = "BadFoot" then some C_BadFoot else if ("TooWide" : Str) = "BadRim" then some C_BadRim else if ("TooWide" : Str) = "Foot" then some C_Foot else if ("TooWide" : Str) = "TooWide" then some C_TooWide else none) = _
    rw [if_neg (by decide), if_neg (by decide), if_neg (by decide), if_pos rfl]
  have T : Tx K mg cl := ⟨PySem.W.mg_none_of X G z_all, PySem.W.mg_none_of X G z_enumerate, PySem.W.mg_none_of X G z_len, PySem.W.mg_none_of X G z_list, PySem.W.mg_none_of X G z_max, PySem.W.mg_none_of X G z_min, PySem.W.mg_none_of X G z_range, PySem.W.mg_none_of X G z_tuple, ⟨_, PySem.W.mg_of X G y_FEWEST⟩, ⟨_, PySem.W.mg_of X G y_MOST⟩, ⟨_, PySem.W.mg_of X G y_MOST_DROP⟩, ⟨_, PySem.W.mg_of X G y_MOST_PLACES⟩, ⟨fun C hC => by
      cases (Option.some.inj (cl_Foot.symm.trans hC))
      exact ⟨⟨pg_Foot, hd_Foot, po_Foot, sa_Foot⟩, n_Foot_drops⟩⟩, ⟨fun C hC => by
      cases (Option.some.inj (cl_Foot.symm.trans hC))
      exact ⟨⟨pg_Foot, hd_Foot, po_Foot, sa_Foot⟩, n_Foot_middle⟩⟩, ⟨⟨C_BadFoot, _, _, _, _, cl_BadFoot, PySem.W.mg_of X G gC_BadFoot, PySem.F.excBase_ValueError, xe_BadFoot, xk_BadFoot, xs_BadFoot, xt_BadFoot⟩⟩, ⟨⟨C_BadRim, _, _, _, _, cl_BadRim, PySem.W.mg_of X G gC_BadRim, PySem.F.excBase_ValueError, xe_BadRim, xk_BadRim, xs_BadRim, xt_BadRim⟩⟩, ⟨⟨C_TooWide, _, _, _, _, cl_TooWide, PySem.W.mg_of X G gC_TooWide, PySem.F.excBase_ValueError, xe_TooWide, xk_TooWide, xs_TooWide, xt_TooWide⟩⟩, ⟨C_TooWide, cl_TooWide, PySem.W.mg_of X G gC_TooWide⟩, subT_ok (by
      intro q hq
      simp only [List.mem_cons, List.not_mem_nil, or_false] at hq
      rcases hq with rfl | rfl | rfl
      · exact ⟨C_BadFoot, C_TooWide, cl_BadFoot, cl_TooWide, exm_pair xs_TooWide xi_TooWide xt_TooWide xm_BadFoot_TooWide⟩
      · exact ⟨C_BadRim, C_TooWide, cl_BadRim, cl_TooWide, exm_pair xs_TooWide xi_TooWide xt_TooWide xm_BadRim_TooWide⟩
      · exact ⟨C_TooWide, C_TooWide, cl_TooWide, cl_TooWide, exm_pair xs_TooWide xi_TooWide xt_TooWide xm_TooWide_TooWide⟩), trivial⟩
  have G_v_law_bag := fun_mk (st := s_v_law_bag) l_v_law_bag c_v_law_bag k_v_law_bag
  have G_v_law_pull := fun_mk (st := s_v_law_pull) l_v_law_pull c_v_law_pull k_v_law_pull
  have G_v_law_far := fun_mk (st := s_v_law_far) l_v_law_far c_v_law_far k_v_law_far
  have G_v_law_height := fun_mk (st := s_v_law_height) l_v_law_height c_v_law_height k_v_law_height
  have G_v_law_rim := fun_mk (st := s_v_law_rim) l_v_law_rim c_v_law_rim k_v_law_rim
  have G_good_drops := fun_mk (st := s_good_drops) l_good_drops c_good_drops k_good_drops
  have G_good_foot := fun_mk (st := s_good_foot) l_good_foot c_good_foot k_good_foot
  have G_Foot_init := fund_mk (st := s_Foot_init) (its := [.int 0 t0_Foot_init]) (dvs := [V.int 0]) l_Foot_init c_Foot_init k_Foot_init d_Foot_init (by simp) (.cons ⟨_, rfl⟩ (.nil))
  have G_Foot_ridden_by := fun_mk (st := s_Foot_ridden_by) l_Foot_ridden_by c_Foot_ridden_by k_Foot_ridden_by
  have G_v_law_both := fun_mk (st := s_v_law_both) l_v_law_both c_v_law_both k_v_law_both
  have G_is_rim := fun_mk (st := s_is_rim) l_is_rim c_is_rim k_is_rim
  have G_look_rim := fun_mk (st := s_look_rim) l_look_rim c_look_rim k_look_rim
  have G_touched := fun_mk (st := s_touched) l_touched c_touched k_touched
  have G_lift_on := fun_mk (st := s_lift_on) l_lift_on c_lift_on k_lift_on
  have G_motion := fun_mk (st := s_motion) l_motion c_motion k_motion
  have G_v_law_drops := fun_mk (st := s_v_law_drops) l_v_law_drops c_v_law_drops k_v_law_drops
  have G_v_law_pair := fun_mk (st := s_v_law_pair) l_v_law_pair c_v_law_pair k_v_law_pair
  have G_Foot_about := fun_mk (st := s_Foot_about) l_Foot_about c_Foot_about k_Foot_about
  have G_lift := fund_mk (st := s_lift) (its := [.int 0 t0_lift]) (dvs := [V.int 0]) l_lift c_lift k_lift d_lift (by simp) (.cons ⟨_, rfl⟩ (.nil))
  have G_law := fun_mk (st := s_law) l_law c_law k_law
  refine ⟨PySem.W.fnOf "law" "law" (defArgs s_law) (defBody s_law) (defScope s_law) .none kV_law dc_law pm_law an_law cd_law ct_law, fun s v => .of_eq rfl, fun base _ _ => ?_⟩
  have O_v_law_bag := ok_v_law_bag (P := l.prog) (w := w) (base := base) T G_v_law_bag
  have A_v_law_bag : FnAt l.prog w K mg base cl 1 "_law_bag" ["_law_script"] f_v_law_bag := ⟨⟨fn_v_law_bag, _, PySem.W.mg_of X G a_v_law_bag, k_v_law_bag, G_v_law_bag.binds (ps := ["_law_script"]) fun _ _ _ _ _ _ us hl => match us, hl with | [_], _ => rfl, O_v_law_bag⟩⟩
  have O_v_law_pull := ok_v_law_pull (P := l.prog) (w := w) (base := base) T G_v_law_pull
  have A_v_law_pull : FnAt l.prog w K mg base cl 1 "_law_pull" ["_law_bag_here", "_law_amount"] f_v_law_pull := ⟨⟨fn_v_law_pull, _, PySem.W.mg_of X G a_v_law_pull, k_v_law_pull, G_v_law_pull.binds (ps := ["_law_bag_here", "_law_amount"]) fun _ _ _ _ _ _ us hl => match us, hl with | [_, _], _ => rfl, O_v_law_pull⟩⟩
  have O_v_law_far := ok_v_law_far (P := l.prog) (w := w) (base := base) T G_v_law_far A_v_law_pull
  have A_v_law_far : FnAt l.prog w K mg base cl 2 "_law_far" ["_law_bag_here"] f_v_law_far := ⟨⟨fn_v_law_far, _, PySem.W.mg_of X G a_v_law_far, k_v_law_far, G_v_law_far.binds (ps := ["_law_bag_here"]) fun _ _ _ _ _ _ us hl => match us, hl with | [_], _ => rfl, O_v_law_far⟩⟩
  have O_v_law_height := ok_v_law_height (P := l.prog) (w := w) (base := base) T G_v_law_height A_v_law_far A_v_law_pull
  have A_v_law_height : FnAt l.prog w K mg base cl 3 "_law_height" ["_law_bag_here"] f_v_law_height := ⟨⟨fn_v_law_height, _, PySem.W.mg_of X G a_v_law_height, k_v_law_height, G_v_law_height.binds (ps := ["_law_bag_here"]) fun _ _ _ _ _ _ us hl => match us, hl with | [_], _ => rfl, O_v_law_height⟩⟩
  have O_v_law_rim := ok_v_law_rim (P := l.prog) (w := w) (base := base) T G_v_law_rim A_v_law_height A_v_law_pull
  have A_v_law_rim : FnAt l.prog w K mg base cl 4 "_law_rim" ["_law_bag_here", "_law_most"] f_v_law_rim := ⟨⟨fn_v_law_rim, _, PySem.W.mg_of X G a_v_law_rim, k_v_law_rim, G_v_law_rim.binds (ps := ["_law_bag_here", "_law_most"]) fun _ _ _ _ _ _ us hl => match us, hl with | [_, _], _ => rfl, O_v_law_rim⟩⟩
  have O_good_drops := ok_good_drops (P := l.prog) (w := w) (base := base) T G_good_drops
  have A_good_drops : FnAt l.prog w K mg base cl 1 "good_drops" ["drops"] f_good_drops := ⟨⟨fn_good_drops, _, PySem.W.mg_of X G a_good_drops, k_good_drops, G_good_drops.binds (ps := ["drops"]) fun _ _ _ _ _ _ us hl => match us, hl with | [_], _ => rfl, O_good_drops⟩⟩
  have O_good_foot := ok_good_foot (P := l.prog) (w := w) (base := base) T G_good_foot A_good_drops
  have A_good_foot : FnAt l.prog w K mg base cl 2 "good_foot" ["drops", "middle"] f_good_foot := ⟨⟨fn_good_foot, _, PySem.W.mg_of X G a_good_foot, k_good_foot, G_good_foot.binds (ps := ["drops", "middle"]) fun _ _ _ _ _ _ us hl => match us, hl with | [_, _], _ => rfl, O_good_foot⟩⟩
  have O_Foot_init := ok_Foot_init (P := l.prog) (w := w) (base := base) T G_Foot_init A_good_foot
  have D_Foot : ClsAt l.prog w K mg base cl 3 "Foot" ["self", "drops", "middle"] f_Foot_init := ⟨⟨C_Foot, fn_Foot_init, _, cl_Foot, PySem.W.mg_of X G gC_Foot, ⟨mk_Foot, a_Foot_init, i_Foot_init, kc_Foot⟩, bindsD (ps := ["self", "drops", "middle"]) G_Foot_init (by simp) fun T kV doc pm an cdv ct us its h1 h2 => match us, its, h1, h2 with | [u0, u1, u2], [i0], _, _ => ⟨_, rfl, rfl⟩, O_Foot_init⟩⟩
  have O_Foot_ridden_by := ok_Foot_ridden_by (P := l.prog) (w := w) (base := base) T G_Foot_ridden_by D_Foot
  have M_Foot_ridden_by : MethAt l.prog w K mg base cl 5 "Foot" "ridden_by" ["self", "other"] f_Foot_ridden_by := ⟨⟨C_Foot, fn_Foot_ridden_by, _, cl_Foot, ⟨pg_Foot, hd_Foot, po_Foot, sa_Foot⟩, ⟨a_Foot_ridden_by, i_Foot_ridden_by, k_Foot_ridden_by⟩, G_Foot_ridden_by.binds (ps := ["self", "other"]) fun _ _ _ _ _ _ us hl => match us, hl with | [_, _], _ => rfl, O_Foot_ridden_by⟩⟩
  have O_v_law_both := ok_v_law_both (P := l.prog) (w := w) (base := base) T G_v_law_both M_Foot_ridden_by
  have A_v_law_both : FnAt l.prog w K mg base cl 6 "_law_both" ["_law_one", "_law_two"] f_v_law_both := ⟨⟨fn_v_law_both, _, PySem.W.mg_of X G a_v_law_both, k_v_law_both, G_v_law_both.binds (ps := ["_law_one", "_law_two"]) fun _ _ _ _ _ _ us hl => match us, hl with | [_, _], _ => rfl, O_v_law_both⟩⟩
  have O_is_rim := ok_is_rim (P := l.prog) (w := w) (base := base) T G_is_rim
  have A_is_rim : FnAt l.prog w K mg base cl 1 "is_rim" ["row"] f_is_rim := ⟨⟨fn_is_rim, _, PySem.W.mg_of X G a_is_rim, k_is_rim, G_is_rim.binds (ps := ["row"]) fun _ _ _ _ _ _ us hl => match us, hl with | [_], _ => rfl, O_is_rim⟩⟩
  have O_look_rim := ok_look_rim (P := l.prog) (w := w) (base := base) T G_look_rim A_is_rim
  have A_look_rim : FnAt l.prog w K mg base cl 2 "look_rim" ["row"] f_look_rim := ⟨⟨fn_look_rim, _, PySem.W.mg_of X G a_look_rim, k_look_rim, G_look_rim.binds (ps := ["row"]) fun _ _ _ _ _ _ us hl => match us, hl with | [_], _ => rfl, O_look_rim⟩⟩
  have O_touched := ok_touched (P := l.prog) (w := w) (base := base) T G_touched
  have A_touched : FnAt l.prog w K mg base cl 1 "touched" ["size", "foot", "angle"] f_touched := ⟨⟨fn_touched, _, PySem.W.mg_of X G a_touched, k_touched, G_touched.binds (ps := ["size", "foot", "angle"]) fun _ _ _ _ _ _ us hl => match us, hl with | [_, _, _], _ => rfl, O_touched⟩⟩
  have O_lift_on := ok_lift_on (P := l.prog) (w := w) (base := base) T G_lift_on A_touched
  have A_lift_on : FnAt l.prog w K mg base cl 2 "lift_on" ["rim", "foot", "angle"] f_lift_on := ⟨⟨fn_lift_on, _, PySem.W.mg_of X G a_lift_on, k_lift_on, G_lift_on.binds (ps := ["rim", "foot", "angle"]) fun _ _ _ _ _ _ us hl => match us, hl with | [_, _, _], _ => rfl, O_lift_on⟩⟩
  have O_motion := ok_motion (P := l.prog) (w := w) (base := base) T G_motion A_lift_on A_look_rim
  have A_motion : FnAt l.prog w K mg base cl 3 "motion" ["rim", "foot"] f_motion := ⟨⟨fn_motion, _, PySem.W.mg_of X G a_motion, k_motion, G_motion.binds (ps := ["rim", "foot"]) fun _ _ _ _ _ _ us hl => match us, hl with | [_, _], _ => rfl, O_motion⟩⟩
  have O_v_law_drops := ok_v_law_drops (P := l.prog) (w := w) (base := base) T G_v_law_drops A_v_law_pull
  have A_v_law_drops : FnAt l.prog w K mg base cl 2 "_law_drops" ["_law_bag_here"] f_v_law_drops := ⟨⟨fn_v_law_drops, _, PySem.W.mg_of X G a_v_law_drops, k_v_law_drops, G_v_law_drops.binds (ps := ["_law_bag_here"]) fun _ _ _ _ _ _ us hl => match us, hl with | [_], _ => rfl, O_v_law_drops⟩⟩
  have O_v_law_pair := ok_v_law_pair (P := l.prog) (w := w) (base := base) T G_v_law_pair A_v_law_drops A_v_law_pull
  have A_v_law_pair : FnAt l.prog w K mg base cl 3 "_law_pair" ["_law_bag_here"] f_v_law_pair := ⟨⟨fn_v_law_pair, _, PySem.W.mg_of X G a_v_law_pair, k_v_law_pair, G_v_law_pair.binds (ps := ["_law_bag_here"]) fun _ _ _ _ _ _ us hl => match us, hl with | [_], _ => rfl, O_v_law_pair⟩⟩
  have O_Foot_about := ok_Foot_about (P := l.prog) (w := w) (base := base) T G_Foot_about D_Foot
  have M_Foot_about : MethAt l.prog w K mg base cl 5 "Foot" "about" ["self"] f_Foot_about := ⟨⟨C_Foot, fn_Foot_about, _, cl_Foot, ⟨pg_Foot, hd_Foot, po_Foot, sa_Foot⟩, ⟨a_Foot_about, i_Foot_about, k_Foot_about⟩, G_Foot_about.binds (ps := ["self"]) fun _ _ _ _ _ _ us hl => match us, hl with | [_], _ => rfl, O_Foot_about⟩⟩
  have O_lift := ok_lift (P := l.prog) (w := w) (base := base) T G_lift A_lift_on A_look_rim
  have A_lift : FnAt l.prog w K mg base cl 3 "lift" ["rim", "foot", "angle"] f_lift := ⟨⟨fn_lift, _, PySem.W.mg_of X G a_lift, k_lift, bindsD (ps := ["rim", "foot", "angle"]) G_lift (by simp) fun T kV doc pm an cdv ct us its h1 h2 => match us, its, h1, h2 with | [u0, u1, u2], [i0], _, _ => ⟨_, rfl, rfl⟩, O_lift⟩⟩
  have O_law := ok_law (P := l.prog) (w := w) (base := base) T G_law A_v_law_bag A_v_law_both A_v_law_pair A_v_law_pull A_v_law_rim A_lift A_motion D_Foot M_Foot_about
  exact law_ok O_law pure_law
theorem pure_law (ns : List Int) (hl : ns.length ≤ 63) : ∃ s', f_law_k07 [.d (.scr (ns.map D.int))] [] = .ok (.w (.d (.bl true))) s' := by
  exact TG.pure_k07 ns hl
end Lk07
open PySem PySem.W PyProof.Rows
set_option maxHeartbeats 0 in
theorem PySem.Challenge.cw_tappet_k07_whole_a_foot_ridden_by_anothe_holds : PySem.Challenge.rw_tappet_k07_whole_a_foot_ridden_by_anothe.Holds := by
  w_on; o_law; k_head; (case hw => w_witness2)
  k_fill
  refine L2.walk_of (l := PySem.Challenge.rw_tappet_k07_whole_a_foot_ridden_by_anothe) (n := 63) (k := 7) (x := "_law_script") (CX := fun w => L2.CX PySem.Challenge.rw_tappet_k07_whole_a_foot_ridden_by_anothe.prog w) (sp := fun w => TG.spLaw _) rfl (by decide) rfl ⟨rfl, by decide, by decide⟩ (fun w h Y => PySem.W.kIn_of Y) ?F (fun _ _ a ns hl _ hS => ⟨a, ns, rfl, hS, hl, fun _ => rfl⟩) (fun _ _ _ _ _ h => TG.cx_false _ _ _ _ h)
  case F =>
    intro w mg fa h KX G hmg
    refine' Lk07.all_mk KX G hmg ?gC_BadFoot ?gC_BadRim ?gC_Foot ?gC_TooWide ?a_v_law_bag ?l_v_law_bag ?c_v_law_bag ?k_v_law_bag ?a_v_law_pull ?l_v_law_pull ?c_v_law_pull ?k_v_law_pull ?a_v_law_far ?l_v_law_far ?c_v_law_far ?k_v_law_far ?a_v_law_height ?l_v_law_height ?c_v_law_height ?k_v_law_height ?a_v_law_rim ?l_v_law_rim ?c_v_law_rim ?k_v_law_rim ?a_good_drops ?l_good_drops ?c_good_drops ?k_good_drops ?a_good_foot ?l_good_foot ?c_good_foot ?k_good_foot ?a_Foot_init ?i_Foot_init ?l_Foot_init ?c_Foot_init ?k_Foot_init ?d_Foot_init ?a_Foot_ridden_by ?i_Foot_ridden_by ?l_Foot_ridden_by ?c_Foot_ridden_by ?k_Foot_ridden_by ?a_v_law_both ?l_v_law_both ?c_v_law_both ?k_v_law_both ?a_is_rim ?l_is_rim ?c_is_rim ?k_is_rim ?a_look_rim ?l_look_rim ?c_look_rim ?k_look_rim ?a_touched ?l_touched ?c_touched ?k_touched ?a_lift_on ?l_lift_on ?c_lift_on ?k_lift_on ?a_motion ?l_motion ?c_motion ?k_motion ?a_v_law_drops ?l_v_law_drops ?c_v_law_drops ?k_v_law_drops ?a_v_law_pair ?l_v_law_pair ?c_v_law_pair ?k_v_law_pair ?a_Foot_about ?i_Foot_about ?l_Foot_about ?c_Foot_about ?k_Foot_about ?a_lift ?l_lift ?c_lift ?k_lift ?d_lift ?a_law ?l_law ?c_law ?k_law ?pg_Foot ?hd_Foot ?po_Foot ?sa_Foot ?mk_Foot ?kc_Foot ?xe_BadFoot ?xk_BadFoot ?xs_BadFoot ?xt_BadFoot ?xe_BadRim ?xk_BadRim ?xs_BadRim ?xt_BadRim ?xe_TooWide ?xk_TooWide ?xs_TooWide ?xt_TooWide ?xi_TooWide ?xm_BadFoot_TooWide ?xm_BadRim_TooWide ?xm_TooWide_TooWide ?n_Foot_drops ?n_Foot_middle ?z_all ?z_enumerate ?z_len ?z_list ?z_max ?z_min ?z_range ?z_tuple ?y_FEWEST ?y_MOST ?y_MOST_DROP ?y_MOST_PLACES Lk07.pure_law
    (case gC_BadFoot => k_is); (case gC_BadRim => k_is); (case gC_Foot => k_is); (case gC_TooWide => k_is); (case a_v_law_bag => k_is); (case l_v_law_bag => k_is)
    (case c_v_law_bag => k_is); (case k_v_law_bag => k_is); (case a_v_law_pull => k_is); (case l_v_law_pull => k_is); (case c_v_law_pull => k_is); (case k_v_law_pull => k_is)
    (case a_v_law_far => k_is); (case l_v_law_far => k_is); (case c_v_law_far => k_is); (case k_v_law_far => k_is); (case a_v_law_height => k_is); (case l_v_law_height => k_is)
    (case c_v_law_height => k_is); (case k_v_law_height => k_is); (case a_v_law_rim => k_is); (case l_v_law_rim => k_is); (case c_v_law_rim => k_is); (case k_v_law_rim => k_is)
    (case a_good_drops => k_is); (case l_good_drops => k_is); (case c_good_drops => k_is); (case k_good_drops => k_is); (case a_good_foot => k_is); (case l_good_foot => k_is)
    (case c_good_foot => k_is); (case k_good_foot => k_is); (case a_Foot_init => k_is); (case i_Foot_init => k_is); (case l_Foot_init => k_is); (case c_Foot_init => k_is)
    (case k_Foot_init => k_is); (case d_Foot_init => k_is); (case a_Foot_ridden_by => k_is); (case i_Foot_ridden_by => k_is); (case l_Foot_ridden_by => k_is); (case c_Foot_ridden_by => k_is)
    (case k_Foot_ridden_by => k_is); (case a_v_law_both => k_is); (case l_v_law_both => k_is); (case c_v_law_both => k_is); (case k_v_law_both => k_is); (case a_is_rim => k_is)
    (case l_is_rim => k_is); (case c_is_rim => k_is); (case k_is_rim => k_is); (case a_look_rim => k_is); (case l_look_rim => k_is); (case c_look_rim => k_is)
    (case k_look_rim => k_is); (case a_touched => k_is); (case l_touched => k_is); (case c_touched => k_is); (case k_touched => k_is); (case a_lift_on => k_is)
    (case l_lift_on => k_is); (case c_lift_on => k_is); (case k_lift_on => k_is); (case a_motion => k_is); (case l_motion => k_is); (case c_motion => k_is)
    (case k_motion => k_is); (case a_v_law_drops => k_is); (case l_v_law_drops => k_is); (case c_v_law_drops => k_is); (case k_v_law_drops => k_is); (case a_v_law_pair => k_is)
    (case l_v_law_pair => k_is); (case c_v_law_pair => k_is); (case k_v_law_pair => k_is); (case a_Foot_about => k_is); (case i_Foot_about => k_is); (case l_Foot_about => k_is)
    (case c_Foot_about => k_is); (case k_Foot_about => k_is); (case a_lift => k_is); (case l_lift => k_is); (case c_lift => k_is); (case k_lift => k_is)
    (case d_lift => k_is); (case a_law => k_is); (case l_law => k_is); (case c_law => k_is); (case k_law => k_is); (case pg_Foot => k_is)
    (case hd_Foot => k_is); (case po_Foot => k_is); (case sa_Foot => k_is); (case mk_Foot => k_is); (case kc_Foot => k_is); (case xe_BadFoot => k_exc)
    (case xk_BadFoot => k_is); (case xs_BadFoot => k_is); (case xt_BadFoot => k_is); (case xe_BadRim => k_exc); (case xk_BadRim => k_is); (case xs_BadRim => k_is)
    (case xt_BadRim => k_is); (case xe_TooWide => k_exc); (case xk_TooWide => k_is); (case xs_TooWide => k_is); (case xt_TooWide => k_is); (case xi_TooWide => k_is)
    (case xm_BadFoot_TooWide => first | rfl | k_is); (case xm_BadRim_TooWide => first | rfl | k_is); (case xm_TooWide_TooWide => first | rfl | k_is); (case n_Foot_drops => k_is); (case n_Foot_middle => k_is); (case z_all => k_is)
    (case z_enumerate => k_is); (case z_len => k_is); (case z_list => k_is); (case z_max => k_is); (case z_min => k_is); (case z_range => k_is)
    (case z_tuple => k_is); (case y_FEWEST => k_is); (case y_MOST => k_is); (case y_MOST_DROP => k_is); (case y_MOST_PLACES => k_is)
